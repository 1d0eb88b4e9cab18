import PyProof.Rows.All
import Wide.All
import OpenK.AllK
import Wide.FinOn
import KE.KStateDown
import Lean
import HandS.ForMost
import HandS.Head0
import HandS.Head1
import HandS.Head2
import HandS.HeadEnd
import HandS.HeadHook1
import HandS.HeadHook2
import HandS.HeadNt
import PyProof.EqAt
import PyProof.EqKinds
import PyProof.TupleCall
import HandS.TupAny
import HandS.TupMul
import HandS.TupLe
import HandS.SortInts
import HandS.IsInst
import HandS.Zip
import PyProof.AutoSeq1
import PyProof.FactsAll.list_3
import PyProof.ListMulRoad
import PyProof.FactsAll.tuple_2
import KE.GoesMore
import PyProof.EnumMake
import HandS.Conv
import HandS.Walk
import HandS.Style
import HandS.NoneIn
import HandS.Exc
import HandS.Dict
import HandS.ClsMeth
import HandS.Text
import PySem.Challenge.RW_trackworth_k56_whole_cut_at_each_move
set_option Elab.async false
set_option linter.all false
set_option maxRecDepth 100000
set_option maxHeartbeats 4000000
namespace TW
open PySem PySem.Spec PyProof.Rows L2
def top (i : Nat) : Stmt := PySem.Challenge.pw_trackworth_k56_whole_cut_at_each_move.main.body.getD i (.Pass ⟨0, 0, 0, 0⟩)
abbrev s_is_whole : Stmt := top 16
abbrev s_is_track : Stmt := top 17
abbrev s_first_wrong : Stmt := top 18
abbrev s_made_yard : Stmt := top 19
abbrev s_made_row : Stmt := top 22
abbrev s_is_number : Stmt := top 24
abbrev s_made_dealing : Stmt := top 25
abbrev s_is_lanes : Stmt := top 27
abbrev s_is_wagons : Stmt := top 28
abbrev s_wagons_of : Stmt := top 29
abbrev s_is_right_stand : Stmt := top 30
abbrev s_check_stand : Stmt := top 31
abbrev s_first_stand : Stmt := top 32
abbrev s_all_home : Stmt := top 33
abbrev s_is_move : Stmt := top 35
abbrev s_with_lane : Stmt := top 36
abbrev s_moved_in : Stmt := top 37
abbrev s_moved_over : Stmt := top 38
abbrev s_moved_out : Stmt := top 39
abbrev s_after_move : Stmt := top 40
abbrev s_tracks_of : Stmt := top 42
abbrev s_is_over_green : Stmt := top 43
abbrev s_green_moves : Stmt := top 44
abbrev s_check_journal : Stmt := top 46
abbrev s_stand_behind : Stmt := top 47
abbrev s_leads_to : Stmt := top 48
abbrev s_replayed : Stmt := top 49
abbrev s_opened : Stmt := top 50
abbrev s_Engine_init : Stmt := inClass (top 51) 0
abbrev s_Engine_again : Stmt := inClass (top 51) 1
abbrev s_Engine_stand : Stmt := inClass (top 51) 2
abbrev s_Engine_journal : Stmt := inClass (top 51) 3
abbrev s_Engine_greens : Stmt := inClass (top 51) 4
abbrev s_Engine_home : Stmt := inClass (top 51) 5
abbrev s_Engine_check_green : Stmt := inClass (top 51) 6
abbrev s_Engine_do : Stmt := inClass (top 51) 7
abbrev s_Engine_cut : Stmt := inClass (top 51) 8
abbrev s_check_picks : Stmt := top 53
abbrev s_run : Stmt := top 54
abbrev s_law_pool : Stmt := top 56
abbrev s_law_draw : Stmt := top 57
abbrev s_law_turned : Stmt := top 58
abbrev s_law_web_yard : Stmt := top 59
abbrev s_law_lane_rising : Stmt := top 60
abbrev s_law_web_ends : Stmt := top 61
abbrev s_law_web_forest : Stmt := top 62
abbrev s_law_web_drawn_forest : Stmt := top 63
abbrev s_law_lane_home_scene : Stmt := top 64
abbrev s_law_lane_tracks : Stmt := top 65
abbrev s_law_lane_all : Stmt := top 66
abbrev s_law_lane_is_green : Stmt := top 67
abbrev s_law_lane_greens : Stmt := top 68
abbrev s_law_pick : Stmt := top 69
abbrev s_law_lane_begun : Stmt := top 70
abbrev s_law_lane_put : Stmt := top 71
abbrev s_law_lane_after : Stmt := top 72
abbrev s_law_lane_run : Stmt := top 73
abbrev s_law_goes_on : Stmt := top 74
abbrev s_law_found_right : Stmt := top 75
abbrev s_law : Stmt := top 76
end TW

namespace TW.Hd
open PySem PySem.Spec PyProof.Rows L2
def d_is_whole : He5.DefA := ⟨fun K => He.ga K "is_whole", "is_whole", "is_whole", defArgs s_is_whole, defBody s_is_whole, defScope s_is_whole, [], []⟩
def d_is_track : He5.DefA := ⟨fun K => He.ga K "is_track", "is_track", "is_track", defArgs s_is_track, defBody s_is_track, defScope s_is_track, [], []⟩
def d_first_wrong : He5.DefA := ⟨fun K => He.ga K "first_wrong", "first_wrong", "first_wrong", defArgs s_first_wrong, defBody s_first_wrong, defScope s_first_wrong, [], []⟩
def d_made_yard : He5.DefA := ⟨fun K => He.ga K "made_yard", "made_yard", "made_yard", defArgs s_made_yard, defBody s_made_yard, defScope s_made_yard, [], []⟩
def d_made_row : He5.DefA := ⟨fun K => He.ga K "made_row", "made_row", "made_row", defArgs s_made_row, defBody s_made_row, defScope s_made_row, [], []⟩
def d_is_number : He5.DefA := ⟨fun K => He.ga K "is_number", "is_number", "is_number", defArgs s_is_number, defBody s_is_number, defScope s_is_number, [], []⟩
def d_made_dealing : He5.DefA := ⟨fun K => He.ga K "made_dealing", "made_dealing", "made_dealing", defArgs s_made_dealing, defBody s_made_dealing, defScope s_made_dealing, [], []⟩
def d_is_lanes : He5.DefA := ⟨fun K => He.ga K "is_lanes", "is_lanes", "is_lanes", defArgs s_is_lanes, defBody s_is_lanes, defScope s_is_lanes, [], []⟩
def d_is_wagons : He5.DefA := ⟨fun K => He.ga K "is_wagons", "is_wagons", "is_wagons", defArgs s_is_wagons, defBody s_is_wagons, defScope s_is_wagons, [], []⟩
def d_wagons_of : He5.DefA := ⟨fun K => He.ga K "wagons_of", "wagons_of", "wagons_of", defArgs s_wagons_of, defBody s_wagons_of, defScope s_wagons_of, [], []⟩
def d_is_right_stand : He5.DefA := ⟨fun K => He.ga K "is_right_stand", "is_right_stand", "is_right_stand", defArgs s_is_right_stand, defBody s_is_right_stand, defScope s_is_right_stand, [], []⟩
def d_check_stand : He5.DefA := ⟨fun K => He.ga K "check_stand", "check_stand", "check_stand", defArgs s_check_stand, defBody s_check_stand, defScope s_check_stand, [], []⟩
def d_first_stand : He5.DefA := ⟨fun K => He.ga K "first_stand", "first_stand", "first_stand", defArgs s_first_stand, defBody s_first_stand, defScope s_first_stand, [], []⟩
def d_all_home : He5.DefA := ⟨fun K => He.ga K "all_home", "all_home", "all_home", defArgs s_all_home, defBody s_all_home, defScope s_all_home, [], []⟩
def d_is_move : He5.DefA := ⟨fun K => He.ga K "is_move", "is_move", "is_move", defArgs s_is_move, defBody s_is_move, defScope s_is_move, [], []⟩
def d_with_lane : He5.DefA := ⟨fun K => He.ga K "with_lane", "with_lane", "with_lane", defArgs s_with_lane, defBody s_with_lane, defScope s_with_lane, [], []⟩
def d_moved_in : He5.DefA := ⟨fun K => He.ga K "moved_in", "moved_in", "moved_in", defArgs s_moved_in, defBody s_moved_in, defScope s_moved_in, [], []⟩
def d_moved_over : He5.DefA := ⟨fun K => He.ga K "moved_over", "moved_over", "moved_over", defArgs s_moved_over, defBody s_moved_over, defScope s_moved_over, [], []⟩
def d_moved_out : He5.DefA := ⟨fun K => He.ga K "moved_out", "moved_out", "moved_out", defArgs s_moved_out, defBody s_moved_out, defScope s_moved_out, [], []⟩
def d_after_move : He5.DefA := ⟨fun K => He.ga K "after_move", "after_move", "after_move", defArgs s_after_move, defBody s_after_move, defScope s_after_move, [], []⟩
def d_tracks_of : He5.DefA := ⟨fun K => He.ga K "tracks_of", "tracks_of", "tracks_of", defArgs s_tracks_of, defBody s_tracks_of, defScope s_tracks_of, [], []⟩
def d_is_over_green : He5.DefA := ⟨fun K => He.ga K "is_over_green", "is_over_green", "is_over_green", defArgs s_is_over_green, defBody s_is_over_green, defScope s_is_over_green, [], []⟩
def d_green_moves : He5.DefA := ⟨fun K => He.ga K "green_moves", "green_moves", "green_moves", defArgs s_green_moves, defBody s_green_moves, defScope s_green_moves, [], []⟩
def d_check_journal : He5.DefA := ⟨fun K => He.ga K "check_journal", "check_journal", "check_journal", defArgs s_check_journal, defBody s_check_journal, defScope s_check_journal, [], []⟩
def d_stand_behind : He5.DefA := ⟨fun K => He.ga K "stand_behind", "stand_behind", "stand_behind", defArgs s_stand_behind, defBody s_stand_behind, defScope s_stand_behind, [], []⟩
def d_leads_to : He5.DefA := ⟨fun K => He.ga K "leads_to", "leads_to", "leads_to", defArgs s_leads_to, defBody s_leads_to, defScope s_leads_to, [], []⟩
def d_replayed : He5.DefA := ⟨fun K => He.ga K "replayed", "replayed", "replayed", defArgs s_replayed, defBody s_replayed, defScope s_replayed, [], []⟩
def d_opened : He5.DefA := ⟨fun K => He.ga K "opened", "opened", "opened", defArgs s_opened, defBody s_opened, defScope s_opened, [], []⟩
def d_Engine_init : He5.DefA := ⟨fun K => He.ma K (He.ga K "Engine") "__init__", "__init__", "Engine.__init__", defArgs s_Engine_init, defBody s_Engine_init, defScope s_Engine_init, [], []⟩
def d_Engine_again : He5.DefA := ⟨fun K => He5.wf K (He.ga K "Engine") "staticmethod" "again", "again", "Engine.again", defArgs s_Engine_again, defBody s_Engine_again, defScope s_Engine_again, [], []⟩
def d_Engine_stand : He5.DefA := ⟨fun K => He.ma K (He.ga K "Engine") "stand", "stand", "Engine.stand", defArgs s_Engine_stand, defBody s_Engine_stand, defScope s_Engine_stand, [], []⟩
def d_Engine_journal : He5.DefA := ⟨fun K => He.ma K (He.ga K "Engine") "journal", "journal", "Engine.journal", defArgs s_Engine_journal, defBody s_Engine_journal, defScope s_Engine_journal, [], []⟩
def d_Engine_greens : He5.DefA := ⟨fun K => He.ma K (He.ga K "Engine") "greens", "greens", "Engine.greens", defArgs s_Engine_greens, defBody s_Engine_greens, defScope s_Engine_greens, [], []⟩
def d_Engine_home : He5.DefA := ⟨fun K => He.ma K (He.ga K "Engine") "home", "home", "Engine.home", defArgs s_Engine_home, defBody s_Engine_home, defScope s_Engine_home, [], []⟩
def d_Engine_check_green : He5.DefA := ⟨fun K => He.ma K (He.ga K "Engine") "check_green", "check_green", "Engine.check_green", defArgs s_Engine_check_green, defBody s_Engine_check_green, defScope s_Engine_check_green, [], []⟩
def d_Engine_do : He5.DefA := ⟨fun K => He.ma K (He.ga K "Engine") "do", "do", "Engine.do", defArgs s_Engine_do, defBody s_Engine_do, defScope s_Engine_do, [], []⟩
def d_Engine_cut : He5.DefA := ⟨fun K => He.ma K (He.ga K "Engine") "cut", "cut", "Engine.cut", defArgs s_Engine_cut, defBody s_Engine_cut, defScope s_Engine_cut, [], []⟩
def d_check_picks : He5.DefA := ⟨fun K => He.ga K "check_picks", "check_picks", "check_picks", defArgs s_check_picks, defBody s_check_picks, defScope s_check_picks, [], []⟩
def d_run : He5.DefA := ⟨fun K => He.ga K "run", "run", "run", defArgs s_run, defBody s_run, defScope s_run, [], []⟩
def d_law_pool : He5.DefA := ⟨fun K => He.ga K "_law_pool", "_law_pool", "_law_pool", defArgs s_law_pool, defBody s_law_pool, defScope s_law_pool, [], []⟩
def d_law_draw : He5.DefA := ⟨fun K => He.ga K "_law_draw", "_law_draw", "_law_draw", defArgs s_law_draw, defBody s_law_draw, defScope s_law_draw, [], []⟩
def d_law_turned : He5.DefA := ⟨fun K => He.ga K "_law_turned", "_law_turned", "_law_turned", defArgs s_law_turned, defBody s_law_turned, defScope s_law_turned, [], []⟩
def d_law_web_yard : He5.DefA := ⟨fun K => He.ga K "_law_web_yard", "_law_web_yard", "_law_web_yard", defArgs s_law_web_yard, defBody s_law_web_yard, defScope s_law_web_yard, [], []⟩
def d_law_lane_rising : He5.DefA := ⟨fun K => He.ga K "_law_lane_rising", "_law_lane_rising", "_law_lane_rising", defArgs s_law_lane_rising, defBody s_law_lane_rising, defScope s_law_lane_rising, [], []⟩
def d_law_web_ends : He5.DefA := ⟨fun K => He.ga K "_law_web_ends", "_law_web_ends", "_law_web_ends", defArgs s_law_web_ends, defBody s_law_web_ends, defScope s_law_web_ends, [], []⟩
def d_law_web_forest : He5.DefA := ⟨fun K => He.ga K "_law_web_forest", "_law_web_forest", "_law_web_forest", defArgs s_law_web_forest, defBody s_law_web_forest, defScope s_law_web_forest, [], []⟩
def d_law_web_drawn_forest : He5.DefA := ⟨fun K => He.ga K "_law_web_drawn_forest", "_law_web_drawn_forest", "_law_web_drawn_forest", defArgs s_law_web_drawn_forest, defBody s_law_web_drawn_forest, defScope s_law_web_drawn_forest, [], []⟩
def d_law_lane_home_scene : He5.DefA := ⟨fun K => He.ga K "_law_lane_home_scene", "_law_lane_home_scene", "_law_lane_home_scene", defArgs s_law_lane_home_scene, defBody s_law_lane_home_scene, defScope s_law_lane_home_scene, [], []⟩
def d_law_lane_tracks : He5.DefA := ⟨fun K => He.ga K "_law_lane_tracks", "_law_lane_tracks", "_law_lane_tracks", defArgs s_law_lane_tracks, defBody s_law_lane_tracks, defScope s_law_lane_tracks, [], []⟩
def d_law_lane_all : He5.DefA := ⟨fun K => He.ga K "_law_lane_all", "_law_lane_all", "_law_lane_all", defArgs s_law_lane_all, defBody s_law_lane_all, defScope s_law_lane_all, [], []⟩
def d_law_lane_is_green : He5.DefA := ⟨fun K => He.ga K "_law_lane_is_green", "_law_lane_is_green", "_law_lane_is_green", defArgs s_law_lane_is_green, defBody s_law_lane_is_green, defScope s_law_lane_is_green, [], []⟩
def d_law_lane_greens : He5.DefA := ⟨fun K => He.ga K "_law_lane_greens", "_law_lane_greens", "_law_lane_greens", defArgs s_law_lane_greens, defBody s_law_lane_greens, defScope s_law_lane_greens, [], []⟩
def d_law_pick : He5.DefA := ⟨fun K => He.ga K "_law_pick", "_law_pick", "_law_pick", defArgs s_law_pick, defBody s_law_pick, defScope s_law_pick, [], []⟩
def d_law_lane_begun : He5.DefA := ⟨fun K => He.ga K "_law_lane_begun", "_law_lane_begun", "_law_lane_begun", defArgs s_law_lane_begun, defBody s_law_lane_begun, defScope s_law_lane_begun, [], []⟩
def d_law_lane_put : He5.DefA := ⟨fun K => He.ga K "_law_lane_put", "_law_lane_put", "_law_lane_put", defArgs s_law_lane_put, defBody s_law_lane_put, defScope s_law_lane_put, [], []⟩
def d_law_lane_after : He5.DefA := ⟨fun K => He.ga K "_law_lane_after", "_law_lane_after", "_law_lane_after", defArgs s_law_lane_after, defBody s_law_lane_after, defScope s_law_lane_after, [], []⟩
def d_law_lane_run : He5.DefA := ⟨fun K => He.ga K "_law_lane_run", "_law_lane_run", "_law_lane_run", defArgs s_law_lane_run, defBody s_law_lane_run, defScope s_law_lane_run, [], []⟩
def d_law_goes_on : He5.DefA := ⟨fun K => He.ga K "_law_goes_on", "_law_goes_on", "_law_goes_on", defArgs s_law_goes_on, defBody s_law_goes_on, defScope s_law_goes_on, [], []⟩
def d_law_found_right : He5.DefA := ⟨fun K => He.ga K "_law_found_right", "_law_found_right", "_law_found_right", defArgs s_law_found_right, defBody s_law_found_right, defScope s_law_found_right, [], []⟩
def d_law : He5.DefA := ⟨fun K => He.ga K "law", "law", "law", defArgs s_law, defBody s_law, defScope s_law, [], []⟩
def fn : List He5.DefA := ([d_is_whole, d_is_track, d_first_wrong, d_made_yard, d_made_row, d_is_number, d_made_dealing, d_is_lanes, d_is_wagons, d_wagons_of, d_is_right_stand, d_check_stand, d_first_stand, d_all_home, d_is_move, d_with_lane, d_moved_in, d_moved_over, d_moved_out, d_after_move, d_tracks_of, d_is_over_green, d_green_moves, d_check_journal, d_stand_behind, d_leads_to, d_replayed, d_opened, d_Engine_init, d_Engine_again] : List He5.DefA) ++ ([d_Engine_stand, d_Engine_journal, d_Engine_greens, d_Engine_home, d_Engine_check_green, d_Engine_do, d_Engine_cut, d_check_picks, d_run, d_law_pool, d_law_draw, d_law_turned, d_law_web_yard, d_law_lane_rising, d_law_web_ends, d_law_web_forest, d_law_web_drawn_forest, d_law_lane_home_scene, d_law_lane_tracks, d_law_lane_all, d_law_lane_is_green, d_law_lane_greens, d_law_pick, d_law_lane_begun, d_law_lane_put, d_law_lane_after, d_law_lane_run, d_law_goes_on, d_law_found_right, d_law] : List He5.DefA)
def fa : List He.Fa := ([.glo "is_whole", .glo "is_track", .glo "first_wrong", .glo "made_yard", .glo "made_row", .glo "is_number", .glo "made_dealing", .glo "is_lanes", .glo "is_wagons", .glo "wagons_of", .glo "is_right_stand", .glo "check_stand", .glo "first_stand", .glo "all_home", .glo "is_move", .glo "with_lane", .glo "moved_in", .glo "moved_over", .glo "moved_out", .glo "after_move", .glo "tracks_of", .glo "is_over_green", .glo "green_moves", .glo "check_journal", .glo "stand_behind", .glo "leads_to", .glo "replayed", .glo "opened", .glo "check_picks", .glo "run"] : List He.Fa) ++ ([.glo "_law_pool", .glo "_law_draw", .glo "_law_turned", .glo "_law_web_yard", .glo "_law_lane_rising", .glo "_law_web_ends", .glo "_law_web_forest", .glo "_law_web_drawn_forest", .glo "_law_lane_home_scene", .glo "_law_lane_tracks", .glo "_law_lane_all", .glo "_law_lane_is_green", .glo "_law_lane_greens", .glo "_law_pick", .glo "_law_lane_begun", .glo "_law_lane_put", .glo "_law_lane_after", .glo "_law_lane_run", .glo "_law_goes_on", .glo "_law_found_right", .glo "law", .int "MOST_LANES" 12, .int "MOST_TRACKS" 60, .int "MOST_WAGONS" 400, .free "isinstance", .free "len", .free "range", .free "enumerate", .free "list", .free "tuple"] : List He.Fa) ++ ([.free "sorted", .free "zip", .free "int", .free "min", .free "bool", .free "str", .glo "Engine", .cls "Engine", .mkr "Engine", .noat "Engine" "yard", .noat "Engine" "tracks", .noat "Engine" "here", .noat "Engine" "entries", .meth "Engine" "stand", .meth "Engine" "journal", .meth "Engine" "greens", .meth "Engine" "home", .meth "Engine" "check_green", .meth "Engine" "do", .meth "Engine" "cut"] : List He.Fa)
def exW (K : PySem.W.Frag) : Bool := He5.wrapB K (He.ga K "Engine") "staticmethod" "staticmethod.__get__" "again" && PySem.W.readsIn K (He.ga K "Engine") (.type "type")
def obsX (K : PySem.W.Frag) : He.AlD := (exW K && ((fa.all fun f => f.ok K) && fn.all fun d => d.ok K), fn.map fun d => He5.fnA K (d.at_ K))
def valX : He.AlD := (true, fn.map He5.DefA.val)
def obsXG (g : Addr → Option Obj) : He.AlD := obsX (He.frG g (He5.asA g 6))
def hookX : PySem.W.Hook where
  α := He.AlD
  obs := fun s => obsXG s.heap.get?
  val := fun _ => valX
  says := fun _ h => ∃ K : PySem.W.Frag, K.In h ∧ obsX K = valX
  of := fun _ _ e => ⟨_, He.frG_in, e⟩
  keeps := fun _ _ _ ⟨K, hK, c⟩ k => ⟨K, PySem.W.Frag.In.keeps hK k, c⟩
theorem obsXG_eq {g : Addr → Option Obj} {s : Shared} (h : ∀ a, g a = s.heap.get? a) : obsXG g = hookX.obs s := by
  have e : g = s.heap.get? := funext h
  rw [e] <;> rfl
abbrev R : PySem.W.OpenRow := PySem.W.OpenLaw.row PySem.Challenge.rw_trackworth_k56_whole_cut_at_each_move
def ob (s : PySem.W.SharedT) : He.AlD := obsXG (HandSHeadRun.getT s)
theorem ob_eq (s : PySem.W.SharedT) : ob s = hookX.obs s.abs := obsXG_eq (HandSHeadRun.getT_eq s)
def names : List PySem.Str := (["is_whole", "is_track", "first_wrong", "made_yard", "made_row", "is_number", "made_dealing", "is_lanes", "is_wagons", "wagons_of", "is_right_stand", "check_stand", "first_stand", "all_home", "is_move", "with_lane", "moved_in", "moved_over", "moved_out", "after_move", "tracks_of", "is_over_green", "green_moves", "check_journal", "stand_behind", "leads_to", "replayed", "opened", "check_picks", "run"] : List PySem.Str) ++ (["_law_pool", "_law_draw", "_law_turned", "_law_web_yard", "_law_lane_rising", "_law_web_ends", "_law_web_forest", "_law_web_drawn_forest", "_law_lane_home_scene", "_law_lane_tracks", "_law_lane_all", "_law_lane_is_green", "_law_lane_greens", "_law_pick", "_law_lane_begun", "_law_lane_put", "_law_lane_after", "_law_lane_run", "_law_goes_on", "_law_found_right", "Refused", "BadYard", "BadRow", "BadDealing", "BadStand", "BadMove", "NoneThere", "NotDue", "BadPicks", "BadJournal"] : List PySem.Str) ++ (["Spoilt", "Red", "MOST_LANES", "MOST_TRACKS", "MOST_WAGONS", "Engine"] : List PySem.Str)
set_option maxHeartbeats 0 in
theorem run_ok (w : World) : HandSHeadRun.RunEq R (PySem.W.view R.prog [76]) hookX ob 20000 names w := by
  intro os
  kernel_rfl
end TW.Hd

namespace TW
open PySem PySem.Spec PyProof.Rows L2

/-! ## canonical readings of a piece of syntax -/
section
variable {X : Cx} {e : Expr} {es : List Expr} {st : Stmt} {sts : List Stmt} {σ : L2.St} {H : Hp}
structure tE (X : Cx) (e : Expr) (σ : L2.St) (H : Hp) (Q : VK) : Prop where
  run : ∀ pins s, Inv X pins σ H s → wpAny (model X.prog X.w) X.A (eval e X.env) (EP X pins σ Q) X.xe s
structure tT (X : Cx) (e : Expr) (σ : L2.St) (H : Hp) (Q : Bool → Hp → Prop) : Prop where
  run : ∀ pins s, Inv X pins σ H s → wpAny (model X.prog X.w) X.A (isTrue e X.env (eval e X.env)) (TP X pins σ Q) X.xe s
structure tW (X : Cx) (e : Expr) (σ : L2.St) (H : Hp) (Q : Bool → Hp → Prop) : Prop where
  run : ∀ whole pins s, Inv X pins σ H s → wpAny (model X.prog X.w) X.A (isTrue e X.env whole) (TP X pins σ Q) X.xe s
structure tA (X : Cx) (es : List Expr) (σ : L2.St) (H : Hp) (Q : List V → Hp → Prop) : Prop where
  run : ∀ pos pins s, Inv X pins σ H s → wpAny (model X.prog X.w) X.A (spliced (backTo pos (starEach es X.env))) (AP X pins σ Q) X.xe s
structure tS (X : Cx) (st : Stmt) (D : Ends) (σ : L2.St) (H : Hp) : Prop where
  run : ∀ pins s, Inv X pins σ H s → wpAny (model X.prog X.w) X.A (exec st X.env) (SP X pins D) X.xe s
structure tSs (X : Cx) (sts : List Stmt) (D : Ends) (σ : L2.St) (H : Hp) : Prop where
  run : ∀ pins s, Inv X pins σ H s → wpAny (model X.prog X.w) X.A (execs sts X.env) (SP X pins D) X.xe s
theorem meE : PE X e (tE X e) := ⟨fun pins s _ _ _ I h => h.run pins s I⟩
theorem meT : PT X e (tT X e) := ⟨fun pins s _ _ _ I h => h.run pins s I⟩
theorem meW : PW X e (tW X e) := ⟨fun whole pins s _ _ _ I h => h.run whole pins s I⟩
theorem meA : PA X es (tA X es) := ⟨fun pos pins s _ _ _ I h => h.run pos pins s I⟩
theorem meS : PS X st (tS X st) := ⟨fun pins s _ _ _ I h => h.run pins s I⟩
theorem meSs : PSs X sts (tSs X sts) := ⟨fun pins s _ _ _ I h => h.run pins s I⟩
theorem ofE {t : TE} {Q : VK} (h : PE X e t) (q : t σ H Q) : tE X e σ H Q := ⟨fun pins s I => h.run pins s σ H Q I q⟩
theorem ofT {t : TT} {Q : Bool → Hp → Prop} (h : PT X e t) (q : t σ H Q) : tT X e σ H Q := ⟨fun pins s I => h.run pins s σ H Q I q⟩
theorem ofW {t : TT} {Q : Bool → Hp → Prop} (h : PW X e t) (q : t σ H Q) : tW X e σ H Q := ⟨fun whole pins s I => h.run whole pins s σ H Q I q⟩
theorem ofA {t : TA} {Q : List V → Hp → Prop} (h : PA X es t) (q : t σ H Q) : tA X es σ H Q := ⟨fun pos pins s I => h.run pos pins s σ H Q I q⟩
theorem ofS {t : TS} {D : Ends} (h : PS X st t) (q : t D σ H) : tS X st D σ H := ⟨fun pins s I => h.run pins s σ H D I q⟩
theorem ofSs {t : TS} {D : Ends} (h : PSs X sts t) (q : t D σ H) : tSs X sts D σ H := ⟨fun pins s I => h.run pins s σ H D I q⟩
end

/-! ## data -/
theorem Same.seqT {K : PySem.W.Frag} {H H' : Hp} {a : Addr} {xs : List V} (e : Same H H') (h : SqT K H a xs) : SqT K H' a xs := by
  rcases h with (h | ⟨o, h⟩) | h
  · exact .inl (.inl (e _ _ h))
  · exact .inl (.inr ⟨o, e _ _ h⟩)
  · exact .inr h
mutual
theorem Dp_ex {K : PySem.W.Frag} {H H' : Hp} (e : Same H H') : ∀ {v : V} {d : PyData}, Dp K H v d → Dp K H' v d
  | _, _, .non => .non
  | _, _, .bl b => .bl b
  | _, _, .int i => .int i
  | _, _, .str x => .str x
  | _, _, .lst h a => .lst (e.seq h) (DpAll_ex e a)
  | _, _, .tup h a => .tup (Same.seqT e h) (DpAll_ex e a)
theorem DpAll_ex {K : PySem.W.Frag} {H H' : Hp} (e : Same H H') : ∀ {vs : List V} {ds : List PyData}, DpAll K H vs ds → DpAll K H' vs ds
  | _, _, .nil => .nil
  | _, _, .cons h t => .cons (Dp_ex e h) (DpAll_ex e t)
end
end TW
namespace L2
open PySem PySem.Spec PyProof.Rows TW
section
variable {K : PySem.W.Frag} {H : Hp} {vs us : List V} {ds es : List PyData} {v : V} {d : PyData}
theorem DpAll.length : ∀ {vs : List V} {ds : List PyData}, DpAll K H vs ds → vs.length = ds.length
  | _, _, .nil => rfl
  | _, _, .cons _ t => by rw [List.length_cons, List.length_cons, DpAll.length t]
theorem DpAll.get : ∀ {vs : List V} {ds : List PyData} {i : Nat} {d : PyData}, DpAll K H vs ds → ds[i]? = some d → ∃ v, vs[i]? = some v ∧ Dp K H v d
  | _, _, _, _, .nil, e => by simp at e
  | _, _, 0, _, .cons h _, e => by
    simp at e
    subst e
    exact ⟨_, rfl, h⟩
  | _, _, i + 1, _, .cons _ t, e => by
    obtain ⟨v, h1, h2⟩ := DpAll.get (i := i) t (by simpa using e)
    exact ⟨v, by simpa using h1, h2⟩
theorem DpAll.getV : ∀ {vs : List V} {ds : List PyData} {i : Nat} {v : V}, DpAll K H vs ds → vs[i]? = some v → ∃ d, ds[i]? = some d ∧ Dp K H v d
  | _, _, _, _, .nil, e => by simp at e
  | _, _, 0, _, .cons h _, e => by
    simp at e
    subst e
    exact ⟨_, rfl, h⟩
  | _, _, i + 1, _, .cons _ t, e => by
    obtain ⟨v, h1, h2⟩ := DpAll.getV (i := i) t (by simpa using e)
    exact ⟨v, by simpa using h1, h2⟩
theorem DpAll.append : ∀ {vs us : List V} {ds es : List PyData}, DpAll K H vs ds → DpAll K H us es → DpAll K H (vs ++ us) (ds ++ es)
  | _, _, _, _, .nil, s => s
  | _, _, _, _, .cons h t, s => .cons h (DpAll.append t s)
theorem DpAll.take : ∀ {vs : List V} {ds : List PyData} (n : Nat), DpAll K H vs ds → DpAll K H (vs.take n) (ds.take n)
  | _, _, 0, _ => .nil
  | _, _, _ + 1, .nil => .nil
  | _, _, n + 1, .cons h t => .cons h (DpAll.take n t)
theorem DpAll.drop : ∀ {vs : List V} {ds : List PyData} (n : Nat), DpAll K H vs ds → DpAll K H (vs.drop n) (ds.drop n)
  | _, _, 0, h => h
  | _, _, _ + 1, .nil => .nil
  | _, _, n + 1, .cons _ t => DpAll.drop n t
theorem DpAll.set (h : Dp K H v d) : ∀ {vs : List V} {ds : List PyData} (i : Nat), DpAll K H vs ds → DpAll K H (vs.set i v) (ds.set i d)
  | _, _, _, .nil => .nil
  | _, _, 0, .cons _ t => .cons h t
  | _, _, i + 1, .cons a t => .cons a (DpAll.set h i t)
theorem DpAll.erase : ∀ {vs : List V} {ds : List PyData} (i : Nat), DpAll K H vs ds → DpAll K H (vs.eraseIdx i) (ds.eraseIdx i)
  | _, _, _, .nil => .nil
  | _, _, 0, .cons _ t => t
  | _, _, i + 1, .cons a t => .cons a (DpAll.erase i t)
theorem DpAll.rep (h : Dp K H v d) : ∀ n, DpAll K H (List.replicate n v) (List.replicate n d)
  | 0 => .nil
  | n + 1 => .cons h (DpAll.rep h n)
theorem DpAll.ints : ∀ ns : List Int, DpAll K H (ns.map V.int) (ns.map PyData.int)
  | [] => .nil
  | n :: ns => .cons (.int n) (DpAll.ints ns)
theorem DpAll.ofInts : ∀ {ns : List Int} {vs : List V}, DpAll K H vs (ns.map PyData.int) → vs = ns.map V.int
  | [], _, .nil => rfl
  | n :: ns, _, .cons (.int _) t => by rw [DpAll.ofInts t]; rfl
theorem Dp.tupE (h : Dp K H v (.tuple ds)) : ∃ a xs, v = .ref a ∧ SqT K H a xs ∧ DpAll K H xs ds := by
  cases h with
  | tup a b => exact ⟨_, _, rfl, a, b⟩
theorem Dp.lstE (h : Dp K H v (.list ds)) : ∃ a xs, v = .ref a ∧ SqL K H a xs ∧ DpAll K H xs ds := by
  cases h with
  | lst a b => exact ⟨_, _, rfl, a, b⟩
theorem Dp.intE {i : Int} (h : Dp K H v (.int i)) : v = .int i := by cases h; rfl
theorem Dp.strE {x : Str} (h : Dp K H v (.str x)) : v = .str x := by cases h; rfl
theorem Dp.blE {b : Bool} (h : Dp K H v (.bool b)) : v = .bl b := by cases h; rfl
theorem Dp.nonE (h : Dp K H v .none) : v = .non := by cases h; rfl
end

end L2
namespace TW
open PySem PySem.Spec PyProof.Rows L2
/-! ## cells: what a slot holds -/
inductive Cell where
  | dat (d : PyData)
  | own (p : Addr) (ds : List PyData)
  | pool (p : Addr)
  | ins (p : Addr) (fs : List (Str × PyData))
  | lots (p : Addr) (xs : List (List PyData))
  | dct (p : Addr) (kvs : List (Key × PyData))
  | pol (p : Addr) (a b : Int) (ns : List Int)
def FsOk (K : PySem.W.Frag) (F : Hp) : List (Str × V) → List (Str × PyData) → Prop
  | [], [] => True
  | (f, v) :: gs, (f', d) :: fs => f = f' ∧ Dp K F v d ∧ FsOk K F gs fs
  | _, _ => False
def KvOk (K : PySem.W.Frag) (F : Hp) : List (Key × V) → List (Key × PyData) → Prop
  | [], [] => True
  | (f, v) :: gs, (f', d) :: fs => f = f' ∧ Dp K F v d ∧ KvOk K F gs fs
  | _, _ => False
def LotsOk (K : PySem.W.Frag) (F H : Hp) : List Addr → List (List PyData) → Prop
  | [], [] => True
  | q :: qs, ds :: xs => (∃ vs, H q = some (.lst vs) ∧ DpAll K F vs ds) ∧ LotsOk K F H qs xs
  | _, _ => False
abbrev engC (K : PySem.W.Frag) : Addr := He.ga K "Engine"
def CellOk (K : PySem.W.Frag) (F H : Hp) (v : V) : Cell → List Addr → Prop
  | .dat d, fp => Dp K F v d ∧ fp = []
  | .own p ds, fp => v = .ref p ∧ fp = [p] ∧ ∃ vs, H p = some (.lst vs) ∧ DpAll K F vs ds
  | .pool p, fp => v = .ref p ∧ ∃ (q : Addr) (a b : Int) (ns : List Int), fp = [p, q] ∧ p ≠ q ∧ H p = some (.lst [.int a, .int b, .ref q]) ∧ H q = some (.lst (ns.map V.int)) ∧ 0 ≤ a ∧ 0 ≤ b ∧ b < 4294967296
  | .ins p fs, fp => v = .ref p ∧ ∃ (dx : Addr) (gs : List (Str × V)), fp = [p, dx] ∧ p ≠ dx ∧ H p = some (.ins (engC K) dx gs) ∧ H dx = some (.own p) ∧ FsOk K F gs fs
  | .lots p xs, fp => v = .ref p ∧ ∃ qs : List Addr, fp = p :: qs ∧ (p :: qs).Nodup ∧ H p = some (.lst (qs.map V.ref)) ∧ LotsOk K F H qs xs
  | .dct p kvs, fp => v = .ref p ∧ fp = [p] ∧ ∃ ws, H p = some (.dK ws) ∧ KvOk K F ws kvs
  | .pol p a b ns, fp => v = .ref p ∧ ∃ q : Addr, fp = [p, q] ∧ p ≠ q ∧ H p = some (.lst [.int a, .int b, .ref q]) ∧ H q = some (.lst (ns.map V.int))
abbrev En := List (Option Cell)
section
variable {K : PySem.W.Frag} {F F' H H' : Hp} {v : V} {c : Cell} {fp : List Addr}
theorem FsOk.ex (e : Same F F') : ∀ {gs : List (Str × V)} {fs : List (Str × PyData)}, FsOk K F gs fs → FsOk K F' gs fs
  | [], [], _ => trivial
  | (f, v) :: gs, (f', d) :: fs, h => ⟨h.1, Dp_ex e h.2.1, FsOk.ex e h.2.2⟩
theorem KvOk.ex (e : Same F F') : ∀ {gs : List (Key × V)} {fs : List (Key × PyData)}, KvOk K F gs fs → KvOk K F' gs fs
  | [], [], _ => trivial
  | (f, v) :: gs, (f', d) :: fs, h => ⟨h.1, Dp_ex e h.2.1, KvOk.ex e h.2.2⟩
theorem LotsOk.ex (e : Same F F') : ∀ {qs : List Addr} {xs : List (List PyData)}, (∀ a ∈ qs, H' a = H a) → LotsOk K F H qs xs → LotsOk K F' H' qs xs
  | [], [], _, _ => trivial
  | q :: qs, ds :: xs, hh, ⟨⟨vs, h1, h2⟩, h3⟩ => ⟨⟨vs, by rw [hh q List.mem_cons_self]; exact h1, DpAll_ex e h2⟩, LotsOk.ex e (fun a ha => hh a (List.mem_cons_of_mem _ ha)) h3⟩
theorem CellOk.fr (e : Same F F') (hh : ∀ a ∈ fp, H' a = H a) (h : CellOk K F H v c fp) : CellOk K F' H' v c fp := by
  cases c with
  | dat d => exact ⟨Dp_ex e h.1, h.2⟩
  | own p ds =>
    obtain ⟨e1, e2, vs, h1, h2⟩ := h
    subst e2
    exact ⟨e1, rfl, vs, by rw [hh p List.mem_cons_self]; exact h1, DpAll_ex e h2⟩
  | pool p =>
    obtain ⟨e1, q, a, b, ns, e2, n, h1, h2, r⟩ := h
    subst e2
    exact ⟨e1, q, a, b, ns, rfl, n, by rw [hh p (by simp)]; exact h1, by rw [hh q (by simp)]; exact h2, r⟩
  | ins p fs =>
    obtain ⟨e1, dx, gs, e2, n, h1, h2, r⟩ := h
    subst e2
    exact ⟨e1, dx, gs, rfl, n, by rw [hh p (by simp)]; exact h1, by rw [hh dx (by simp)]; exact h2, r.ex e⟩
  | lots p xs =>
    obtain ⟨e1, qs, e2, n, h1, r⟩ := h
    subst e2
    exact ⟨e1, qs, rfl, n, by rw [hh p (by simp)]; exact h1, r.ex e fun a ha => hh a (List.mem_cons_of_mem _ ha)⟩
  | dct p kvs =>
    obtain ⟨e1, e2, ws, h1, h2⟩ := h
    subst e2
    exact ⟨e1, rfl, ws, by rw [hh p List.mem_cons_self]; exact h1, h2.ex e⟩
  | pol p a b ns =>
    obtain ⟨e1, q, e2, n, h1, h2⟩ := h
    subst e2
    exact ⟨e1, q, rfl, n, by rw [hh p (by simp)]; exact h1, by rw [hh q (by simp)]; exact h2⟩
end

/-! ## the state, its frame -/
structure St (K : PySem.W.Frag) (F H : Hp) (σ : L2.St) (ρ : En) (fp : Nat → List Addr) : Prop where
  ex : Same F H
  len : σ.length = ρ.length
  cells : ∀ i c, ρ[i]? = some (some c) → ∃ v, σ[i]? = some (some v) ∧ CellOk K F H v c (fp i)
  out : ∀ i a, a ∈ fp i → F a = none ∧ H a ≠ none
  sep : ∀ i j a, a ∈ fp i → a ∈ fp j → i = j
/-- what is neither frozen nor a slot's own stays as it is -/
structure Fr (F H : Hp) (fp : Nat → List Addr) (F' H' : Hp) (fp' : Nat → List Addr) (fn : List Addr) : Prop where
  ex : Same F F'
  old : ∀ a, F a = none → H a ≠ none → (∀ i, a ∉ fp i) → F' a = none ∧ H' a = H a ∧ (∀ i, a ∉ fp' i) ∧ a ∉ fn
  dom : ∀ a, H a ≠ none → H' a ≠ none
theorem Fr.refl {F H : Hp} {fp : Nat → List Addr} : Fr F H fp F H fp [] := ⟨Same.refl _, fun a h1 _ h3 => ⟨h1, rfl, h3, by simp⟩, fun _ h => h⟩
theorem Fr.trans {F H F1 H1 F2 H2 : Hp} {fp fp1 fp2 : Nat → List Addr} {fn fn2 : List Addr} (a : Fr F H fp F1 H1 fp1 fn) (b : Fr F1 H1 fp1 F2 H2 fp2 fn2) : Fr F H fp F2 H2 fp2 fn2 := by
  refine ⟨a.ex.trans b.ex, fun x h1 h2 h3 => ?_, fun x h => b.dom x (a.dom x h)⟩
  obtain ⟨p1, p2, p3, p4⟩ := a.old x h1 h2 h3
  obtain ⟨q1, q2, q3, q4⟩ := b.old x p1 (by rw [p2]; exact h2) p3
  exact ⟨q1, q2.trans p2, q3, q4⟩
inductive Res where
  | dat (d : PyData)
  | new (c : Cell)
  | cel (i : Nat)
def ResOk (K : PySem.W.Frag) (F H : Hp) (σ : L2.St) (fp : Nat → List Addr) (v : V) : Res → List Addr → Prop
  | .dat d, fn => Dp K F v d ∧ fn = []
  | .new c, fn => CellOk K F H v c fn ∧ ∀ a ∈ fn, F a = none ∧ H a ≠ none ∧ ∀ i, a ∉ fp i
  | .cel i, fn => σ[i]? = some (some v) ∧ fn = []
/-- a result as data (a new list is frozen) -/
abbrev asD (k : En → PyData → Prop) : En → Res → Prop := fun ρ r => match r with
  | .dat d => k ρ d
  | .new (.own _ ds) => k ρ (.list ds)
  | _ => False

/-! ## judgements -/
def JE (X : Cx) (e : Expr) (ρ : En) (k : En → Res → Prop) : Prop :=
  ∀ F H σ fp (Q : VK), St X.K F H σ ρ fp → (∀ F' H' fp' ρ' v r fn, Fr F H fp F' H' fp' fn → St X.K F' H' σ ρ' fp' → ResOk X.K F' H' σ fp' v r fn → k ρ' r → Q v H') → tE X e σ H Q
def JT (X : Cx) (e : Expr) (ρ : En) (k : En → Bool → Prop) : Prop :=
  ∀ F H σ fp (Q : Bool → Hp → Prop), St X.K F H σ ρ fp → (∀ F' H' fp' ρ' b, Fr F H fp F' H' fp' [] → St X.K F' H' σ ρ' fp' → k ρ' b → Q b H') → tT X e σ H Q
def JW (X : Cx) (e : Expr) (ρ : En) (k : En → Bool → Prop) : Prop :=
  ∀ F H σ fp (Q : Bool → Hp → Prop), St X.K F H σ ρ fp → (∀ F' H' fp' ρ' b, Fr F H fp F' H' fp' [] → St X.K F' H' σ ρ' fp' → k ρ' b → Q b H') → tW X e σ H Q
/-- an argument: data, or a slot's cell -/
inductive ArgsOk (K : PySem.W.Frag) (F : Hp) (σ : L2.St) : List V → List Res → Prop where
  | nil : ArgsOk K F σ [] []
  | dat {v : V} {vs : List V} {d : PyData} {rs : List Res} (h : Dp K F v d) (t : ArgsOk K F σ vs rs) : ArgsOk K F σ (v :: vs) (.dat d :: rs)
  | cel {v : V} {vs : List V} {i : Nat} {rs : List Res} (h : σ[i]? = some (some v)) (t : ArgsOk K F σ vs rs) : ArgsOk K F σ (v :: vs) (.cel i :: rs)
def JA (X : Cx) (es : List Expr) (ρ : En) (k : En → List Res → Prop) : Prop :=
  ∀ F H σ fp (Q : List V → Hp → Prop), St X.K F H σ ρ fp → (∀ F' H' fp' ρ' vs rs, Fr F H fp F' H' fp' [] → St X.K F' H' σ ρ' fp' → ArgsOk X.K F' σ vs rs → k ρ' rs → Q vs H') → tA X es σ H Q
structure Po where
  nx : En → Prop
  rt : En → Res → Prop
  bk : En → Prop := fun _ => False
  ct : En → Prop := fun _ => False
/-- what the ends owe -/
structure Owed (K : PySem.W.Frag) (F H : Hp) (fp : Nat → List Addr) (E : Po) (D : Ends) : Prop where
  nx : ∀ F' H' σ' fp' ρ', Fr F H fp F' H' fp' [] → St K F' H' σ' ρ' fp' → E.nx ρ' → D.nx σ' H'
  rt : ∀ F' H' σ' fp' ρ' v r fn, Fr F H fp F' H' fp' fn → St K F' H' σ' ρ' fp' → ResOk K F' H' σ' fp' v r fn → E.rt ρ' r → D.rt v H'
  bk : ∀ F' H' σ' fp' ρ', Fr F H fp F' H' fp' [] → St K F' H' σ' ρ' fp' → E.bk ρ' → D.bk σ' H'
  ct : ∀ F' H' σ' fp' ρ', Fr F H fp F' H' fp' [] → St K F' H' σ' ρ' fp' → E.ct ρ' → D.ct σ' H'
def JS (X : Cx) (st : Stmt) (ρ : En) (E : Po) : Prop := ∀ F H σ fp (D : Ends), St X.K F H σ ρ fp → Owed X.K F H fp E D → tS X st D σ H
def JSs (X : Cx) (sts : List Stmt) (ρ : En) (E : Po) : Prop := ∀ F H σ fp (D : Ends), St X.K F H σ ρ fp → Owed X.K F H fp E D → tSs X sts D σ H
theorem Owed.after {K : PySem.W.Frag} {F H F1 H1 : Hp} {fp fp1 : Nat → List Addr} {fn : List Addr} {E : Po} {D : Ends} (o : Owed K F H fp E D) (f : Fr F H fp F1 H1 fp1 fn) : Owed K F1 H1 fp1 E D :=
  ⟨fun F' H' σ' fp' ρ' a b c => o.nx F' H' σ' fp' ρ' (f.trans a) b c, fun F' H' σ' fp' ρ' v r fn a b c d => o.rt F' H' σ' fp' ρ' v r fn (f.trans a) b c d,
    fun F' H' σ' fp' ρ' a b c => o.bk F' H' σ' fp' ρ' (f.trans a) b c, fun F' H' σ' fp' ρ' a b c => o.ct F' H' σ' fp' ρ' (f.trans a) b c⟩
/-- the next statement's reading at the end of this one -/
theorem Owed.next {K : PySem.W.Frag} {F H : Hp} {fp : Nat → List Addr} {E : Po} {D : Ends} (o : Owed K F H fp E D) {nx : En → Prop} {dn : L2.St → Hp → Prop}
    (h : ∀ F' H' σ' fp' ρ', Fr F H fp F' H' fp' [] → St K F' H' σ' ρ' fp' → nx ρ' → dn σ' H') : Owed K F H fp { E with nx := nx } { D with nx := dn } := ⟨h, o.rt, o.bk, o.ct⟩

/-! ## changes of the state -/
section
variable {K : PySem.W.Frag} {F H : Hp} {σ : L2.St} {ρ : En} {fp : Nat → List Addr}
theorem Same.new {F : Hp} {p : Addr} {o : HO} (h : F p = none) : Same F (upd F p o) := fun b u e => by
  rw [upd_ne (ne_of_none e h)]
  exact e
theorem Same.both {F H : Hp} {p : Addr} {o : HO} (e : Same F H) : Same (upd F p o) (upd H p o) := fun b u q => by
  by_cases hb : b = p
  · subst hb
    rw [upd_same] at q
    rw [upd_same]
    exact q
  · rw [upd_ne hb] at q
    rw [upd_ne hb]
    exact e b u q
theorem Same.mut {F H : Hp} {p : Addr} {o : HO} (e : Same F H) (h : F p = none) : Same F (upd H p o) := fun b u q => by
  rw [upd_ne (ne_of_none q h)]
  exact e b u q
theorem St.fresh (s : St K F H σ ρ fp) {p : Addr} (hp : H p = none) : F p = none ∧ ∀ i, p ∉ fp i := by
  refine ⟨?_, fun i hi => (s.out i p hi).2 hp⟩
  cases q : F p with
  | none => rfl
  | some o =>
    have := s.ex p o q
    rw [hp] at this
    cases this
/-- a new frozen thing -/
theorem St.laid (s : St K F H σ ρ fp) {p : Addr} {o : HO} (hp : H p = none) : St K (upd F p o) (upd H p o) σ ρ fp := by
  obtain ⟨f1, f2⟩ := s.fresh hp
  refine ⟨Same.both s.ex, s.len, fun i c hc => ?_, fun i a ha => ?_, s.sep⟩
  · obtain ⟨v, e1, e2⟩ := s.cells i c hc
    exact ⟨v, e1, e2.fr (Same.new f1) fun a ha => upd_ne fun z => f2 i (z ▸ ha)⟩
  · have n : a ≠ p := fun z => f2 i (z ▸ ha)
    rw [upd_ne n, upd_ne n]
    exact s.out i a ha
theorem Fr.laid (s : St K F H σ ρ fp) {p : Addr} {o : HO} (hp : H p = none) : Fr F H fp (upd F p o) (upd H p o) fp [] := by
  obtain ⟨f1, f2⟩ := s.fresh hp
  refine ⟨Same.new f1, fun a h1 h2 h3 => ?_, fun a h => ?_⟩
  · have n : a ≠ p := fun z => h2 (z ▸ hp)
    rw [upd_ne n, upd_ne n]
    exact ⟨h1, rfl, h3, by simp⟩
  · by_cases n : a = p
    · rw [n, upd_same]
      simp
    · rw [upd_ne n]
      exact h
/-- a new thing that nobody holds yet -/
theorem St.made (s : St K F H σ ρ fp) {p : Addr} {o : HO} (hp : H p = none) : St K F (upd H p o) σ ρ fp := by
  obtain ⟨f1, f2⟩ := s.fresh hp
  refine ⟨Same.mut s.ex f1, s.len, fun i c hc => ?_, fun i a ha => ?_, s.sep⟩
  · obtain ⟨v, e1, e2⟩ := s.cells i c hc
    exact ⟨v, e1, e2.fr (Same.refl _) fun a ha => upd_ne fun z => f2 i (z ▸ ha)⟩
  · have n : a ≠ p := fun z => f2 i (z ▸ ha)
    rw [upd_ne n]
    exact s.out i a ha
theorem Fr.made (s : St K F H σ ρ fp) {p : Addr} {o : HO} (hp : H p = none) (fn : List Addr) (hf : ∀ a ∈ fn, a = p) : Fr F H fp F (upd H p o) fp fn := by
  refine ⟨Same.refl _, fun a h1 h2 h3 => ?_, fun a h => ?_⟩
  · have n : a ≠ p := fun z => h2 (z ▸ hp)
    rw [upd_ne n]
    exact ⟨h1, rfl, h3, fun hm => n (hf a hm)⟩
  · by_cases n : a = p
    · rw [n, upd_same]
      simp
    · rw [upd_ne n]
      exact h
/-- a new list result is frozen -/
theorem freeze {F0 H0 : Hp} {fp0 : Nat → List Addr} (s : St K F H σ ρ fp) {v : V} {p : Addr} {ds : List PyData} {fn : List Addr} (f : Fr F0 H0 fp0 F H fp fn) (r : ResOk K F H σ fp v (.new (.own p ds)) fn) :
    ∃ F', St K F' H σ ρ fp ∧ Fr F0 H0 fp0 F' H fp [] ∧ Dp K F' v (.list ds) := by
  obtain ⟨⟨e1, e2, vs, h1, h2⟩, q⟩ := r
  subst e1 e2
  obtain ⟨f1, f2, f3⟩ := q p List.mem_cons_self
  have hF : Same F (upd F p (.lst vs)) := Same.new f1
  refine ⟨upd F p (.lst vs), ⟨fun b u e => ?_, s.len, fun i c hc => ?_, fun i a ha => ?_, s.sep⟩, ⟨f.ex.trans hF, fun a g1 g2 g3 => ?_, f.dom⟩, .lst (SqL.of upd_same) (DpAll_ex hF h2)⟩
  · by_cases n : b = p
    · subst n
      rw [upd_same] at e
      rw [h1]
      exact e
    · rw [upd_ne n] at e
      exact s.ex b u e
  · obtain ⟨v, e1, e2⟩ := s.cells i c hc
    exact ⟨v, e1, e2.fr hF fun a ha => rfl⟩
  · have n : a ≠ p := fun z => f3 i (z ▸ ha)
    rw [upd_ne n]
    exact s.out i a ha
  · obtain ⟨k1, k2, k3, k4⟩ := f.old a g1 g2 g3
    have n : a ≠ p := fun z => k4 (by simp [z])
    rw [upd_ne n]
    exact ⟨k1, k2, k3, by simp⟩
/-- what stands in a slot: data, or its cell -/
def resOf (i : Nat) : Cell → Res
  | .dat d => .dat d
  | _ => .cel i
/-- slot i takes data -/
theorem St.setDat (s : St K F H σ ρ fp) {i : Nat} (hi : i < ρ.length) {v : V} {d : PyData} (h : Dp K F v d) : ∃ fp', Fr F H fp F H fp' [] ∧ St K F H (σ.set i (some v)) (ρ.set i (some (.dat d))) fp' := by
  refine ⟨fun j => if j = i then [] else fp j, ⟨Same.refl _, fun a h1 h2 h3 => ⟨h1, rfl, fun j => ?_, by simp⟩, fun _ h => h⟩, s.ex, by simpa using s.len, fun j c hc => ?_, fun j a ha => ?_, fun j k a h1 h2 => ?_⟩
  · try dsimp only
    split
    · simp
    · exact h3 j
  · by_cases n : j = i
    · subst n
      rw [List.getElem?_set_self hi] at hc
      cases hc
      refine ⟨v, List.getElem?_set_self (by rw [s.len]; exact hi), h, ?_⟩
      exact if_pos rfl
    · rw [List.getElem?_set_ne (Ne.symm n)] at hc
      obtain ⟨u, e1, e2⟩ := s.cells j c hc
      refine ⟨u, by rw [List.getElem?_set_ne (Ne.symm n)]; exact e1, ?_⟩
      rw [if_neg n]
      exact e2
  · try dsimp only at ha
    split at ha
    · simp at ha
    · exact s.out j a ha
  · try dsimp only at h1 h2
    split at h1
    · simp at h1
    · split at h2
      · simp at h2
      · exact s.sep j k a h1 h2
/-- slot i takes a new thing -/
theorem St.setNew (s : St K F H σ ρ fp) {i : Nat} (hi : i < ρ.length) {v : V} {c : Cell} {fn : List Addr} (h : ResOk K F H σ fp v (.new c) fn) {F0 H0 : Hp} {fp0 : Nat → List Addr} (f : Fr F0 H0 fp0 F H fp fn) :
    ∃ fp', Fr F0 H0 fp0 F H fp' [] ∧ St K F H (σ.set i (some v)) (ρ.set i (some c)) fp' := by
  obtain ⟨hc0, hq⟩ := h
  refine ⟨fun j => if j = i then fn else fp j, ⟨f.ex, fun a h1 h2 h3 => ?_, f.dom⟩, s.ex, by simpa using s.len, fun j c' hc => ?_, fun j a ha => ?_, fun j k a h1 h2 => ?_⟩
  · obtain ⟨k1, k2, k3, k4⟩ := f.old a h1 h2 h3
    refine ⟨k1, k2, fun j => ?_, by simp⟩
    try dsimp only
    split
    · exact k4
    · exact k3 j
  · by_cases n : j = i
    · subst n
      rw [List.getElem?_set_self hi] at hc
      cases hc
      refine ⟨v, List.getElem?_set_self (by rw [s.len]; exact hi), ?_⟩
      rw [if_pos rfl]
      exact hc0
    · rw [List.getElem?_set_ne (Ne.symm n)] at hc
      obtain ⟨u, e1, e2⟩ := s.cells j c' hc
      refine ⟨u, by rw [List.getElem?_set_ne (Ne.symm n)]; exact e1, ?_⟩
      rw [if_neg n]
      exact e2
  · try dsimp only at ha
    split at ha
    · exact ⟨(hq a ha).1, (hq a ha).2.1⟩
    · exact s.out j a ha
  · try dsimp only at h1 h2
    split at h1
    · split at h2
      · rename_i e1 e2
        rw [e1, e2]
      · exact absurd h2 ((hq a h1).2.2 k)
    · split at h2
      · exact absurd h1 ((hq a h2).2.2 j)
      · exact s.sep j k a h1 h2
/-- the cell of slot i is changed: its new content stands at its own places -/
theorem St.change (s : St K F H σ ρ fp) {i : Nat} {c c' : Cell} (hi : ρ[i]? = some (some c)) {v : V} (hv : σ[i]? = some (some v)) {H' : Hp} (hh : ∀ a, a ∉ fp i → H' a = H a) (hd : ∀ a, a ∈ fp i → H' a ≠ none) (h : CellOk K F H' v c' (fp i)) :
    Fr F H fp F H' fp [] ∧ St K F H' σ (ρ.set i (some c')) fp := by
  have hil : i < ρ.length := (List.getElem?_eq_some_iff.mp hi).1
  have keep : ∀ a, H a ≠ none → H' a ≠ none := fun a h => by
    by_cases m : a ∈ fp i
    · exact hd a m
    · rw [hh a m]
      exact h
  refine ⟨⟨Same.refl _, fun a h1 h2 h3 => ⟨h1, hh a (h3 i), h3, by simp⟩, keep⟩, fun b u e => ?_, by simpa using s.len, fun j cj hc => ?_, fun j a ha => ⟨(s.out j a ha).1, keep a (s.out j a ha).2⟩, s.sep⟩
  · rw [hh b fun m => by
      have := (s.out i b m).1
      rw [this] at e
      cases e]
    exact s.ex b u e
  · by_cases n : j = i
    · subst n
      rw [List.getElem?_set_self hil] at hc
      cases hc
      exact ⟨v, hv, h⟩
    · rw [List.getElem?_set_ne (Ne.symm n)] at hc
      obtain ⟨u, e1, e2⟩ := s.cells j cj hc
      exact ⟨u, e1, e2.fr (Same.refl _) fun a ha => hh a fun m => n (s.sep j i a ha m)⟩
/-- a slot's list is frozen for good -/
theorem St.frozen (s : St K F H σ ρ fp) {i p : Nat} {ds : List PyData} (hi : ρ[i]? = some (some (.own p ds))) : ∃ F' fp', Fr F H fp F' H fp' [] ∧ St K F' H σ (ρ.set i (some (.dat (.list ds)))) fp' := by
  have hil : i < ρ.length := (List.getElem?_eq_some_iff.mp hi).1
  obtain ⟨v, hv, e1, e2, vs, h1, h2⟩ := s.cells i _ hi
  obtain ⟨f1, f2⟩ := s.out i p (by rw [e2]; simp)
  have hF : Same F (upd F p (.lst vs)) := Same.new f1
  refine ⟨upd F p (.lst vs), fun j => if j = i then [] else fp j, ⟨hF, fun a g1 g2 g3 => ?_, fun _ h => h⟩, fun b u e => ?_, by simpa using s.len, fun j c hc => ?_, fun j a ha => ?_, fun j k a q1 q2 => ?_⟩
  · have n : a ≠ p := fun z => g3 i (by rw [e2, z]; simp)
    rw [upd_ne n]
    refine ⟨g1, rfl, fun j => ?_, by simp⟩
    try dsimp only
    split
    · simp
    · exact g3 j
  · by_cases n : b = p
    · subst n
      rw [upd_same] at e
      rw [h1]
      exact e
    · rw [upd_ne n] at e
      exact s.ex b u e
  · by_cases n : j = i
    · subst n
      rw [List.getElem?_set_self hil] at hc
      cases hc
      refine ⟨v, hv, ?_, if_pos rfl⟩
      rw [e1]
      exact .lst (SqL.of upd_same) (DpAll_ex hF h2)
    · rw [List.getElem?_set_ne (Ne.symm n)] at hc
      obtain ⟨u, k1, k2⟩ := s.cells j c hc
      refine ⟨u, k1, ?_⟩
      rw [if_neg n]
      exact k2.fr hF fun a ha => rfl
  · try dsimp only at ha
    split at ha
    · simp at ha
    · rename_i n
      have na : a ≠ p := fun z => n (s.sep j i a ha (by rw [e2, z]; simp))
      rw [upd_ne na]
      exact s.out j a ha
  · try dsimp only at q1 q2
    split at q1
    · simp at q1
    · split at q2
      · simp at q2
      · exact s.sep j k a q1 q2
end
end TW

namespace TW
open PySem PySem.Spec PyProof.Rows L2

/-! ## plain data: == is = -/
mutual
def good : PyData → Bool
  | .int _ => true
  | .str x => PyData.strOk x
  | .tuple xs => goods xs
  | .list xs => goods xs
  | _ => false
def goods : List PyData → Bool
  | [] => true
  | x :: xs => good x && goods xs
end
mutual
theorem good_lay : ∀ d : PyData, good d = true → d.canLay0 = true
  | .int _, _ => by simp only [PyData.canLay0]
  | .str x, h => by
    have h' : PyData.strOk x = true := by simpa only [good] using h
    simpa only [PyData.canLay0] using h'
  | .tuple xs, h => by
    simp only [PyData.canLay0]
    exact goods_lay xs (by simpa only [good] using h)
  | .list xs, h => by
    simp only [PyData.canLay0]
    exact goods_lay xs (by simpa only [good] using h)
  | .none, h => by simp only [good] at h; cases h
  | .bool _, h => by simp only [good] at h; cases h
  | .dict _, h => by simp only [good] at h; cases h
theorem goods_lay : ∀ xs : List PyData, goods xs = true → PyData.canLayAll0 xs = true
  | [], _ => by simp only [PyData.canLayAll0]
  | x :: xs, h => by
    simp only [goods, Bool.and_eq_true] at h
    simp only [PyData.canLayAll0, Bool.and_eq_true]
    exact ⟨good_lay x h.1, goods_lay xs h.2⟩
end
mutual
theorem eqv_iff : ∀ d e : PyData, good d = true → good e = true → (PyData.eqv d e = true ↔ d = e)
  | .int i, .int j, _, _ => by simp only [PyData.eqv, beq_iff_eq, PyData.int.injEq]
  | .int i, .str j, _, _ => by simp [PyData.eqv]
  | .int i, .tuple j, _, _ => by simp [PyData.eqv]
  | .int i, .list j, _, _ => by simp [PyData.eqv]
  | .str i, .int j, _, _ => by simp [PyData.eqv]
  | .str i, .str j, _, _ => by simp only [PyData.eqv, beq_iff_eq, PyData.str.injEq]
  | .str i, .tuple j, _, _ => by simp [PyData.eqv]
  | .str i, .list j, _, _ => by simp [PyData.eqv]
  | .tuple i, .int j, _, _ => by simp [PyData.eqv]
  | .tuple i, .str j, _, _ => by simp [PyData.eqv]
  | .tuple i, .tuple j, h1, h2 => by
    simp only [PyData.eqv, PyData.tuple.injEq]
    exact eqvs_iff i j (by simpa only [good] using h1) (by simpa only [good] using h2)
  | .tuple i, .list j, _, _ => by simp [PyData.eqv]
  | .list i, .int j, _, _ => by simp [PyData.eqv]
  | .list i, .str j, _, _ => by simp [PyData.eqv]
  | .list i, .tuple j, _, _ => by simp [PyData.eqv]
  | .list i, .list j, h1, h2 => by
    simp only [PyData.eqv, PyData.list.injEq]
    exact eqvs_iff i j (by simpa only [good] using h1) (by simpa only [good] using h2)
  | .none, _, h, _ => by simp only [good] at h; cases h
  | .bool _, _, h, _ => by simp only [good] at h; cases h
  | .dict _, _, h, _ => by simp only [good] at h; cases h
  | .int _, .none, _, h => by simp only [good] at h; cases h
  | .int _, .bool _, _, h => by simp only [good] at h; cases h
  | .int _, .dict _, _, h => by simp only [good] at h; cases h
  | .str _, .none, _, h => by simp only [good] at h; cases h
  | .str _, .bool _, _, h => by simp only [good] at h; cases h
  | .str _, .dict _, _, h => by simp only [good] at h; cases h
  | .tuple _, .none, _, h => by simp only [good] at h; cases h
  | .tuple _, .bool _, _, h => by simp only [good] at h; cases h
  | .tuple _, .dict _, _, h => by simp only [good] at h; cases h
  | .list _, .none, _, h => by simp only [good] at h; cases h
  | .list _, .bool _, _, h => by simp only [good] at h; cases h
  | .list _, .dict _, _, h => by simp only [good] at h; cases h
theorem eqvs_iff : ∀ d e : List PyData, goods d = true → goods e = true → (PyData.eqvAll d e = true ↔ d = e)
  | [], [], _, _ => by simp [PyData.eqvAll]
  | [], _ :: _, _, _ => by simp [PyData.eqvAll]
  | _ :: _, [], _, _ => by simp [PyData.eqvAll]
  | x :: xs, y :: ys, h1, h2 => by
    simp only [goods, Bool.and_eq_true] at h1 h2
    simp only [PyData.eqvAll, Bool.and_eq_true, List.cons.injEq]
    rw [eqv_iff x y h1.1 h2.1, eqvs_iff xs ys h1.2 h2.2]
end
/-- comparable by == : plain, not deep -/
def Cm (d : PyData) : Prop := good d = true ∧ d.depth ≤ 64
theorem Cm.shaped {d : PyData} (h : Cm d) : SeqAt.shaped d = true := by
  unfold SeqAt.shaped
  rw [good_lay d h.1, decide_eq_true h.2]
  rfl
theorem goods_map {α : Type} {f : α → PyData} (h : ∀ a, good (f a) = true) : ∀ xs : List α, goods (xs.map f) = true
  | [] => by simp only [List.map_nil, goods]
  | x :: xs => by simp only [List.map_cons, goods, h x, goods_map h xs, Bool.and_self]
theorem depth_map {α : Type} {f : α → PyData} {n : Nat} (h : ∀ a, (f a).depth ≤ n) : ∀ xs : List α, PyData.depthAll (xs.map f) ≤ n
  | [] => by simp only [List.map_nil, PyData.depthAll, Nat.zero_le]
  | x :: xs => by
    simp only [List.map_cons, PyData.depthAll]
    exact Nat.max_le.mpr ⟨h x, depth_map h xs⟩

section
variable {X : Cx} {e a b : Expr} {ρ : En} {k : En → Res → Prop} {pos : Pos}
/-! ## names, constants -/
theorem je_name (i : Nat) {x : Str} {c : Cell} (hN : X.N[i]? = some x) (hρ : ρ[i]? = some (some c)) (k0 : k ρ (resOf i c)) (hv : Vis X.env.scope x) (hd : (x == ("__debug__" : Str)) = false) (hcd : (x == ("__classdict__" : Str)) = false) :
    JE X (.Name x pos) ρ k := by
  intro F H σ fp Q s h
  obtain ⟨v, e1, e2⟩ := s.cells i c hρ
  refine ofE (pe_var hN hv hd hcd) ⟨v, e1, h F H fp ρ v (resOf i c) [] Fr.refl s ?_ k0⟩
  cases c with
  | dat d => exact ⟨e2.1, rfl⟩
  | own p ds => exact ⟨e1, rfl⟩
  | pool p => exact ⟨e1, rfl⟩
  | ins p fs => exact ⟨e1, rfl⟩
  | lots p xs => exact ⟨e1, rfl⟩
  | dct p kvs => exact ⟨e1, rfl⟩
  | pol p a b ns => exact ⟨e1, rfl⟩
theorem je_con {v : V} {d : PyData} (h : PE X e (tC v)) (hd : ∀ F, Dp X.K F v d) (k0 : k ρ (.dat d)) : JE X e ρ k := by
  intro F H σ fp Q s q
  exact ofE h (q F H fp ρ v (.dat d) [] Fr.refl s ⟨hd F, rfl⟩ k0)
theorem je_int {i : Int} {j : Nat} (k0 : k ρ (.dat (.int i))) : JE X (.Constant (.int i) j pos) ρ k := je_con pe_int (fun _ => .int i) k0
theorem je_bl {b : Bool} {j : Nat} (k0 : k ρ (.dat (.bool b))) : JE X (.Constant (.bool b) j pos) ρ k := je_con pe_bl (fun _ => .bl b) k0
theorem je_non {j : Nat} (k0 : k ρ (.dat .none)) : JE X (.Constant .none j pos) ρ k := je_con pe_non (fun _ => .non) k0
theorem je_str {x : Str} {j : Nat} (k0 : k ρ (.dat (.str x))) : JE X (.Constant (.str x) j pos) ρ k := je_con pe_str (fun _ => .str x) k0
theorem je_globI {x : Str} {n : Int} (hm : ∃ t, X.mg x = some (.int n t)) (hg : Gl X x) (k0 : k ρ (.dat (.int n))) (hd : (x == ("__debug__" : Str)) = false) : JE X (.Name x pos) ρ k := by
  obtain ⟨t, hm⟩ := hm
  exact je_con (pe_glob (v := .int n) hg hm ⟨t, rfl⟩ hd) (fun _ => .int n) k0

/-- the result as data -/
theorem JE.dat {k : En → PyData → Prop} (h : JE X e ρ (asD k)) {F H : Hp} {σ : L2.St} {fp : Nat → List Addr} {Q : VK} (s : St X.K F H σ ρ fp)
    (q : ∀ F' H' fp' ρ' v d, Fr F H fp F' H' fp' [] → St X.K F' H' σ ρ' fp' → Dp X.K F' v d → k ρ' d → Q v H') : tE X e σ H Q := by
  refine h F H σ fp Q s fun F' H' fp' ρ' v r fn f s' ro kr => ?_
  cases r with
  | dat d =>
    obtain ⟨h1, h2⟩ := ro
    subst h2
    exact q F' H' fp' ρ' v d f s' h1 kr
  | new c =>
    cases c with
    | own p ds =>
      obtain ⟨F2, s2, f2, d2⟩ := freeze s' f ro
      exact q F2 H' fp' ρ' v _ f2 s2 d2 kr
    | _ => exact False.elim kr
  | cel i => exact False.elim kr
theorem JE.mono {k' : En → Res → Prop} (h : JE X e ρ k) (hk : ∀ ρ r, k ρ r → k' ρ r) : JE X e ρ k' := fun F H σ fp Q s q =>
  h F H σ fp Q s fun F' H' fp' ρ' v r fn f s' ro kr => q F' H' fp' ρ' v r fn f s' ro (hk _ _ kr)

/-! ## two operands -/
def Bin (K : PySem.W.Frag) (r : R2) (d1 d2 : PyData) (k : Res → Prop) : Prop :=
  ∀ F H σ ρ fp v1 v2 (Q : VK), St K F H σ ρ fp → Dp K F v1 d1 → Dp K F v2 d2 → (∀ F' H' fp' v r fn, Fr F H fp F' H' fp' fn → St K F' H' σ ρ fp' → ResOk K F' H' σ fp' v r fn → k r → Q v H') → r v1 v2 H Q
theorem bin_tOp {r : R2} (h : JE X a ρ (asD fun ρ1 d1 => JE X b ρ1 (asD fun ρ2 d2 => Bin X.K r d1 d2 (k ρ2)))) {F H : Hp} {σ : L2.St} {fp : Nat → List Addr} {Q : VK} (s : St X.K F H σ ρ fp)
    (q : ∀ F' H' fp' ρ' v r fn, Fr F H fp F' H' fp' fn → St X.K F' H' σ ρ' fp' → ResOk X.K F' H' σ fp' v r fn → k ρ' r → Q v H') : tOp r (tE X a) (tE X b) σ H Q := by
  refine h.dat s fun F1 H1 fp1 ρ1 v1 d1 f1 s1 r1 k1 => ?_
  refine JE.dat k1 s1 fun F2 H2 fp2 ρ2 v2 d2 f2 s2 r2 k2 => ?_
  exact k2 F2 H2 σ ρ2 fp2 v1 v2 Q s2 (Dp_ex f2.ex r1) r2 fun F3 H3 fp3 v r fn f3 s3 r3 k3 => q F3 H3 fp3 ρ2 v r fn ((f1.trans f2).trans f3) s3 r3 k3
theorem je_bin {op : Operator} {r : R2} (ho : OpR X (binaryOp op) r) (h : JE X a ρ (asD fun ρ1 d1 => JE X b ρ1 (asD fun ρ2 d2 => Bin X.K r d1 d2 (k ρ2)))) : JE X (.BinOp a op b pos) ρ k :=
  fun F H σ fp Q s q => ofE (pe_op ho meE meE) (bin_tOp h s q)
theorem je_cmp {op : CmpOp} {r : R2} (ho : OpR X (compareOp op) r) (hm : behindInMarks op b = false) (h : JE X a ρ (asD fun ρ1 d1 => JE X b ρ1 (asD fun ρ2 d2 => Bin X.K r d1 d2 (k ρ2)))) : JE X (.Compare a [op] [b] pos) ρ k :=
  fun F H σ fp Q s q => ofE (pe_cmpR ho meE meE hm) (bin_tOp h s q)
section
variable {K : PySem.W.Frag} {kk : Res → Prop} {d d1 d2 : PyData} {i j : Int} {ds es : List PyData}
theorem bin_v {r : R2} {v0 : V → V → V} {d : PyData} (hr : ∀ F v1 v2 H Q, Dp K F v1 d1 → Dp K F v2 d2 → Q (v0 v1 v2) H → r v1 v2 H Q) (hd : ∀ F v1 v2, Dp K F v1 d1 → Dp K F v2 d2 → Dp K F (v0 v1 v2) d) (k0 : kk (.dat d)) : Bin K r d1 d2 kk := by
  intro F H σ ρ fp v1 v2 Q s h1 h2 q
  exact hr F v1 v2 H Q h1 h2 (q F H fp _ (.dat d) [] Fr.refl s ⟨hd F v1 v2 h1 h2, rfl⟩ k0)
theorem bin_I0 {g : Int → Int → Int} (k0 : kk (.dat (.int (g i j)))) : Bin K (rI0 fun i j => .int (g i j)) (.int i) (.int j) kk := by
  intro F H σ ρ fp v1 v2 Q s h1 h2 q
  cases h1.intE
  cases h2.intE
  exact ⟨i, j, rfl, rfl, q F H fp _ (.dat _) [] Fr.refl s ⟨.int _, rfl⟩ k0⟩
theorem bin_I {C : Int → Int → Prop} {g : Int → Int → Int} (hc : C i j) (k0 : kk (.dat (.int (g i j)))) : Bin K (rI C fun i j => .int (g i j)) (.int i) (.int j) kk := by
  intro F H σ ρ fp v1 v2 Q s h1 h2 q
  cases h1.intE
  cases h2.intE
  exact ⟨i, j, rfl, rfl, hc, q F H fp _ (.dat _) [] Fr.refl s ⟨.int _, rfl⟩ k0⟩
theorem bin_B0 {g : Int → Int → Bool} (k0 : kk (.dat (.bool (g i j)))) : Bin K (rI0 fun i j => .bl (g i j)) (.int i) (.int j) kk := by
  intro F H σ ρ fp v1 v2 Q s h1 h2 q
  cases h1.intE
  cases h2.intE
  exact ⟨i, j, rfl, rfl, q F H fp _ (.dat _) [] Fr.refl s ⟨.bl _, rfl⟩ k0⟩
theorem bin_eq (h1 : Cm d1) (h2 : Cm d2) (k0 : ∀ b : Bool, (b = true ↔ d1 = d2) → kk (.dat (.bool b))) : Bin K (rEqD K) d1 d2 kk := by
  intro F H σ ρ fp v1 v2 Q s r1 r2 q
  refine ⟨d1, d2, Dp_ex s.ex r1, Dp_ex s.ex r2, h1.shaped, h2.shaped, ?_⟩
  exact q F H fp _ (.dat _) [] Fr.refl s ⟨.bl _, rfl⟩ (k0 _ (eqv_iff d1 d2 h1.1 h2.1))
theorem bin_ne (h1 : Cm d1) (h2 : Cm d2) (k0 : ∀ b : Bool, (b = true ↔ d1 ≠ d2) → kk (.dat (.bool b))) : Bin K (rNeD K) d1 d2 kk := by
  intro F H σ ρ fp v1 v2 Q s r1 r2 q
  refine ⟨d1, d2, Dp_ex s.ex r1, Dp_ex s.ex r2, h1.shaped, h2.shaped, ?_⟩
  refine q F H fp _ (.dat _) [] Fr.refl s ⟨.bl _, rfl⟩ (k0 _ ?_)
  have z := eqv_iff d1 d2 h1.1 h2.1
  cases e : PyData.eqv d1 d2 with
  | true => exact ⟨fun q => (Bool.noConfusion q), fun q => absurd (z.mp e) q⟩
  | false => exact ⟨fun _ q => (by
      rw [z.mpr q] at e
      cases e), fun _ => rfl⟩
theorem bin_eqS (h1 : SeqAt.shaped d = true) (h : d1 = d) (h' : d2 = d) (k0 : kk (.dat (.bool true))) : Bin K (rEqD K) d1 d2 kk := by
  intro F H σ ρ fp v1 v2 Q s r1 r2 q
  subst h
  subst h'
  refine ⟨_, _, Dp_ex s.ex r1, Dp_ex s.ex r2, h1, h1, ?_⟩
  rw [SeqAt.eqv_refl _ (SeqAt.canLay_of_shaped h1)]
  exact q F H fp _ (.dat _) [] Fr.refl s ⟨.bl _, rfl⟩ k0
theorem bin_neS (h1 : SeqAt.shaped d = true) (h : d1 = d) (h' : d2 = d) (k0 : kk (.dat (.bool false))) : Bin K (rNeD K) d1 d2 kk := by
  intro F H σ ρ fp v1 v2 Q s r1 r2 q
  subst h
  subst h'
  refine ⟨_, _, Dp_ex s.ex r1, Dp_ex s.ex r2, h1, h1, ?_⟩
  rw [SeqAt.eqv_refl _ (SeqAt.canLay_of_shaped h1)]
  exact q F H fp _ (.dat _) [] Fr.refl s ⟨.bl _, rfl⟩ k0
theorem small_line {n : Nat} (h : n ≤ 100000) : n ≤ sizeLine := Nat.le_trans h (by decide)
theorem bin_catT (hz : ds.length + es.length ≤ 100000) (k0 : kk (.dat (.tuple (ds ++ es)))) : Bin K (rCatA K) (.tuple ds) (.tuple es) kk := by
  intro F H σ ρ fp v1 v2 Q s r1 r2 q
  obtain ⟨a, xs, rfl, h1, h2⟩ := r1.tupE
  obtain ⟨b, ys, rfl, h3, h4⟩ := r2.tupE
  refine ⟨a, b, xs, ys, rfl, rfl, Same.seqT s.ex h1, Same.seqT s.ex h3, small_line (by rw [h2.length, h4.length]; exact hz), fun e => ?_, fun _ e => ?_, fun _ _ p hp => ?_⟩
  · subst e
    cases h2
    exact q F H fp _ (.dat _) [] Fr.refl s ⟨.tup h3 h4, rfl⟩ k0
  · subst e
    cases h4
    rw [List.append_nil] at k0
    exact q F H fp _ (.dat _) [] Fr.refl s ⟨.tup h1 h2, rfl⟩ k0
  · have n := (s.fresh hp).1
    exact q _ _ fp _ (.dat _) [] (Fr.laid s hp) (s.laid hp) ⟨.tup (SqT.of upd_same) ((DpAll_ex (Same.new n) h2).append (DpAll_ex (Same.new n) h4)), rfl⟩ k0
end
end
end TW

/-! rules that the layer lacks: list.extend of a tuple, tuple * 1 -/
namespace TW
open PySem PySem.Spec PyProof.Rows L2
theorem list_extend_tupG (l : Addr) (items : Array Value) (n : Nat) (b : Addr) (items2 : Array Value) (n2 : Nat) (dd2 : Option Addr) (sl2 : Array (Option Value)) (hs0 : ¬(!items.isEmpty && Builtin.List.listTooLong (items.size + items2.size)) = true) (hs1 : items.size ≤ sizeLine) (hs2 : items.size + items2.size ≤ sizeLine + 1) :
    Meets (Builtin.«list.extend» ⟨[.ref l, .ref b], []⟩) (fun _ R s => s.heap.get? l = some { cls := .type "list", dict := none, data := .seq items n, slots := #[] } ∧ s.heap.get? b = some { cls := .type "tuple", dict := dd2, data := .seq items2 n2, slots := sl2 } ∧
      R (.ok (.ret Value.none)) { s with heap := s.heap.update l (Obj.mapSeq fun x => x ++ items2), toks := s.toks }) :=
  .of_wp fun prog w A R s h => by
    obtain ⟨hp, g, d, tk, os⟩ := s
    obtain ⟨hl, hb, h⟩ := h
    have f2 := AutoSeq1.sub_tuple_tuple
    have f3 := AutoSeq1.sub_list_list
    have f4 := AutoSeq1.sub_tuple_list
    have f5 := AutoSeq1.sub_list_tuple
    have hz' : (items ++ items2).size ≤ sizeLine + 1 := by
      rw [Array.size_append]
      exact hs2
    wp_walk using (wpAny_updateSeq hl rfl (hz := hs1) (_hz' := hz')), AutoSeq1.wpAny_loadPart' hl, AutoSeq1.wpAny_loadPart' hb
    exact ⟨_, rfl, h⟩
def rExtendT (K : PySem.W.Frag) : V → List V → Hp → VK → Prop := fun x vs H Q => ∃ l b xs zs, x = .ref l ∧ vs = [.ref b] ∧ H l = some (.lst xs) ∧ SqT K H b zs ∧ xs.length + zs.length ≤ sizeLine ∧ Q .non (upd H l (.lst (xs ++ zs)))
theorem mt_extendT {X : Cx} : MtM X "list.extend" (rExtendT X.K) := by
  intro pins s σ H x vs v us Q I rx rv h
  obtain ⟨l, b, xs, zs, rfl, rfl, hH, hB, hz, q⟩ := h
  cases rx
  obtain ⟨u, rfl, ru⟩ := rv.one
  cases ru
  obtain ⟨z, its, n, r, hl, e⟩ := I.lstM hH
  obtain ⟨its2, r2, ⟨⟨cls, dd, data, sl⟩, e2, hc, n2, hd⟩, hz2⟩ := I.tuple hB
  simp only at hc hd
  subst hc hd
  have hl2 := r2.length
  have hsz : its.toArray.size + its2.toArray.size ≤ sizeLine := by rw [List.size_toArray, List.size_toArray]; omega
  have hlong : ¬ (!its.toArray.isEmpty && Builtin.List.listTooLong (its.toArray.size + its2.toArray.size)) = true := by
    rw [notLongL hsz, Bool.and_false]
    exact Bool.false_ne_true
  refine call_meets F.slot_list_extend ⟨_, e, rfl⟩ F.entry_list_extend (F.args_list_extend_2 _ _)
    (list_extend_tupG l its.toArray n b its2.toArray n2 dd sl hlong (by rw [List.size_toArray]; omega) (by omega)) ⟨e, e2, ?_⟩
  refine ⟨.non, _, I.lset (its' := its ++ its2) hH e (by simp) (r.append r2) ?_, rfl, q⟩
  rw [List.length_append]
  omega
theorem tuple_mul1 (l : Addr) (items : Array Value) (n : Nat) (dd : Option Addr) (sl : Array (Option Value)) (u : Tok) :
    Meets (Builtin.«tuple.__mul__» ⟨[.ref l, .int 1 u], []⟩) (fun _ R s => s.heap.get? l = some { cls := .type "tuple", dict := dd, data := .seq items n, slots := sl } ∧
      R (.ok (.ret (Value.ref l))) s) :=
  .of_wp fun prog w A R s h => by
    obtain ⟨hp, g, d, tk, os⟩ := s
    obtain ⟨hl, h⟩ := h
    have f1 := AutoSeq1.idx_int
    have f2 := AutoSeq1.sub_tuple_tuple
    wp_walk using AutoSeq1.wpAny_loadPart' hl
    exact ⟨_, rfl, h⟩
/-- t * k, k at least 1: t itself for k = 1 -/
def rRepA (K : PySem.W.Frag) : R2 := fun x y H Q => ∃ l k xs, x = .ref l ∧ y = .int k ∧ SqT K H l xs ∧ xs ≠ [] ∧ 1 ≤ k ∧ k ≤ 1000 ∧ xs.length ≤ 1000 ∧ (k = 1 → Q (.ref l) H) ∧ (2 ≤ k → ∀ p, H p = none → Q (.ref p) (upd H p (.tup (List.replicate k.toNat xs).flatten)))
theorem op_repA {X : Cx} : OpR X (binaryOp .Mult) (rRepA X.K) := by
  intro pins s σ H x y v u Q I rx ry h
  obtain ⟨l, k, xs, rfl, rfl, hT, hne, h1, h2, hz, q1, q2⟩ := h
  by_cases hk : k = 1
  · subst hk
    cases rx
    obtain ⟨t, rfl⟩ := ry
    obtain ⟨its, r, ⟨⟨cls, dd, data, sl⟩, ho, hc, n, hd⟩, hs⟩ := I.tuple hT
    simp only at hc hd
    subst hc hd
    refine wpAny_binaryOp_repeat_ref (T := "tuple") (U := "int") (by decide) ⟨_, ho, rfl⟩ (fun s' => typeIs_int s' 1 t) noFill_tuple_mul F.fills_int_mul F.slot_int_rmul repeat_tuple F.slot_int_index.lookup
      (call_meets F.slot_int_rmul (typeIs_int s 1 t) F.entry_int_rmul (F.args_int_rmul_2 _ _) (int_rmul_tuple 1 t l its.toArray n dd sl)
        ⟨ho, rfl, ⟨_, ho, rfl⟩, call_meets F.slot_tuple_mul ⟨_, ho, rfl⟩ F.entry_tuple_mul (F.args_tuple_mul_2 _ _) (tuple_mul1 l its.toArray n dd sl t) ⟨ho, ?_⟩⟩)
    exact ⟨.ref l, H, I, rfl, q1 rfl⟩
  · exact op_repT pins s σ H _ _ v u Q I rx ry ⟨l, k, xs, rfl, rfl, hT, hne, by omega, h2, hz, q2 (by omega)⟩

/-! ### enumerate(tuple) -/
theorem meets_enumerate_newT (l : Addr) (items : Array Value) (n : Nat) (dct : Option Addr) (sl : Array (Option Value)) :
    Meets (Builtin.«enumerate.__new__» ⟨[.type "enumerate", .ref l], []⟩) (fun _ R s => s.heap.get? l = some { cls := .type "tuple", dict := dct, data := .seq items n, slots := sl } ∧
      R (.ok (.ret (.ref (s.heap.push { cls := .type "tuple_iterator", data := .fields #[.ref l, .int 0 0] }).objs.size)))
        { s with heap := (s.heap.push { cls := .type "tuple_iterator", data := .fields #[.ref l, .int 0 0] }).push { cls := .type "enumerate", data := .fields #[.none, .bool false, .ref s.heap.objs.size, rawInt 0, .none, .none] } }) :=
  .of_wp fun prog w A R s h => by
    obtain ⟨hp, g, d, tk, os⟩ := s
    obtain ⟨hl, h⟩ := h
    have hsub := sub_enumerate
    have hL : Heap.IsTuple (Shared.heap ⟨hp, g, d, tk, os⟩) l items := ⟨_, hl, rfl, n, rfl⟩
    wp_walk using AutoSeq1.wpAny_loadPart' hl
    refine wpAny_stack_any fun st => wpAny_pure ?_
    split
    · rename_i c _ _ _ _ _
      cases (c == Value.type "enumerate")
      · wp_walk using AutoSeq1.wpAny_loadPart' hl, wpAny_pyIter_tuple hL
        exact ⟨_, rfl, h⟩
      · wp_walk using AutoSeq1.wpAny_loadPart' hl, wpAny_pyIter_tuple hL
        exact ⟨_, rfl, h⟩
    · wp_walk using AutoSeq1.wpAny_loadPart' hl, wpAny_pyIter_tuple hL
      exact ⟨_, rfl, h⟩
section
variable {prog : Program} {w : World} {A : Around} {E : Value → Shared → Prop} {s : Shared}
theorem call_enumerate_tup {l : Addr} {items : Array Value} {Q : Value → Shared → Prop} (hL : s.heap.IsTuple l items)
    (h : ∀ h', IsEnum h' (s.heap.objs.size + 1) s.heap.objs.size 0 .none → h'.IsTupleIter s.heap.objs.size l 0 → h'.objs.size = s.heap.objs.size + 2 →
      (∀ b o, s.heap.get? b = some o → h'.get? b = some o) → Q (.ref (s.heap.objs.size + 1)) { s with heap := h' }) :
    wpAny (model prog w) A (call (.type "enumerate") [.ref l]) Q E s := by
  obtain ⟨⟨c, dct, dt, sl⟩, hl, hc, n, hd⟩ := hL
  replace hc : c = .type "tuple" := hc
  replace hd : dt = .seq items n := hd
  subst hc hd
  refine callType_new F.called_enumerate (by decide) (F.typeCall_enumerate_1 _) (F.newCall_enumerate_1 _) (fun obj => F.args_object_init_2 obj _) F.entry_enumerate_new
    (meets_enumerate_newT l items n dct sl) ⟨hl, ?_⟩
  have hz : (s.heap.push { cls := .type "tuple_iterator", data := .fields #[.ref l, .int 0 0] }).objs.size = s.heap.objs.size + 1 := Heap.size_push ..
  show _ ∧ _
  rw [hz]
  have he : IsEnum ((s.heap.push { cls := .type "tuple_iterator", data := .fields #[.ref l, .int 0 0] }).push
      { cls := .type "enumerate", data := .fields #[.none, .bool false, .ref s.heap.objs.size, rawInt 0, .none, .none] }) (s.heap.objs.size + 1) s.heap.objs.size 0 .none := by
    have := Heap.get?_push_size (s.heap.push { cls := .type "tuple_iterator", data := .fields #[.ref l, .int 0 0] })
      (o := { cls := .type "enumerate", data := .fields #[.none, .bool false, .ref s.heap.objs.size, rawInt 0, .none, .none] }) rfl
    rw [hz] at this
    exact this
  refine ⟨⟨_, he, rfl⟩, h _ he ⟨_, Heap.get?_push_of_some _ (Heap.get?_push_size _ rfl), rfl, rfl⟩ (by rw [Heap.size_push, hz]) fun b o x => Heap.get?_push_of_some _ (Heap.get?_push_of_some _ x)⟩
end
theorem wpAny_pyNext_enum_endT {prog : Program} {w : World} {A : Around} {E : Value → Shared → Prop} {s : Shared} {e it l : Addr} {i : Nat} {items : Array Value} {old : Value} {Q : Option Value → Shared → Prop} (hh : A.handled = none)
    (he : IsEnum s.heap e it i old) (hit : s.heap.IsTupleIter it l i) (hl : s.heap.IsTuple l items) (hx : items[i]? = none)
    (hQ : ∀ h', Heap.ExtBut it s.heap h' → Q none { s with heap := h' }) : wpAny (model prog w) A (pyNext (.ref e)) Q E s := by
  have hT : s.TypeIs (.ref e) "enumerate" := ⟨_, he, rfl⟩
  unfold pyNext
  refine wpAny_bind (wpAny_attempt (wpAny_callSpecial?_slot (name := Str.ofString "__next__") hT F.slot_enumerate_next
    (wpAny_call_entry F.slot_enumerate_next hT F.entry_enumerate_next ?_ (F.args_enumerate_next_1 _))))
  show wpAny _ _ (field (.ref e) 2 >>= _) _ _ _
  refine wpAny_bind (wpAny_field he rfl (x := .ref it) rfl ?_)
  refine wpAny_bind (wpAny_nextOf_tuple_end (A := A.in1) hh hit hl hx fun h' x he' hx' => ?_)
  obtain ⟨o, ho, hc⟩ := hx'
  refine wpAny_bind (wpAny_isInstance (T := "StopIteration") (b := true) ⟨o, ho, hc⟩ isSubtype_stop ?_)
  exact wpAny_pure (hQ _ he')
/-- the tuple at a, each item in a new pair -/
def Itet (K : PySem.W.Frag) (a : Addr) : It :=
  ⟨fun i H => ∃ (xs : List V) (x : V), SqT K H a xs ∧ xs[i]? = some x, fun i H v H' => ∃ T x, v = .ref T ∧ H T = none ∧ H' = upd H T (.tup [.int (i : Nat), x]) ∧ ∀ xs, SqT K H a xs → xs[i]? = some x, fun i H => ∃ xs : List V, SqT K H a xs ∧ xs.length ≤ i⟩
theorem turn_enumT {P : Program} {w : World} {K : PySem.W.Frag} {elts : List Expr} {kk : Nat} {tpos : Pos} (a e it : Addr) :
    Turn P w K (.Tuple elts kk tpos) (Itet K a) [e, it] e (fun i h => (∃ old, IsEnum h e it ((i : Nat) : Int) old) ∧ h.IsTupleIter it a i ∧ e ≠ it ∧ e ≠ a ∧ a ≠ it) where
  mem := by simp
  obj := fun i h st b hb => by
    obtain ⟨⟨old, he⟩, ⟨o, ho, hc, hd⟩, _⟩ := st
    have e' : b = e ∨ b = it := by simpa using hb
    rcases e' with z | z
    · rw [z]; exact ⟨_, he, fun v q => nomatch q⟩
    · rw [z]; exact ⟨o, ho, fun v q => by rw [hd] at q; cases q⟩
  keep := fun i h h' st k => let ⟨⟨old, he⟩, hi, hne⟩ := st; ⟨⟨old, k e (by simp) _ he⟩, hi.at fun o q => k it (by simp) o q, hne⟩
  item := by
    intro X hP hw hK hc i pins s σ H E I hf st hg
    subst hP hw hK
    obtain ⟨⟨old, he⟩, hit, hne, hea, hai⟩ := st
    obtain ⟨xs, x, hq, hx⟩ := hg
    obtain ⟨its, rv, p, hz⟩ := I.tuple hq
    obtain ⟨u, hu, ru⟩ := rv.get hx
    have hel : e < s.heap.objs.size := Heap.lt_size he
    have hil : it < s.heap.objs.size := by obtain ⟨_, q, _⟩ := hit; exact Heap.lt_size q
    have hlt : i < its.toArray.size := by
      have z := (List.getElem?_eq_some_iff.mp hu).1
      rw [List.size_toArray]
      exact z
    refine wpAny_pyNext_enum_itemD (Draws.tuple (A := X.A.in1) (I.ok.hd hc) it a hai its.toArray) he ⟨hit, p⟩ hlt hne (by simp [hne, hea]) fun x2 h' tk hx2 ho hst hT hsz hk => ?_
    have ex2 : x2 = u := by
      have h1 : its.toArray[i]? = some x2 := hx2
      have h2 : its.toArray[i]? = some u := by simpa using hu
      rw [h2] at h1
      exact (Option.some.inj h1).symm
    subst ex2
    refine ⟨_, rfl, wpAny_letOwnedTupleGo_enum (s := { s with heap := h', toks := tk + 1 }) ho fun h'' he' sb => ?_⟩
    have hT2 : h''.get? s.heap.objs.size = some { cls := .type "tuple", data := .seq #[.int i tk, x2] } := (sb.2 _ (Nat.ne_of_gt hel)).trans hT
    have new : ObjOk X.prog X.w (upd H s.heap.objs.size (.tup [.int (i : Nat), x])) h'' s.heap.objs.size (.tup [.int (i : Nat), x]) :=
      ⟨by show 2 ≤ sizeLine; decide, [.int i tk, x2], .cons ⟨_, rfl⟩ (.cons ru .nil), ⟨_, hT2, rfl, _, rfl⟩⟩
    have I1 : Inv X pins σ (upd H s.heap.objs.size (.tup [.int (i : Nat), x])) { s with heap := h'', toks := tk + 1 } :=
      I.turnedNew (ch := [e, it]) (fun b ob hb q => (sb.2 b (fun z => hb (by simp [z]))).trans (hk b ob (fun z => hb (by simp [z])) (fun z => hb (by simp [z])) q)) hf (Nat.le_refl _) new
    refine ⟨.ref s.heap.objs.size, _, I1, rfl, ⟨_, x, rfl, I.hok.fresh (Nat.le_refl _), rfl, fun ys hy => by rw [I.tuple_inj hy hq]; exact hx⟩, ⟨⟨x2, ?_⟩, hst.1.at fun o q => (sb.2 it (Ne.symm hne)).trans q, hne, hea, hai⟩, fun b hb => ?_⟩
    · have e1 : ((i + 1 : Nat) : Int) = (i : Int) + 1 := by omega
      rw [e1]; exact he'
    · have hb' : b < s.heap.objs.size := by
        have e' : b = e ∨ b = it := by simpa using hb
        rcases e' with z | z
        · rw [z]; exact hel
        · rw [z]; exact hil
      rw [upd_ne (Nat.ne_of_lt hb')]
      exact (hf b hb).1
  done := by
    intro X hP hw hK hc i pins s σ H E I hf st hg
    subst hP hw hK
    obtain ⟨⟨old, he⟩, hit, hne, hea, hai⟩ := st
    obtain ⟨xs, hq, hx⟩ := hg
    obtain ⟨its, rv, p, hz⟩ := I.tuple hq
    obtain ⟨f0, f1, f2, f3, f4, f5⟩ := hf it (by simp)
    have hl := rv.length
    have hil : it < s.heap.objs.size := by obtain ⟨_, q, _⟩ := hit; exact Heap.lt_size q
    refine wpAny_pyNext_enum_endT (I.ok.hd hc) he hit p (by simp; omega) fun h' eb => ⟨rfl, I.turned (t' := s.toks) (fun b o hb q => eb b o hb q) f0 f1 f3 f4 f5⟩
  self := fun A i s Q E st h => let ⟨⟨_, he⟩, _⟩ := st; wpAny_pyIter_enum he h
end TW

namespace TW
open PySem PySem.Spec PyProof.Rows L2
section
variable {X : Cx} {e a b : Expr} {es : List Expr} {ρ : En} {k : En → Res → Prop} {pos : Pos}

/-! ## what a result reads as -/
def ROk (K : PySem.W.Frag) (F : Hp) (σ : L2.St) (v : V) : Res → Prop
  | .dat d => Dp K F v d
  | .cel i => σ[i]? = some (some v)
  | .new _ => False
/-- a list or tuple -/
def seqR (ρ : En) : Res → Option (List PyData)
  | .dat (.tuple ds) => some ds
  | .dat (.list ds) => some ds
  | .cel i => match ρ[i]? with
    | some (some (.own _ ds)) => some ds
    | _ => none
  | _ => none
theorem seq_at {K : PySem.W.Frag} {F H : Hp} {σ : L2.St} {fp : Nat → List Addr} {v : V} {r : Res} {ds : List PyData} (s : St K F H σ ρ fp) (h : ROk K F σ v r) (e : seqR ρ r = some ds) :
    ∃ p vs, v = .ref p ∧ (SqL K H p vs ∨ SqT K H p vs) ∧ DpAll K F vs ds := by
  cases r with
  | dat d =>
    cases d with
    | tuple xs =>
      cases (Option.some.inj e)
      obtain ⟨a, vs, e1, h1, h2⟩ := Dp.tupE h
      exact ⟨a, vs, e1, .inr (Same.seqT s.ex h1), h2⟩
    | list xs =>
      cases (Option.some.inj e)
      obtain ⟨a, vs, e1, h1, h2⟩ := Dp.lstE h
      exact ⟨a, vs, e1, .inl (s.ex.seq h1), h2⟩
    | _ => cases e
  | new c => cases h
  | cel i =>
    have e2 : (match ρ[i]? with
      | some (some (.own _ ds)) => some ds
      | _ => none) = some ds := e
    cases q : ρ[i]? with
    | none =>
      rw [q] at e2
      cases e2
    | some o =>
      cases o with
      | none =>
        rw [q] at e2
        cases e2
      | some c =>
        cases c with
        | own p xs =>
          rw [q] at e2
          have e3 : xs = ds := Option.some.inj e2
          subst e3
          obtain ⟨w, h1, e1, _, vs, h3, h4⟩ := s.cells i _ q
          have h' : σ[i]? = some (some v) := h
          rw [h1] at h'
          cases h'
          exact ⟨p, vs, e1, .inl (SqL.of h3), h4⟩
        | _ =>
          rw [q] at e2
          cases e2
theorem ROk.ex {K : PySem.W.Frag} {F F' : Hp} {σ : L2.St} {v : V} {r : Res} (e : Same F F') (h : ROk K F σ v r) : ROk K F' σ v r := by
  cases r with
  | dat d => exact Dp_ex e h
  | cel i => exact h
  | new c => exact h
/-- the result as data or a cell (a new list is frozen) -/
abbrev asR (k : En → Res → Prop) : En → Res → Prop := fun ρ r => match r with
  | .dat d => k ρ (.dat d)
  | .new (.own _ ds) => k ρ (.dat (.list ds))
  | .cel i => k ρ (.cel i)
  | _ => False
theorem JE.res (h : JE X e ρ (asR k)) {F H : Hp} {σ : L2.St} {fp : Nat → List Addr} {Q : VK} (s : St X.K F H σ ρ fp)
    (q : ∀ F' H' fp' ρ' v r, Fr F H fp F' H' fp' [] → St X.K F' H' σ ρ' fp' → ROk X.K F' σ v r → k ρ' r → Q v H') : tE X e σ H Q := by
  refine h F H σ fp Q s fun F' H' fp' ρ' v r fn f s' ro kr => ?_
  cases r with
  | dat d =>
    obtain ⟨h1, h2⟩ := ro
    subst h2
    exact q F' H' fp' ρ' v (.dat d) f s' h1 kr
  | new c =>
    cases c with
    | own p ds =>
      obtain ⟨F2, s2, f2, d2⟩ := freeze s' f ro
      exact q F2 H' fp' ρ' v (.dat (.list ds)) f2 s2 d2 kr
    | _ => exact False.elim kr
  | cel i =>
    obtain ⟨h1, h2⟩ := ro
    subst h2
    exact q F' H' fp' ρ' v (.cel i) f s' h1 kr

/-! ## an item -/
theorem atI_dp {K : PySem.W.Frag} {F : Hp} {vs : List V} {ds : List PyData} {i : Int} {d : PyData} (h : DpAll K F vs ds) (e : atI ds i = some d) : ∃ v, atI vs i = some v ∧ Dp K F v d := by
  unfold atI at e ⊢
  rw [h.length]
  cases q : ixN ds.length i with
  | none =>
    rw [q] at e
    cases e
  | some j =>
    rw [q] at e
    exact h.get e
abbrev IxK (ρ : En) (r : Res) (d2 : PyData) (kk : Res → Prop) : Prop := ∃ ds i d, seqR ρ r = some ds ∧ d2 = .int i ∧ atI ds i = some d ∧ kk (.dat d)
theorem je_ix (h : JE X a ρ (asR fun ρ1 r1 => JE X b ρ1 (asD fun ρ2 d2 => IxK ρ2 r1 d2 (k ρ2)))) (hs : PlainIx b) : JE X (.Subscript a b pos) ρ k := by
  intro F H σ fp Q s q
  refine ofE (pe_ix (ix_list.or ix_tup) meE meE hs) ?_
  refine h.res s fun F1 H1 fp1 ρ1 v1 r1 f1 s1 o1 k1 => ?_
  refine JE.dat k1 s1 fun F2 H2 fp2 ρ2 v2 d2 f2 s2 o2 k2 => ?_
  obtain ⟨ds, i, d, e1, e2, e3, k3⟩ := k2
  subst e2
  cases o2.intE
  obtain ⟨p, vs, ev, hq, ha⟩ := seq_at s2 (o1.ex f2.ex) e1
  obtain ⟨v, h1, h2⟩ := atI_dp ha e3
  have fin := q F2 H2 fp2 ρ2 v (.dat d) [] (f1.trans f2) s2 ⟨h2, rfl⟩ k3
  rcases hq with hq | hq
  · exact .inl ⟨p, vs, i, v, ev, rfl, hq, h1, fin⟩
  · exact .inr ⟨p, vs, i, v, ev, rfl, hq, h1, fin⟩

/-! ## slices -/
def cutD (xs : List PyData) (lo hi : Option Int) : List PyData := (xs.drop (HT.sIx xs.length 0 lo)).take (HT.sIx xs.length xs.length hi - HT.sIx xs.length 0 lo)
theorem cut_dp {K : PySem.W.Frag} {F : Hp} {vs : List V} {ds : List PyData} {lo hi : Option Int} (h : DpAll K F vs ds) : DpAll K F (cutV vs lo hi) (cutD ds lo hi) := by
  unfold cutV cutD
  rw [h.length]
  exact (h.drop _).take _
theorem cut_whole {xs : List PyData} {lo hi : Option Int} (h : HT.sIx xs.length 0 lo = 0 ∧ HT.sIx xs.length xs.length hi = xs.length) : cutD xs lo hi = xs := by
  unfold cutD
  rw [h.1, h.2, List.drop_zero, Nat.sub_zero, List.take_length]
/-- what a slice of d gives -/
abbrev SlK (d : PyData) (lo hi : Option Int) (kk : Res → Prop) : Prop := match d with
  | .tuple ds => kk (.dat (.tuple (cutD ds lo hi)))
  | .list ds => ∀ p, kk (.new (.own p (cutD ds lo hi)))
  | _ => False
theorem slk_go {K : PySem.W.Frag} {F H : Hp} {σ : L2.St} {fp : Nat → List Addr} {v : V} {d : PyData} {lo hi : Option Int} {kk : Res → Prop} {Q : VK} (s : St K F H σ ρ fp) (h : Dp K F v d) (k0 : SlK d lo hi kk)
    (q : ∀ F' H' fp' v r fn, Fr F H fp F' H' fp' fn → St K F' H' σ ρ fp' → ResOk K F' H' σ fp' v r fn → kk r → Q v H') : rSlA K v lo hi H Q ∨ rSlL K v lo hi H Q := by
  cases d with
  | tuple ds =>
    obtain ⟨a, vs, e1, h1, h2⟩ := h.tupE
    refine .inl ⟨a, vs, e1, Same.seqT s.ex h1, fun w => ?_, fun w p hp => ?_⟩
    · rw [h2.length] at w
      have k1 : kk (.dat (.tuple (cutD ds lo hi))) := k0
      rw [cut_whole w] at k1
      exact q F H fp _ (.dat (.tuple ds)) [] Fr.refl s ⟨.tup h1 h2, rfl⟩ k1
    · have n := (s.fresh hp).1
      exact q _ _ fp _ (.dat (.tuple (cutD ds lo hi))) [] (Fr.laid s hp) (s.laid hp) ⟨.tup (SqT.of upd_same) (DpAll_ex (Same.new n) (cut_dp h2)), rfl⟩ k0
  | list ds =>
    obtain ⟨a, vs, e1, h1, h2⟩ := h.lstE
    refine .inr ⟨a, vs, e1, s.ex.seq h1, fun p hp => ?_⟩
    obtain ⟨n1, n2⟩ := s.fresh hp
    refine q _ _ fp _ (.new (.own p (cutD ds lo hi))) [p] (Fr.made s hp [p] (by simp)) (s.made hp) ⟨⟨rfl, rfl, _, upd_same, cut_dp h2⟩, fun a ha => ?_⟩ (k0 p)
    obtain rfl : a = p := by simpa using ha
    exact ⟨n1, by rw [upd_same]; simp, n2⟩
  | _ => exact False.elim k0
theorem je_slLo {p2 : Pos} (h : JE X e ρ (asD fun ρ1 d1 => JE X a ρ1 (asD fun ρ2 d2 => ∃ i, d2 = .int i ∧ SlK d1 (some i) none (k ρ2)))) : JE X (.Subscript e (.Slice (some a) none none p2) pos) ρ k := by
  intro F H σ fp Q s q
  refine ofE (pe_slice (sl_tupA.or sl_list) meE (po_some meE) po_none) ?_
  refine h.dat s fun F1 H1 fp1 ρ1 v1 d1 f1 s1 o1 k1 => ?_
  refine JE.dat k1 s1 fun F2 H2 fp2 ρ2 v2 d2 f2 s2 o2 k2 => ?_
  obtain ⟨i, e2, k3⟩ := k2
  subst e2
  exact ⟨i, o2.intE, slk_go s2 (Dp_ex f2.ex o1) k3 fun F3 H3 fp3 v r fn f3 s3 r3 k3 => q F3 H3 fp3 ρ2 v r fn ((f1.trans f2).trans f3) s3 r3 k3⟩
theorem je_slHi {p2 : Pos} (h : JE X e ρ (asD fun ρ1 d1 => JE X a ρ1 (asD fun ρ2 d2 => ∃ i, d2 = .int i ∧ SlK d1 none (some i) (k ρ2)))) : JE X (.Subscript e (.Slice none (some a) none p2) pos) ρ k := by
  intro F H σ fp Q s q
  refine ofE (pe_slice (sl_tupA.or sl_list) meE po_none (po_some meE)) ?_
  refine h.dat s fun F1 H1 fp1 ρ1 v1 d1 f1 s1 o1 k1 => ?_
  refine JE.dat k1 s1 fun F2 H2 fp2 ρ2 v2 d2 f2 s2 o2 k2 => ?_
  obtain ⟨i, e2, k3⟩ := k2
  subst e2
  exact ⟨i, o2.intE, slk_go s2 (Dp_ex f2.ex o1) k3 fun F3 H3 fp3 v r fn f3 s3 r3 k3 => q F3 H3 fp3 ρ2 v r fn ((f1.trans f2).trans f3) s3 r3 k3⟩

/-! ## argument lists, displays -/
theorem ArgsOk.ex {K : PySem.W.Frag} {F F' : Hp} {σ : L2.St} (e : Same F F') : ∀ {vs : List V} {rs : List Res}, ArgsOk K F σ vs rs → ArgsOk K F' σ vs rs
  | _, _, .nil => .nil
  | _, _, .dat h t => .dat (Dp_ex e h) (ArgsOk.ex e t)
  | _, _, .cel h t => .cel h (ArgsOk.ex e t)
theorem ja_nil {k : En → List Res → Prop} (k0 : k ρ []) : JA X [] ρ k := fun F H σ fp Q s q => ofA pa_nil (q F H fp ρ [] [] Fr.refl s .nil k0)
theorem ja_cons {k : En → List Res → Prop} (h : JE X e ρ (asR fun ρ1 r => JA X es ρ1 fun ρ2 rs => k ρ2 (r :: rs))) (hs : starEach (e :: es) X.env = (false, eval e X.env) :: starEach es X.env) : JA X (e :: es) ρ k := by
  intro F H σ fp Q s q
  refine ofA (pa_cons meE meA hs) ?_
  refine h.res s fun F1 H1 fp1 ρ1 v1 r1 f1 s1 o1 k1 => ?_
  refine k1 F1 H1 σ fp1 _ s1 fun F2 H2 fp2 ρ2 vs rs f2 s2 o2 k2 => ?_
  refine q F2 H2 fp2 ρ2 (v1 :: vs) (r1 :: rs) (f1.trans f2) s2 ?_ k2
  cases r1 with
  | dat d => exact .dat (Dp_ex f2.ex o1) o2
  | cel i => exact .cel o1 o2
  | new c => exact False.elim o1
def datsOf : List Res → Option (List PyData)
  | [] => some []
  | .dat d :: rs => (datsOf rs).map (d :: ·)
  | _ => none
theorem dats_at {K : PySem.W.Frag} {F : Hp} {σ : L2.St} : ∀ {vs : List V} {rs : List Res} {ds : List PyData}, ArgsOk K F σ vs rs → datsOf rs = some ds → DpAll K F vs ds
  | _, _, _, .nil, e => by
    cases (Option.some.inj e)
    exact .nil
  | _, _, ds, .dat (rs := rs) h t, e => by
    cases q : datsOf rs with
    | none =>
      simp only [datsOf, q] at e
      cases e
    | some zs =>
      simp only [datsOf, q] at e
      cases (Option.some.inj e)
      exact .cons h (dats_at t q)
  | _, _, _, .cel h t, e => by cases e
theorem je_tup {x1 : Nat} (h : JA X es ρ fun ρ1 rs => ∃ ds, datsOf rs = some ds ∧ ds.length ≤ 100000 ∧ k ρ1 (.dat (.tuple ds))) : JE X (.Tuple es x1 pos) ρ k := by
  intro F H σ fp Q s q
  refine ofE (pe_tup meA) ?_
  refine h F H σ fp _ s fun F1 H1 fp1 ρ1 vs rs f1 s1 o1 k1 => ?_
  obtain ⟨ds, e1, hz, k2⟩ := k1
  have ha := dats_at o1 e1
  refine ⟨small_line (by rw [ha.length]; exact hz), fun p hp => ?_⟩
  have n := (s1.fresh hp).1
  exact q _ _ fp1 ρ1 _ (.dat (.tuple ds)) [] (f1.trans (Fr.laid s1 hp)) (s1.laid hp) ⟨.tup (SqT.of upd_same) (DpAll_ex (Same.new n) ha), rfl⟩ k2
/-- a new list at p is nobody's -/
theorem newOwn {K : PySem.W.Frag} {F H : Hp} {σ : L2.St} {fp : Nat → List Addr} (s : St K F H σ ρ fp) {p : Addr} (hp : H p = none) {vs : List V} {ds : List PyData} (h : DpAll K F vs ds) :
    Fr F H fp F (upd H p (.lst vs)) fp [p] ∧ St K F (upd H p (.lst vs)) σ ρ fp ∧ ResOk K F (upd H p (.lst vs)) σ fp (.ref p) (.new (.own p ds)) [p] := by
  obtain ⟨n1, n2⟩ := s.fresh hp
  refine ⟨Fr.made s hp [p] (by simp), s.made hp, ⟨rfl, rfl, _, upd_same, h⟩, fun a ha => ?_⟩
  obtain rfl : a = p := by simpa using ha
  exact ⟨n1, by rw [upd_same]; simp, n2⟩
theorem je_lst (h : JA X es ρ fun ρ1 rs => ∃ ds, datsOf rs = some ds ∧ ds.length ≤ 100000 ∧ ∀ p, k ρ1 (.new (.own p ds))) : JE X (.List es pos) ρ k := by
  intro F H σ fp Q s q
  refine ofE (pe_lst meA) ?_
  refine h F H σ fp _ s fun F1 H1 fp1 ρ1 vs rs f1 s1 o1 k1 => ?_
  obtain ⟨ds, e1, hz, k2⟩ := k1
  have ha := dats_at o1 e1
  refine ⟨small_line (by rw [ha.length]; exact hz), fun p hp => ?_⟩
  obtain ⟨a1, a2, a3⟩ := newOwn s1 hp ha
  exact q _ _ fp1 ρ1 _ (.new (.own p ds)) [p] (f1.trans a1) a2 a3 (k2 p)

/-! ## built-in calls -/
def Ca (K : PySem.W.Frag) (r : List V → Hp → VK → Prop) (ρ : En) (rs : List Res) (kk : Res → Prop) : Prop :=
  ∀ F H σ fp vs (Q : VK), St K F H σ ρ fp → ArgsOk K F σ vs rs → (∀ F' H' fp' v r fn, Fr F H fp F' H' fp' fn → St K F' H' σ ρ fp' → ResOk K F' H' σ fp' v r fn → kk r → Q v H') → r vs H Q
theorem je_callB {id : String} {x : Str} {p : Pos} {r : List V → Hp → VK → Prop} (hc : CallR X (.builtin id) r) (hg : Gl X x) (hm : X.mg x = none) (hv : bootBuiltins x = some (.builtin id)) (h : JA X (e :: es) ρ fun ρ1 rs => Ca X.K r ρ1 rs (k ρ1))
    (hn : x ≠ "__name__") (hdb : (x == ("__debug__" : Str)) = false) (he : starEach (e :: es) X.env = (false, eval e X.env) :: starEach es X.env) (hpl : (backTo pos (starEach es X.env)).any (·.1) = false) : JE X (.Call (.Name x p) (e :: es) [] pos) ρ k := by
  intro F H σ fp Q s q
  refine ofE (pe_callB hc hg hm hv meA hn hdb he hpl) ?_
  refine h F H σ fp _ s fun F1 H1 fp1 ρ1 vs rs f1 s1 o1 k1 => ?_
  exact k1 F1 H1 σ fp1 vs Q s1 o1 fun F2 H2 fp2 v r fn f2 s2 o2 k2 => q F2 H2 fp2 ρ1 v r fn (f1.trans f2) s2 o2 k2
theorem je_callTy {T : String} {x : Str} {p : Pos} {r : List V → Hp → VK → Prop} (hc : CallR X (.type T) r) (hg : Gl X x) (hm : X.mg x = none) (hv : bootBuiltins x = some (.type T)) (h : JA X (e :: es) ρ fun ρ1 rs => Ca X.K r ρ1 rs (k ρ1))
    (hn : x ≠ "__name__") (hdb : (x == ("__debug__" : Str)) = false) (he : starEach (e :: es) X.env = (false, eval e X.env) :: starEach es X.env) (hpl : (backTo pos (starEach es X.env)).any (·.1) = false) : JE X (.Call (.Name x p) (e :: es) [] pos) ρ k := by
  intro F H σ fp Q s q
  refine ofE (pe_callTy hc hg hm hv meA hn hdb he hpl) ?_
  refine h F H σ fp _ s fun F1 H1 fp1 ρ1 vs rs f1 s1 o1 k1 => ?_
  exact k1 F1 H1 σ fp1 vs Q s1 o1 fun F2 H2 fp2 v r fn f2 s2 o2 k2 => q F2 H2 fp2 ρ1 v r fn (f1.trans f2) s2 o2 k2
end
section
variable {K : PySem.W.Frag} {ρ : En} {kk : Res → Prop} {r : Res} {d d1 : PyData} {i j : Int} {ds es : List PyData}
theorem args1 {F : Hp} {σ : L2.St} {vs : List V} (h : ArgsOk K F σ vs [r]) : ∃ v, vs = [v] ∧ ROk K F σ v r := by
  cases h with
  | dat h t => cases t; exact ⟨_, rfl, h⟩
  | cel h t => cases t; exact ⟨_, rfl, h⟩
def rLenS (K : PySem.W.Frag) : List V → Hp → VK → Prop := fun xs H Q => ∃ p ys, xs = [.ref p] ∧ (SqL K H p ys ∨ SqT K H p ys) ∧ Q (.int ys.length) H
theorem ca_len (e : seqR ρ r = some ds) (k0 : kk (.dat (.int (ds.length : Nat)))) : Ca K (rLenS K) ρ [r] kk := by
  intro F H σ fp vs Q s a q
  obtain ⟨v, rfl, h⟩ := args1 a
  obtain ⟨p, vs, rfl, hq, ha⟩ := seq_at s h e
  refine ⟨p, vs, rfl, hq, ?_⟩
  rw [ha.length]
  exact q F H fp _ (.dat _) [] Fr.refl s ⟨.int _, rfl⟩ k0
def rListS (K : PySem.W.Frag) : List V → Hp → VK → Prop := fun xs H Q => ∃ p ys, xs = [.ref p] ∧ (SqL K H p ys ∨ SqT K H p ys) ∧ ∀ l, H l = none → Q (.ref l) (upd H l (.lst ys))
theorem ca_list (e : seqR ρ r = some ds) (k0 : ∀ p, kk (.new (.own p ds))) : Ca K (rListS K) ρ [r] kk := by
  intro F H σ fp vs Q s a q
  obtain ⟨v, rfl, h⟩ := args1 a
  obtain ⟨p, vs, rfl, hq, ha⟩ := seq_at s h e
  refine ⟨p, vs, rfl, hq, fun l hl => ?_⟩
  obtain ⟨a1, a2, a3⟩ := newOwn s hl ha
  exact q _ _ fp _ (.new (.own l ds)) [l] a1 a2 a3 (k0 l)
def rTupleS (K : PySem.W.Frag) : List V → Hp → VK → Prop := fun xs H Q => ∃ p ys, xs = [.ref p] ∧ ((SqL K H p ys ∧ ∀ l, H l = none → Q (.ref l) (upd H l (.tup ys))) ∨ (SqT K H p ys ∧ Q (.ref p) H))
/-- tuple of a list -/
theorem ca_tuple (e : seqR ρ r = some ds) (ht : ∀ xs, r ≠ .dat (.tuple xs)) (k0 : kk (.dat (.tuple ds))) : Ca K (rTupleS K) ρ [r] kk := by
  intro F H σ fp vs Q s a q
  obtain ⟨v, rfl, h⟩ := args1 a
  have hq : ∃ p vs, v = .ref p ∧ SqL K H p vs ∧ DpAll K F vs ds := by
    cases r with
    | dat d =>
      cases d with
      | tuple xs => exact absurd rfl (ht xs)
      | list xs =>
        cases (Option.some.inj e)
        obtain ⟨a, vs, e1, h1, h2⟩ := Dp.lstE h
        exact ⟨a, vs, e1, s.ex.seq h1, h2⟩
      | _ => cases e
    | new c => cases h
    | cel i =>
      have e2 : (match ρ[i]? with
        | some (some (.own _ ds)) => some ds
        | _ => none) = some ds := e
      cases q : ρ[i]? with
      | none =>
        rw [q] at e2
        cases e2
      | some o =>
        cases o with
        | none =>
          rw [q] at e2
          cases e2
        | some c =>
          cases c with
          | own p xs =>
            rw [q] at e2
            have e3 : xs = ds := Option.some.inj e2
            subst e3
            obtain ⟨w, h1, e1, _, vs, h3, h4⟩ := s.cells i _ q
            have h' : σ[i]? = some (some v) := h
            rw [h1] at h'
            cases h'
            exact ⟨p, vs, e1, SqL.of h3, h4⟩
          | _ =>
            rw [q] at e2
            cases e2
  obtain ⟨p, vs, rfl, hl, ha⟩ := hq
  refine ⟨p, vs, rfl, .inl ⟨hl, fun l hl => ?_⟩⟩
  have n := (s.fresh hl).1
  exact q _ _ fp _ (.dat (.tuple ds)) [] (Fr.laid s hl) (s.laid hl) ⟨.tup (SqT.of upd_same) (DpAll_ex (Same.new n) ha), rfl⟩ k0
def rInt : List V → Hp → VK → Prop := fun xs H Q => (∃ i, xs = [.int i] ∧ Q (.int i) H) ∨ ∃ k, xs = [.bl k] ∧ Q (.int (if k then 1 else 0)) H
theorem ca_int (k0 : kk (.dat (.int i))) : Ca K rInt ρ [.dat (.int i)] kk := by
  intro F H σ fp vs Q s a q
  obtain ⟨v, rfl, h⟩ := args1 a
  cases (Dp.intE h)
  exact .inl ⟨i, rfl, q F H fp _ (.dat _) [] Fr.refl s ⟨.int _, rfl⟩ k0⟩
def rMin2 : List V → Hp → VK → Prop := fun xs H Q => ∃ i j, xs = [.int i, .int j] ∧ Q (.int (if j < i then j else i)) H
theorem ca_min (k0 : kk (.dat (.int (if j < i then j else i)))) : Ca K rMin2 ρ [.dat (.int i), .dat (.int j)] kk := by
  intro F H σ fp vs Q s a q
  cases a with
  | dat h t =>
    obtain ⟨v, rfl, h2⟩ := args1 t
    cases h.intE
    cases (Dp.intE h2)
    exact ⟨i, j, rfl, q F H fp _ (.dat _) [] Fr.refl s ⟨.int _, rfl⟩ k0⟩
theorem ca_sorted {ns : List Int} (e : seqR ρ r = some (ns.map PyData.int)) (ht : ∀ xs, r ≠ .dat (.tuple xs)) (hl : ∀ i, r ≠ .cel i) (k0 : ∀ (ns' : List Int) (p : Addr), ns'.Perm ns → ns'.Pairwise (· ≤ ·) → kk (.new (.own p (ns'.map PyData.int)))) : Ca K (rSortedI K) ρ [r] kk := by
  intro F H σ fp vs Q s a q
  obtain ⟨v, rfl, h⟩ := args1 a
  cases r with
  | dat d =>
    cases d with
    | tuple xs => exact absurd rfl (ht xs)
    | list xs =>
      cases (Option.some.inj e)
      obtain ⟨a', vs, e1, h1, h2⟩ := Dp.lstE h
      subst e1
      refine ⟨a', ns, rfl, by rw [← DpAll.ofInts h2]; exact s.ex.seq h1, fun ns' p hp hle hn => ?_⟩
      obtain ⟨a1, a2, a3⟩ := newOwn s hn (DpAll.ints ns')
      exact q _ _ fp _ (.new (.own p _)) [p] a1 a2 a3 (k0 ns' p hp hle)
    | _ => cases e
  | new c => cases h
  | cel i => exact absurd rfl (hl i)
/-- the type's name of data -/
def tyD : PyData → String
  | .none => "NoneType"
  | .bool _ => "bool"
  | .int _ => "int"
  | .str _ => "str"
  | .list _ => "list"
  | .tuple _ => "tuple"
  | .dict _ => "dict"
theorem tyD_ok {F H : Hp} {v : V} {d : PyData} (e : Same F H) (h : Dp K F v d) : TyX K H v (.type (tyD d)) := by
  cases h with
  | non => exact .base .non
  | bl b => exact .base (.bl b)
  | int i => exact .base (.int i)
  | str x => exact .base (.str x)
  | lst h1 h2 =>
    rcases h1 with (h1 | ⟨o, h1⟩) | ⟨o, its, n, h1, h2, _⟩
    · exact .base (.lst (e _ _ h1))
    · exact .base (.frz (e _ _ h1))
    · exact .kList h1 h2
  | tup h1 h2 =>
    rcases h1 with (h1 | ⟨o, h1⟩) | ⟨o, its, n, h1, h2, _⟩
    · exact .base (.tup (e _ _ h1))
    · exact .fTuple (e _ _ h1)
    · exact .kTuple h1 h2
end
section
variable {X : Cx} {e a b c : Expr} {es rest : List Expr} {ρ : En} {k : En → Res → Prop} {pos : Pos}
theorem je_isi {T : String} {x : Str} {p p2 : Pos} (hm : X.mg "isinstance" = none) (hm2 : X.mg x = none) (h : JE X e ρ (asD fun ρ1 d => ∃ r, kitB (tyD d) T = some r ∧ k ρ1 (.dat (.bool r))))
    (hv2 : bootBuiltins x = some (.type T)) (hg : Gl X "isinstance") (hg2 : Gl X x) (hn : x ≠ "__name__") (hd : (x == ("__debug__" : Str)) = false)
    (he : starEach (e :: [.Name x p2]) X.env = (false, eval e X.env) :: starEach [.Name x p2] X.env) (he2 : starEach [.Name x p2] X.env = (false, eval (.Name x p2) X.env) :: starEach [] X.env) (hpl : (backTo pos (starEach [.Name x p2] X.env)).any (·.1) = false) :
    JE X (.Call (.Name "isinstance" p) [e, .Name x p2] [] pos) ρ k := by
  intro F H σ fp Q s q
  refine ofE (pe_callB call_isi hg hm PyProof.Rows.boot_isinstance (pa_cons meE (pa_cons (pe_bltn (v := .ty T) hg2 hm2 hv2 rfl hn hd) pa_nil he2) he) (by decide) (by decide) he hpl) ?_
  refine h.dat s fun F1 H1 fp1 ρ1 v1 d1 f1 s1 o1 k1 => ?_
  obtain ⟨r, hr, k2⟩ := k1
  exact ⟨v1, .ty T, .type (tyD d1), .type T, r, rfl, .ty T, tyD_ok s1.ex o1, kit_ty hr, q F1 H1 fp1 ρ1 _ (.dat _) [] f1 s1 ⟨.bl r, rfl⟩ k2⟩
/-- list(range(n)) -/
theorem je_listRg {p p2 pos2 : Pos} (hc : X.calm = true) (hm : X.mg "list" = none) (hm2 : X.mg "range" = none) (h : JE X e ρ (asD fun ρ1 d => ∃ n : Nat, d = .int n ∧ n ≤ 100000 ∧ ∀ q, k ρ1 (.new (.own q ((List.range n).map fun (i : Nat) => PyData.int (i : Int))))))
    (hg : Gl X "list") (hg2 : Gl X "range") (he : starEach [e] X.env = (false, eval e X.env) :: starEach [] X.env)
    (he2 : starEach [.Call (.Name "range" p2) [e] [] pos2] X.env = (false, eval (.Call (.Name "range" p2) [e] [] pos2) X.env) :: starEach [] X.env) :
    JE X (.Call (.Name "list" p) [.Call (.Name "range" p2) [e] [] pos2] [] pos) ρ k := by
  intro F H σ fp Q s q
  refine ofE (pe_listRg hc hg hm (prg_1 hg2 hm2 meE he) he2) ?_
  refine h.dat s fun F1 H1 fp1 ρ1 v1 d1 f1 s1 o1 k1 => ?_
  obtain ⟨n, rfl, hn, k2⟩ := k1
  refine ⟨n, o1.intE, RgOk.of_le (by omega) (by omega) (by omega) (by omega), fun l hl => ?_⟩
  have e : rgV 0 (n : Int) = ((List.range n).map fun i : Nat => (i : Int)).map V.int := by
    unfold rgV
    rw [List.map_map, show ((n : Int) - 0).toNat = n by omega]
    refine List.map_congr_left fun i _ => ?_
    show V.int (0 + (i : Int)) = V.int (i : Int)
    rw [Int.zero_add]
  have e2 : ((List.range n).map fun (i : Nat) => PyData.int (i : Int)) = ((List.range n).map fun i : Nat => (i : Int)).map PyData.int := by
    rw [List.map_map]
    rfl
  rw [e]
  have k3 := k2 l
  rw [e2] at k3
  obtain ⟨a1, a2, a3⟩ := newOwn s1 hl (DpAll.ints (K := X.K) (H := F1) ((List.range n).map fun i : Nat => (i : Int)))
  exact q _ _ fp1 ρ1 _ (.new (.own l _)) [l] (f1.trans a1) a2 a3 k3

/-! ## tests, conditions -/
theorem jt_val {k : En → Bool → Prop} (h : JE X e ρ (asD fun ρ1 d => ∃ b, d = .bool b ∧ k ρ1 b)) (he : ∀ whole, isTrue e X.env whole = (do let v ← whole; standAt e.pos; holding [v] (truthy v))) : JT X e ρ k := by
  intro F H σ fp Q s q
  refine ofT (pt_val meE he) ?_
  refine h.dat s fun F1 H1 fp1 ρ1 v1 d1 f1 s1 o1 k1 => ?_
  obtain ⟨b, rfl, k2⟩ := k1
  exact ⟨b, o1.blE, q F1 H1 fp1 ρ1 b f1 s1 k2⟩
theorem jt_not {k : En → Bool → Prop} (h : JT X a ρ fun ρ1 b => k ρ1 (!b)) : JT X (.UnaryOp .Not a pos) ρ k := by
  intro F H σ fp Q s q
  refine ofT (pt_not meT) ?_
  exact h F H σ fp _ s fun F1 H1 fp1 ρ1 b f1 s1 k1 => q F1 H1 fp1 ρ1 (!b) f1 s1 k1
theorem jt_bo {op : BoolOp} {k : En → Bool → Prop} (h : JW X (.BoolOp op es pos) ρ k) : JT X (.BoolOp op es pos) ρ k := by
  intro F H σ fp Q s q
  exact ofT (meW).pt (h F H σ fp Q s q)
theorem jw_and1 {k : En → Bool → Prop} (h : JT X a ρ k) : JW X (.BoolOp .And [a] pos) ρ k := fun F H σ fp Q s q => ofW (pw_and1 meT) (h F H σ fp Q s q)
theorem jw_or1 {k : En → Bool → Prop} (h : JT X a ρ k) : JW X (.BoolOp .Or [a] pos) ρ k := fun F H σ fp Q s q => ofW (pw_or1 meT) (h F H σ fp Q s q)
theorem jw_and {k : En → Bool → Prop} (h : JT X a ρ fun ρ1 c => (c = true → JW X (.BoolOp .And (b :: rest) pos) ρ1 k) ∧ (c = false → k ρ1 false)) : JW X (.BoolOp .And (a :: b :: rest) pos) ρ k := by
  intro F H σ fp Q s q
  refine ofW (pw_and meT meW) ?_
  refine h F H σ fp _ s fun F1 H1 fp1 ρ1 c f1 s1 k1 => ?_
  cases c with
  | true =>
    refine iteT ?_
    exact k1.1 rfl F1 H1 σ fp1 Q s1 fun F2 H2 fp2 ρ2 c2 f2 s2 k2 => q F2 H2 fp2 ρ2 c2 (f1.trans f2) s2 k2
  | false =>
    refine iteF ?_
    exact q F1 H1 fp1 ρ1 false f1 s1 (k1.2 rfl)
theorem jw_or {k : En → Bool → Prop} (h : JT X a ρ fun ρ1 c => (c = true → k ρ1 true) ∧ (c = false → JW X (.BoolOp .Or (b :: rest) pos) ρ1 k)) : JW X (.BoolOp .Or (a :: b :: rest) pos) ρ k := by
  intro F H σ fp Q s q
  refine ofW (pw_or meT meW) ?_
  refine h F H σ fp _ s fun F1 H1 fp1 ρ1 c f1 s1 k1 => ?_
  cases c with
  | true =>
    refine iteT ?_
    exact q F1 H1 fp1 ρ1 true f1 s1 (k1.1 rfl)
  | false =>
    refine iteF ?_
    exact k1.2 rfl F1 H1 σ fp1 Q s1 fun F2 H2 fp2 ρ2 c2 f2 s2 k2 => q F2 H2 fp2 ρ2 c2 (f1.trans f2) s2 k2
/-- and, or, not as values, all but the last True or False -/
theorem je_one {op : BoolOp} (h : JE X a ρ k) : JE X (.BoolOp op [a] pos) ρ k := fun F H σ fp Q s q => ofE (pe_one meE) (h F H σ fp Q s q)
theorem je_and (h : JE X a ρ (asD fun ρ1 d => ∃ c, d = .bool c ∧ (c = true → JE X (.BoolOp .And (b :: rest) pos) ρ1 k) ∧ (c = false → k ρ1 (.dat (.bool false))))) : JE X (.BoolOp .And (a :: b :: rest) pos) ρ k := by
  intro F H σ fp Q s q
  refine ofE (pe_and meE meE) ?_
  refine h.dat s fun F1 H1 fp1 ρ1 v1 d1 f1 s1 o1 k1 => ?_
  obtain ⟨c, rfl, k2, k3⟩ := k1
  refine ⟨c, o1.blE, ?_⟩
  cases c with
  | true =>
    refine iteT ?_
    exact k2 rfl F1 H1 σ fp1 Q s1 fun F2 H2 fp2 ρ2 v r fn f2 s2 r2 k2 => q F2 H2 fp2 ρ2 v r fn (f1.trans f2) s2 r2 k2
  | false =>
    refine iteF ?_
    exact q F1 H1 fp1 ρ1 _ (.dat _) [] f1 s1 ⟨.bl _, rfl⟩ (k3 rfl)
theorem je_or (h : JE X a ρ (asD fun ρ1 d => ∃ c, d = .bool c ∧ (c = true → k ρ1 (.dat (.bool true))) ∧ (c = false → JE X (.BoolOp .Or (b :: rest) pos) ρ1 k))) : JE X (.BoolOp .Or (a :: b :: rest) pos) ρ k := by
  intro F H σ fp Q s q
  refine ofE (pe_or meE meE) ?_
  refine h.dat s fun F1 H1 fp1 ρ1 v1 d1 f1 s1 o1 k1 => ?_
  obtain ⟨c, rfl, k2, k3⟩ := k1
  refine ⟨c, o1.blE, ?_⟩
  cases c with
  | true =>
    refine iteT ?_
    exact q F1 H1 fp1 ρ1 _ (.dat _) [] f1 s1 ⟨.bl _, rfl⟩ (k2 rfl)
  | false =>
    refine iteF ?_
    exact k3 rfl F1 H1 σ fp1 Q s1 fun F2 H2 fp2 ρ2 v r fn f2 s2 r2 k2 => q F2 H2 fp2 ρ2 v r fn (f1.trans f2) s2 r2 k2
theorem je_not (h : JE X a ρ (asD fun ρ1 d => ∃ c, d = .bool c ∧ k ρ1 (.dat (.bool (!c))))) : JE X (.UnaryOp .Not a pos) ρ k := by
  intro F H σ fp Q s q
  refine ofE (pe_not meE) ?_
  refine h.dat s fun F1 H1 fp1 ρ1 v1 d1 f1 s1 o1 k1 => ?_
  obtain ⟨c, rfl, k2⟩ := k1
  exact ⟨c, o1.blE, q F1 H1 fp1 ρ1 _ (.dat _) [] f1 s1 ⟨.bl _, rfl⟩ k2⟩
theorem je_neg (h : JE X a ρ (asD fun ρ1 d => ∃ i, d = .int i ∧ k ρ1 (.dat (.int (-i))))) : JE X (.UnaryOp .USub a pos) ρ k := by
  intro F H σ fp Q s q
  refine ofE (pe_un un_neg meE) ?_
  refine h.dat s fun F1 H1 fp1 ρ1 v1 d1 f1 s1 o1 k1 => ?_
  obtain ⟨c, rfl, k2⟩ := k1
  exact ⟨c, o1.intE, q F1 H1 fp1 ρ1 _ (.dat _) [] f1 s1 ⟨.int _, rfl⟩ k2⟩
theorem je_if (h : JT X c ρ fun ρ1 t => (t = true → JE X a ρ1 k) ∧ (t = false → JE X b ρ1 k)) : JE X (.IfExp c a b pos) ρ k := by
  intro F H σ fp Q s q
  refine ofE (pe_ifExp meT meE meE) ?_
  refine h F H σ fp _ s fun F1 H1 fp1 ρ1 t f1 s1 k1 => ?_
  cases t with
  | true =>
    refine iteT ?_
    exact k1.1 rfl F1 H1 σ fp1 Q s1 fun F2 H2 fp2 ρ2 v r fn f2 s2 r2 k2 => q F2 H2 fp2 ρ2 v r fn (f1.trans f2) s2 r2 k2
  | false =>
    refine iteF ?_
    exact k1.2 rfl F1 H1 σ fp1 Q s1 fun F2 H2 fp2 ρ2 v r fn f2 s2 r2 k2 => q F2 H2 fp2 ρ2 v r fn (f1.trans f2) s2 r2 k2
/-- a op b op c -/
theorem je_chain {op op' : CmpOp} {g g' : Int → Int → Bool} (ho : OpR X (compareOp op) (rI0 fun i j => .bl (g i j))) (ho' : OpR X (compareOp op') (rI0 fun i j => .bl (g' i j)))
    (h : JE X a ρ (asD fun ρ1 d1 => JE X b ρ1 (asD fun ρ2 d2 => ∃ i j, d1 = .int i ∧ d2 = .int j ∧ (g i j = true → JE X c ρ2 (asD fun ρ3 d3 => ∃ l, d3 = .int l ∧ k ρ3 (.dat (.bool (g' j l))))) ∧ (g i j = false → k ρ2 (.dat (.bool false)))))) (hlm : lastMarks [op, op'] [b, c] = false) :
    JE X (.Compare a [op, op'] [b, c] pos) ρ k := by
  intro F H σ fp Q s q
  refine ofE (pe_chain ho ho' meE meE meE hlm) ?_
  refine h.dat s fun F1 H1 fp1 ρ1 v1 d1 f1 s1 o1 k1 => ?_
  refine JE.dat k1 s1 fun F2 H2 fp2 ρ2 v2 d2 f2 s2 o2 k2 => ?_
  obtain ⟨i, j, rfl, rfl, k3, k4⟩ := k2
  refine ⟨i, j, o1.intE, o2.intE, _, rfl, ?_⟩
  cases hg : g i j with
  | true =>
    refine iteT ?_
    refine JE.dat (k3 hg) s2 fun F3 H3 fp3 ρ3 v3 d3 f3 s3 o3 k5 => ?_
    obtain ⟨l, rfl, k6⟩ := k5
    exact ⟨j, l, o2.intE, o3.intE, q F3 H3 fp3 ρ3 _ (.dat _) [] ((f1.trans f2).trans f3) s3 ⟨.bl _, rfl⟩ k6⟩
  | false =>
    refine iteF ?_
    exact q F2 H2 fp2 ρ2 _ (.dat _) [] (f1.trans f2) s2 ⟨.bl _, rfl⟩ (k4 hg)
end
end TW

namespace TW
open PySem PySem.Spec PyProof.Rows L2

/-! ## slots take results -/
def upF (fp : Nat → List Addr) (i : Nat) (l : List Addr) : Nat → List Addr := fun j => if j = i then l else fp j
theorem upF_same {fp : Nat → List Addr} {i : Nat} {l : List Addr} : upF fp i l i = l := if_pos rfl
theorem upF_ne {fp : Nat → List Addr} {i j : Nat} {l : List Addr} (h : j ≠ i) : upF fp i l j = fp j := if_neg h
def cellOf : Res → Option Cell
  | .dat d => some (.dat d)
  | .new c => some c
  | .cel _ => none
section
variable {K : PySem.W.Frag} {F H : Hp} {σ : L2.St} {ρ : En} {fp : Nat → List Addr}
theorem ResOk.cell {v : V} {r : Res} {fn : List Addr} {c : Cell} (h : ResOk K F H σ fp v r fn) (e : cellOf r = some c) : CellOk K F H v c fn ∧ ∀ a ∈ fn, F a = none ∧ H a ≠ none ∧ ∀ i, a ∉ fp i := by
  cases r with
  | dat d =>
    cases e
    obtain ⟨h1, h2⟩ := h
    subst h2
    exact ⟨⟨h1, rfl⟩, by simp⟩
  | new c' =>
    cases e
    exact h
  | cel i => cases e
theorem St.setRes (s : St K F H σ ρ fp) {i : Nat} (hi : i < ρ.length) {v : V} {c : Cell} {fn : List Addr} (hc0 : CellOk K F H v c fn) (hq : ∀ a ∈ fn, F a = none ∧ H a ≠ none ∧ ∀ i, a ∉ fp i) :
    St K F H (σ.set i (some v)) (ρ.set i (some c)) (upF fp i fn) := by
  refine ⟨s.ex, by simpa using s.len, fun j c' hc => ?_, fun j a ha => ?_, fun j k a h1 h2 => ?_⟩
  · by_cases n : j = i
    · subst n
      rw [List.getElem?_set_self hi] at hc
      cases hc
      refine ⟨v, List.getElem?_set_self (by rw [s.len]; exact hi), ?_⟩
      rw [upF_same]
      exact hc0
    · rw [List.getElem?_set_ne (Ne.symm n)] at hc
      obtain ⟨u, e1, e2⟩ := s.cells j c' hc
      refine ⟨u, by rw [List.getElem?_set_ne (Ne.symm n)]; exact e1, ?_⟩
      rw [upF_ne n]
      exact e2
  · by_cases n : j = i
    · subst n
      rw [upF_same] at ha
      exact ⟨(hq a ha).1, (hq a ha).2.1⟩
    · rw [upF_ne n] at ha
      exact s.out j a ha
  · by_cases n : j = i
    · subst n
      rw [upF_same] at h1
      by_cases m : k = j
      · exact m.symm
      · rw [upF_ne m] at h2
        exact absurd h2 ((hq a h1).2.2 k)
    · rw [upF_ne n] at h1
      by_cases m : k = i
      · subst m
        rw [upF_same] at h2
        exact absurd h1 ((hq a h2).2.2 j)
      · rw [upF_ne m] at h2
        exact s.sep j k a h1 h2
theorem Fr.setRes {F0 H0 : Hp} {fp0 : Nat → List Addr} {i : Nat} {fn fn2 : List Addr} (f : Fr F0 H0 fp0 F H fp (fn ++ fn2)) : Fr F0 H0 fp0 F H (upF fp i fn) fn2 := by
  refine ⟨f.ex, fun a h1 h2 h3 => ?_, f.dom⟩
  obtain ⟨k1, k2, k3, k4⟩ := f.old a h1 h2 h3
  rw [List.mem_append] at k4
  refine ⟨k1, k2, fun j => ?_, fun z => k4 (.inr z)⟩
  by_cases n : j = i
  · subst n
    rw [upF_same]
    exact fun z => k4 (.inl z)
  · rw [upF_ne n]
    exact k3 j
/-- results side by side, none of them a slot's cell -/
inductive ResOks (K : PySem.W.Frag) (F H : Hp) (fp : Nat → List Addr) : List V → List Cell → List Addr → Prop where
  | nil : ResOks K F H fp [] [] []
  | cons {v : V} {vs : List V} {c : Cell} {cs : List Cell} {fn fm : List Addr} (h : CellOk K F H v c fn) (hq : ∀ a ∈ fn, F a = none ∧ H a ≠ none ∧ ∀ i, a ∉ fp i) (t : ResOks K F H fp vs cs fm) (hd : ∀ a ∈ fn, a ∉ fm) :
      ResOks K F H fp (v :: vs) (c :: cs) (fn ++ fm)
theorem ResOks.out : ∀ {vs : List V} {cs : List Cell} {fm : List Addr}, ResOks K F H fp vs cs fm → ∀ a ∈ fm, F a = none ∧ H a ≠ none ∧ ∀ i, a ∉ fp i
  | _, _, _, .nil, a, h => by simp at h
  | _, _, _, .cons h hq t hd, a, ha => by
    rcases List.mem_append.mp ha with ha | ha
    · exact hq a ha
    · exact ResOks.out t a ha
theorem ResOks.mono {F' H' : Hp} {fp' : Nat → List Addr} (e : Same F F') : ∀ {vs : List V} {cs : List Cell} {fm : List Addr}, (∀ a ∈ fm, H' a = H a ∧ F' a = none ∧ ∀ i, a ∉ fp' i) → ResOks K F H fp vs cs fm → ResOks K F' H' fp' vs cs fm
  | _, _, _, _, .nil => .nil
  | _, _, _, k, .cons h hq t hd => by
    refine .cons (h.fr e fun a ha => (k a (List.mem_append_left _ ha)).1) (fun a ha => ?_) (ResOks.mono e (fun a ha => k a (List.mem_append_right _ ha)) t) hd
    obtain ⟨k1, k2, k3⟩ := k a (List.mem_append_left _ ha)
    exact ⟨k2, by rw [k1]; exact (hq a ha).2.1, k3⟩
theorem ResOks.len : ∀ {vs : List V} {cs : List Cell} {fm : List Addr}, ResOks K F H fp vs cs fm → vs.length = cs.length
  | _, _, _, .nil => rfl
  | _, _, _, .cons _ _ t _ => by rw [List.length_cons, List.length_cons, ResOks.len t]
def setAll {α : Type} : List (Option α) → List Nat → List α → List (Option α)
  | ρ, i :: is, c :: cs => setAll (ρ.set i (some c)) is cs
  | ρ, _, _ => ρ
theorem setAll_len {α : Type} : ∀ (is : List Nat) (cs : List α) (ρ : List (Option α)), (setAll ρ is cs).length = ρ.length
  | [], _, _ => rfl
  | _ :: _, [], _ => rfl
  | i :: is, c :: cs, ρ => by
    show (setAll (ρ.set i (some c)) is cs).length = _
    rw [setAll_len is cs, List.length_set]
theorem St.setAll {F0 H0 : Hp} {fp0 : Nat → List Addr} : ∀ {vs : List V} {cs : List Cell} {fm : List Addr} {is : List Nat} {σ : L2.St} {ρ : En} {fp : Nat → List Addr}, St K F H σ ρ fp → Fr F0 H0 fp0 F H fp fm → ResOks K F H fp vs cs fm → is.length = cs.length → (∀ i ∈ is, i < ρ.length) →
    ∃ fp', St K F H (TW.setAll σ is vs) (TW.setAll ρ is cs) fp' ∧ Fr F0 H0 fp0 F H fp' [] := by
  intro vs
  induction vs with
  | nil =>
    intro cs fm is σ ρ fp s f o hl _
    cases o
    cases is with
    | nil => exact ⟨_, s, f⟩
    | cons i is => cases hl
  | cons v vs ih =>
    intro cs fm is σ ρ fp s f o hl hi
    cases o with
    | @cons _ _ c cs fn fm h hq t hd =>
      cases is with
      | nil => cases hl
      | cons i is =>
        have s1 := s.setRes (hi i List.mem_cons_self) h hq
        have f1 : Fr F0 H0 fp0 F H (upF fp i fn) fm := Fr.setRes f
        have t1 : ResOks K F H (upF fp i fn) vs cs fm := t.mono (Same.refl _) fun a ha => by
          obtain ⟨k1, k2, k3⟩ := t.out a ha
          refine ⟨rfl, k1, fun j => ?_⟩
          by_cases n : j = i
          · subst n
            rw [upF_same]
            exact fun z => hd a z ha
          · rw [upF_ne n]
            exact k3 j
        exact ih s1 f1 t1 (by simpa using hl) fun j hj => by rw [List.length_set]; exact hi j (List.mem_cons_of_mem _ hj)
end
section
variable {X : Cx} {e a b c : Expr} {es : List Expr} {st : Stmt} {sts : List Stmt} {ρ : En} {E : Po} {pos : Pos}
/-- a result that is no slot's cell -/
abbrev asN (k : En → Cell → Prop) : En → Res → Prop := fun ρ r => match r with
  | .dat d => k ρ (.dat d)
  | .new c => k ρ c
  | .cel _ => False
theorem JE.cell {k : En → Cell → Prop} (h : JE X e ρ (asN k)) {F H : Hp} {σ : L2.St} {fp : Nat → List Addr} {Q : VK} (s : St X.K F H σ ρ fp)
    (q : ∀ F' H' fp' ρ' v c fn, Fr F H fp F' H' fp' fn → St X.K F' H' σ ρ' fp' → CellOk X.K F' H' v c fn → (∀ a ∈ fn, F' a = none ∧ H' a ≠ none ∧ ∀ i, a ∉ fp' i) → k ρ' c → Q v H') : tE X e σ H Q := by
  refine h F H σ fp Q s fun F' H' fp' ρ' v r fn f s' ro kr => ?_
  cases r with
  | dat d =>
    obtain ⟨h1, h2⟩ := ResOk.cell (c := .dat d) ro rfl
    exact q F' H' fp' ρ' v _ fn f s' h1 h2 kr
  | new c =>
    obtain ⟨h1, h2⟩ := ResOk.cell (c := c) ro rfl
    exact q F' H' fp' ρ' v _ fn f s' h1 h2 kr
  | cel i => exact False.elim kr
/-- several results side by side -/
def JN (X : Cx) (es : List Expr) (ρ : En) (k : En → List Cell → Prop) : Prop :=
  ∀ F H σ fp (Q : List V → Hp → Prop), St X.K F H σ ρ fp → (∀ F' H' fp' ρ' vs cs fm, Fr F H fp F' H' fp' fm → St X.K F' H' σ ρ' fp' → ResOks X.K F' H' fp' vs cs fm → k ρ' cs → Q vs H') → tA X es σ H Q
theorem jn_nil {k : En → List Cell → Prop} (k0 : k ρ []) : JN X [] ρ k := fun F H σ fp Q s q => ofA pa_nil (q F H fp ρ [] [] [] Fr.refl s .nil k0)
theorem jn_cons {k : En → List Cell → Prop} (h : JE X e ρ (asN fun ρ1 c => JN X es ρ1 fun ρ2 cs => k ρ2 (c :: cs))) (hs : starEach (e :: es) X.env = (false, eval e X.env) :: starEach es X.env) : JN X (e :: es) ρ k := by
  intro F H σ fp Q s q
  refine ofA (pa_cons meE meA hs) ?_
  refine h.cell s fun F1 H1 fp1 ρ1 v1 c1 fn f1 s1 o1 o1q k1 => ?_
  refine k1 F1 H1 σ fp1 _ s1 fun F2 H2 fp2 ρ2 vs cs fm f2 s2 o2 k2 => ?_
  have old : ∀ a ∈ fn, F2 a = none ∧ H2 a = H1 a ∧ (∀ i, a ∉ fp2 i) ∧ a ∉ fm := fun a ha => f2.old a (o1q a ha).1 (o1q a ha).2.1 (o1q a ha).2.2
  refine q F2 H2 fp2 ρ2 (v1 :: vs) (c1 :: cs) (fn ++ fm) ⟨f1.ex.trans f2.ex, fun a h1 h2 h3 => ?_, fun a h => f2.dom a (f1.dom a h)⟩ s2 (.cons (o1.fr f2.ex fun a ha => (old a ha).2.1) (fun a ha => ?_) o2 fun a ha => (old a ha).2.2.2) k2
  · obtain ⟨p1, p2, p3, p4⟩ := f1.old a h1 h2 h3
    obtain ⟨q1, q2, q3, q4⟩ := f2.old a p1 (by rw [p2]; exact h2) p3
    exact ⟨q1, q2.trans p2, q3, fun z => (List.mem_append.mp z).elim p4 q4⟩
  · obtain ⟨g1, g2, g3, _⟩ := old a ha
    exact ⟨g1, by rw [g2]; exact (o1q a ha).2.1, g3⟩

/-! ## statements -/
theorem js_nil (k0 : E.nx ρ) : JSs X [] ρ E := fun F H σ fp D s o => ofSs pss_nil (o.nx F H σ fp ρ Fr.refl s k0)
theorem js_cons (h : JS X st ρ { E with nx := fun ρ1 => JSs X sts ρ1 E }) : JSs X (st :: sts) ρ E := by
  intro F H σ fp D s o
  refine ofSs (pss_cons meS meSs) ?_
  refine h F H σ fp { D with nx := tSs X sts D } s (o.next fun F1 H1 σ1 fp1 ρ1 f1 s1 k1 => ?_)
  exact k1 F1 H1 σ1 fp1 D s1 (o.after f1)
theorem js_one (h : JS X st ρ E) : JSs X [st] ρ E := fun F H σ fp D s o => ofSs (pss_one meS) (h F H σ fp D s o)
theorem js_never (h : False) : JS X st ρ E := h.elim
theorem jss_never (h : False) : JSs X sts ρ E := h.elim
theorem js_pass (k0 : E.nx ρ) : JS X (.Pass pos) ρ E := fun F H σ fp D s o => ofS ps_pass (o.nx F H σ fp ρ Fr.refl s k0)
theorem js_break (k0 : E.bk ρ) : JS X (.Break pos) ρ E := fun F H σ fp D s o => ofS ps_break (o.bk F H σ fp ρ Fr.refl s k0)
theorem js_if {p q : List Stmt} (h : JT X c ρ fun ρ1 t => (t = true → JSs X p ρ1 E) ∧ (t = false → JSs X q ρ1 E)) : JS X (.If c p q pos) ρ E := by
  intro F H σ fp D s o
  refine ofS (ps_if meT meSs meSs) ?_
  refine h F H σ fp _ s fun F1 H1 fp1 ρ1 t f1 s1 k1 => ?_
  cases t with
  | true =>
    refine iteT ?_
    exact k1.1 rfl F1 H1 σ fp1 D s1 (o.after f1)
  | false =>
    refine iteF ?_
    exact k1.2 rfl F1 H1 σ fp1 D s1 (o.after f1)
theorem js_ret (h : JE X e ρ E.rt) : JS X (.Return (some e) pos) ρ E := by
  intro F H σ fp D s o
  refine ofS (ps_ret meE) ?_
  exact h F H σ fp _ s fun F1 H1 fp1 ρ1 v r fn f1 s1 r1 k1 => o.rt F1 H1 σ fp1 ρ1 v r fn f1 s1 r1 k1
theorem js_retN (k0 : E.rt ρ (.dat .none)) : JS X (.Return none pos) ρ E := by
  intro F H σ fp D s o
  exact ofS ps_retN (o.rt F H σ fp ρ .non (.dat .none) [] Fr.refl s ⟨.non, rfl⟩ k0)
theorem js_expr (h : JE X e ρ fun ρ1 _ => E.nx ρ1) (hs : swapsWith e none pos.line X.env = pure false) : JS X (.Expr e pos) ρ E := by
  intro F H σ fp D s o
  refine ofS (ps_expr meE hs) ?_
  refine h F H σ fp _ s fun F1 H1 fp1 ρ1 v r fn f1 s1 r1 k1 => ?_
  exact o.nx F1 H1 σ fp1 ρ1 ⟨f1.ex, fun a h1 h2 h3 => let ⟨p1, p2, p3, _⟩ := f1.old a h1 h2 h3; ⟨p1, p2, p3, by simp⟩, f1.dom⟩ s1 k1
/-- x = e -/
theorem js_set (i : Nat) {x : Str} {pos' : Pos} (h : JE X e ρ (asN fun ρ1 c => i < ρ1.length ∧ E.nx (ρ1.set i (some c)))) (hN : X.N.Nodup) (hi : X.N[i]? = some x) (hx : Loc X.env.scope x) (hs : swapsWith e (some (.Name x pos')) pos.line X.env = pure false)
    (hf : X.fn x = true ∨ X.env.scope.names.lookup x = some .local) : JS X (.Assign [.Name x pos'] e pos) ρ E := by
  intro F H σ fp D s o
  refine ofS (ps_set hN hi hx meE hs hf) ?_
  refine h.cell s fun F1 H1 fp1 ρ1 v c fn f1 s1 o1 o1q k1 => ?_
  exact o.nx F1 H1 _ (upF fp1 i fn) _ (Fr.setRes (fn2 := []) (by rw [List.append_nil]; exact f1)) (s1.setRes k1.1 o1 o1q) k1.2
/-- a, b = e1, e2: two plain locals -/
theorem js_par2 (i j : Nat) {x y : Str} {px py pt : Pos} {kt k2 : Nat} {pt2 : Pos} (hij : i ≠ j) (h : JN X [a, b] ρ fun ρ1 cs => ∃ c1 c2, cs = [c1, c2] ∧ i < ρ1.length ∧ j < ρ1.length ∧ E.nx ((ρ1.set i (some c1)).set j (some c2)))
    (hc : X.calm = true) (hN : X.N.Nodup) (hi : X.N[i]? = some x) (hj : X.N[j]? = some y) (hx : X.env.scope.names.lookup x = some .local) (hy : X.env.scope.names.lookup y = some .local)
    (hw : swappedStores [.Tuple [.Name x px, .Name y py] kt pt] (.Tuple [a, b] k2 pt2) X.env = pure (some [x, y])) (hs : swapsWithSole [.Tuple [.Name x px, .Name y py] kt pt] (.Tuple [a, b] k2 pt2) pos.line X.env = pure false) :
    JS X (.Assign [.Tuple [.Name x px, .Name y py] kt pt] (.Tuple [a, b] k2 pt2) pos) ρ E := by
  intro F H σ fp D s o
  refine ofS (ps_par hc hN hi hj hij hx hy meA hw hs) ?_
  refine h F H σ fp _ s fun F1 H1 fp1 ρ1 vs cs fm f1 s1 o1 k1 => ?_
  obtain ⟨c1, c2, rfl, l1, l2, k2⟩ := k1
  obtain ⟨v, w, rfl⟩ : ∃ v w, vs = [v, w] := by
    cases o1 with
    | cons _ _ t _ =>
      cases t with
      | cons _ _ t _ =>
        cases t
        exact ⟨_, _, rfl⟩
  obtain ⟨fp2, s2, f2⟩ := St.setAll (is := [i, j]) s1 f1 o1 rfl (by simp [l1, l2])
  exact ⟨v, w, rfl, o.nx F1 H1 _ fp2 _ f2 s2 k2⟩
theorem js_par3 (i j l : Nat) {x y z : Str} {px py pz pt : Pos} {kt k2 : Nat} {pt2 : Pos} (hij : i ≠ j) (hil : i ≠ l) (hjl : j ≠ l) (h : JN X [a, b, c] ρ fun ρ1 cs => ∃ c1 c2 c3, cs = [c1, c2, c3] ∧ i < ρ1.length ∧ j < ρ1.length ∧ l < ρ1.length ∧ E.nx (((ρ1.set i (some c1)).set j (some c2)).set l (some c3)))
    (hc : X.calm = true) (hN : X.N.Nodup) (hi : X.N[i]? = some x) (hj : X.N[j]? = some y) (hl : X.N[l]? = some z) (hx : X.env.scope.names.lookup x = some .local) (hy : X.env.scope.names.lookup y = some .local) (hz : X.env.scope.names.lookup z = some .local)
    (hw : swappedStores [.Tuple [.Name x px, .Name y py, .Name z pz] kt pt] (.Tuple [a, b, c] k2 pt2) X.env = pure (some [x, y, z])) (hs : swapsWithSole [.Tuple [.Name x px, .Name y py, .Name z pz] kt pt] (.Tuple [a, b, c] k2 pt2) pos.line X.env = pure false) :
    JS X (.Assign [.Tuple [.Name x px, .Name y py, .Name z pz] kt pt] (.Tuple [a, b, c] k2 pt2) pos) ρ E := by
  intro F H σ fp D s o
  refine ofS (ps_par3 hc hN hi hj hl hij hil hjl hx hy hz meA hw hs) ?_
  refine h F H σ fp _ s fun F1 H1 fp1 ρ1 vs cs fm f1 s1 o1 k1 => ?_
  obtain ⟨c1, c2, c3, rfl, l1, l2, l3, k2⟩ := k1
  obtain ⟨u, v, w, rfl⟩ : ∃ u v w, vs = [u, v, w] := by
    cases o1 with
    | cons _ _ t _ =>
      cases t with
      | cons _ _ t _ =>
        cases t with
        | cons _ _ t _ =>
          cases t
          exact ⟨_, _, _, rfl⟩
  obtain ⟨fp2, s2, f2⟩ := St.setAll (is := [i, j, l]) s1 f1 o1 rfl (by simp [l1, l2, l3])
  exact ⟨u, v, w, rfl, o.nx F1 H1 _ fp2 _ f2 s2 k2⟩

/-! ## targets -/
structure tG (X : Cx) (tg : Expr) (v : V) (σ : L2.St) (H : Hp) (Q : L2.St → Hp → Prop) : Prop where
  run : ∀ pins s u, Inv X pins σ H s → RelV v u → wpAny (model X.prog X.w) X.A (assign tg X.env u) (fun _ s' => ∃ σ' H', Inv X pins σ' H' s' ∧ Q σ' H') X.xe s
theorem meG {tg : Expr} : PG X tg (tG X tg) := ⟨fun pins s _ _ _ u _ I r h => h.run pins s u I r⟩
theorem ofG {tg : Expr} {t : TG} {v : V} {σ : L2.St} {H : Hp} {Q : L2.St → Hp → Prop} (h : PG X tg t) (q : t v σ H Q) : tG X tg v σ H Q := ⟨fun pins s u I r => h.run pins s σ H v u Q I r q⟩
structure tGs (X : Cx) (tgs : List Expr) (vs : List V) (σ : L2.St) (H : Hp) (Q : L2.St → Hp → Prop) : Prop where
  run : ∀ pins s us, Inv X pins σ H s → Vals vs us → wpAny (model X.prog X.w) X.A (assignInOrder ((assignEach tgs X.env).map (·.2)) us) (fun _ s' => ∃ σ' H', Inv X pins σ' H' s' ∧ Q σ' H') X.xe s
theorem meGs {tgs : List Expr} : PGs X tgs (tGs X tgs) := ⟨fun pins s _ _ _ us _ I r h => h.run pins s us I r⟩
theorem ofGs {tgs : List Expr} {t : TGs} {vs : List V} {σ : L2.St} {H : Hp} {Q : L2.St → Hp → Prop} (h : PGs X tgs t) (q : t vs σ H Q) : tGs X tgs vs σ H Q := ⟨fun pins s us I r => h.run pins s σ H vs us Q I r q⟩
def JG (X : Cx) (tg : Expr) (ρ : En) (d : PyData) (k : En → Prop) : Prop :=
  ∀ F H σ fp v (Q : L2.St → Hp → Prop), St X.K F H σ ρ fp → Dp X.K F v d → (∀ F' H' σ' fp' ρ', Fr F H fp F' H' fp' [] → St X.K F' H' σ' ρ' fp' → k ρ' → Q σ' H') → tG X tg v σ H Q
def JGs (X : Cx) (tgs : List Expr) (ρ : En) (ds : List PyData) (k : En → Prop) : Prop :=
  ∀ F H σ fp vs (Q : L2.St → Hp → Prop), St X.K F H σ ρ fp → DpAll X.K F vs ds → (∀ F' H' σ' fp' ρ', Fr F H fp F' H' fp' [] → St X.K F' H' σ' ρ' fp' → k ρ' → Q σ' H') → tGs X tgs vs σ H Q
theorem jg_name (i : Nat) {x : Str} {d : PyData} {k : En → Prop} (k0 : k (ρ.set i (some (.dat d)))) (hl : i < ρ.length) (hN : X.N.Nodup) (hi : X.N[i]? = some x) (hx : Loc X.env.scope x) (hf : X.fn x = true ∨ X.env.scope.names.lookup x = some .local) : JG X (.Name x pos) ρ d k := by
  intro F H σ fp v Q s h q
  refine ofG (pg_name hN hi hx hf) ?_
  exact q F H _ (upF fp i []) _ (Fr.setRes (fn2 := []) Fr.refl) (s.setRes hl (c := .dat d) ⟨h, rfl⟩ (by simp)) k0
theorem jg_tup {kk : Nat} {ds : List PyData} {k : En → Prop} (h : JGs X es ρ ds k) (hc : X.calm = true) (hn : (assignEach es X.env).length = ds.length) (hst : (assignEach es X.env).findIdx? (·.1) = none) : JG X (.Tuple es kk pos) ρ (.tuple ds) k := by
  intro F H σ fp v Q s hd q
  obtain ⟨a, vs, e1, h1, h2⟩ := hd.tupE
  refine ofG (pg_tup hc meGs hn hst) ?_
  exact ⟨a, vs, e1, Same.seqT s.ex h1, h2.length, h F H σ fp vs Q s h2 q⟩
theorem jgs_nil {k : En → Prop} (k0 : k ρ) : JGs X [] ρ [] k := by
  intro F H σ fp vs Q s h q
  cases h
  exact ofGs pgs_nil ⟨rfl, q F H σ fp ρ Fr.refl s k0⟩
theorem jgs_cons {tg : Expr} {tgs : List Expr} {d : PyData} {ds : List PyData} {k : En → Prop} (h : JG X tg ρ d fun ρ1 => JGs X tgs ρ1 ds k) (hs : (assignEach (tg :: tgs) X.env).map (·.2) = assign tg X.env :: (assignEach tgs X.env).map (·.2)) : JGs X (tg :: tgs) ρ (d :: ds) k := by
  intro F H σ fp vs Q s hd q
  cases hd with
  | cons h1 h2 =>
    refine ofGs (pgs_cons meG meGs hs) ⟨_, _, rfl, ?_⟩
    refine h F H σ fp _ _ s h1 fun F1 H1 σ1 fp1 ρ1 f1 s1 k1 => ?_
    exact k1 F1 H1 σ1 fp1 _ Q s1 (DpAll_ex f1.ex h2) fun F2 H2 σ2 fp2 ρ2 f2 s2 k2 => q F2 H2 σ2 fp2 ρ2 (f1.trans f2) s2 k2
/-- target = e, e data -/
theorem js_asg {tg : Expr} (h : JE X e ρ (asD fun ρ1 d => JG X tg ρ1 d E.nx)) (hs : swapsWithSole [tg] e pos.line X.env = pure false) (hw : swappedStores [tg] e X.env = pure none) (h1 : (assignEach [tg] X.env).map (·.2) = [assign tg X.env]) : JS X (.Assign [tg] e pos) ρ E := by
  intro F H σ fp D s o
  refine ofS (ps_asg meE meG hs hw h1) ?_
  refine h.dat s fun F1 H1 fp1 ρ1 v d f1 s1 o1 k1 => ?_
  exact k1 F1 H1 σ fp1 v _ s1 o1 fun F2 H2 σ2 fp2 ρ2 f2 s2 k2 => o.nx F2 H2 σ2 fp2 ρ2 (f1.trans f2) s2 k2
/-- names = a written tuple, through the tuple itself (a name among them is a cell) -/
theorem js_parT {tgs : List Expr} {kt k2 : Nat} {pt pt2 : Pos} (is : List Nat) (h : JN X es ρ fun ρ1 cs => cs.length = is.length ∧ (∀ i ∈ is, i < ρ1.length) ∧ E.nx (setAll ρ1 is cs)) (hc : X.calm = true)
    (hg : ∀ (vs : List V) (σ : L2.St) (H : Hp) (Q : L2.St → Hp → Prop), vs.length = is.length → Q (setAll σ is vs) H → tGs X tgs vs σ H Q) (hz : is.length ≤ 1000)
    (hn : (assignEach tgs X.env).length = is.length) (hst : (assignEach tgs X.env).findIdx? (·.1) = none)
    (hs : swapsWithSole [.Tuple tgs kt pt] (.Tuple es k2 pt2) pos.line X.env = pure false) (hw : swappedStores [.Tuple tgs kt pt] (.Tuple es k2 pt2) X.env = pure none) (h1 : (assignEach [.Tuple tgs kt pt] X.env).map (·.2) = [assign (.Tuple tgs kt pt) X.env]) :
    JS X (.Assign [.Tuple tgs kt pt] (.Tuple es k2 pt2) pos) ρ E := by
  intro F H σ fp D s o
  refine ofS (ps_asg (pe_tup meA) (pg_tup hc meGs hn hst) hs hw h1) ?_
  refine h F H σ fp _ s fun F1 H1 fp1 ρ1 vs cs fm f1 s1 o1 k1 => ?_
  obtain ⟨l1, l2, k2⟩ := k1
  have lv : vs.length = cs.length := o1.len
  refine ⟨small_line (by rw [lv, l1]; omega), fun p hp => ⟨p, vs, rfl, SqT.of upd_same, lv.trans l1, ?_⟩⟩
  have s2 : St X.K F1 (upd H1 p (.tup vs)) σ ρ1 fp1 := s1.made hp
  have ne : ∀ a, H1 a ≠ none → a ≠ p := fun a h z => h (z ▸ hp)
  have f2 : Fr F H fp F1 (upd H1 p (.tup vs)) fp1 fm := ⟨f1.ex, fun a h1 h2 h3 => by
    rw [upd_ne (ne a (f1.dom a h2))]
    exact f1.old a h1 h2 h3, fun a h => by
    rw [upd_ne (ne a (f1.dom a h))]
    exact f1.dom a h⟩
  have o2 : ResOks X.K F1 (upd H1 p (.tup vs)) fp1 vs cs fm := o1.mono (Same.refl _) fun a ha => by
    obtain ⟨q1, q2, q3⟩ := o1.out a ha
    exact ⟨upd_ne (ne a q2), q1, q3⟩
  obtain ⟨fp3, s3, f3⟩ := St.setAll (is := is) s2 f2 o2 l1.symm l2
  exact hg vs σ _ _ (lv.trans l1) (o.nx _ _ _ fp3 _ f3 s3 k2)
end
end TW

namespace TW
open PySem PySem.Spec PyProof.Rows L2
section
variable {X : Cx} {tg iter : Expr} {e a b c : Expr} {es : List Expr} {st : Stmt} {sts : List Stmt} {ρ : En} {E : Po} {pos : Pos}
/-! ## what is walked -/
structure tI (X : Cx) (tg iter : Expr) (σ : L2.St) (H : Hp) (R : It → Hp → Prop) : Prop where
  run : ∀ pins s, Inv X pins σ H s → wpAny (model X.prog X.w) X.A (eval iter X.env) (fun v s1 => wpAny (model X.prog X.w) X.A (pyIter v) (PIE X pins σ tg R) X.xe s1) X.xe s
theorem meI : PI X tg iter (tI X tg iter) := ⟨fun pins s _ _ _ I h => h.run pins s I⟩
theorem ofI {t : TI} {σ : L2.St} {H : Hp} {R : It → Hp → Prop} (h : PI X tg iter t) (q : t σ H R) : tI X tg iter σ H R := ⟨fun pins s I => h.run pins s σ H R I q⟩
/-- what comes at turn i is data f i -/
def Yl (K : PySem.W.Frag) (F0 : Hp) (n : Nat) (f : Nat → PyData) (Y : Nat → Hp → V → Hp → Prop) : Prop :=
  ∀ i F1 H1 (σ1 : L2.St) ρ1 fp1 x H2, i < n → Same F0 F1 → St K F1 H1 σ1 ρ1 fp1 → Y i H1 x H2 → ∃ F2, Fr F1 H1 fp1 F2 H2 fp1 [] ∧ St K F2 H2 σ1 ρ1 fp1 ∧ Dp K F2 x (f i)
def JI (X : Cx) (tg iter : Expr) (ρ : En) (k : En → Nat → (Nat → PyData) → Prop) : Prop :=
  ∀ F H σ fp (R : It → Hp → Prop), St X.K F H σ ρ fp → (∀ F' H' fp' ρ' n f J G Y, Fr F H fp F' H' fp' [] → St X.K F' H' σ ρ' fp' → Walk J n G Y → (∀ F1 H1, Same F' F1 → Same F1 H1 → G H1) → Yl X.K F' n f Y → k ρ' n f → R J H') → tI X tg iter σ H R
theorem yl_at {K : PySem.W.Frag} {F0 : Hp} {vs : List V} {ds : List PyData} (h : DpAll K F0 vs ds) : Yl K F0 ds.length (fun i => ds.getD i .none) (YAt vs) := by
  intro i F1 H1 σ1 ρ1 fp1 x H2 hi e s y
  obtain ⟨rfl, hx⟩ := y
  obtain ⟨d, h1, h2⟩ := h.getV hx
  refine ⟨F1, Fr.refl, s, ?_⟩
  show Dp K F1 x (ds.getD i .none)
  rw [List.getD_eq_getElem?_getD, h1]
  exact Dp_ex e h2
theorem yl_pair {K : PySem.W.Frag} {F0 : Hp} {n : Nat} {xs ys : Nat → Option V} {fx fy : Nat → PyData} (hx : ∀ i x, i < n → xs i = some x → Dp K F0 x (fx i)) (hy : ∀ i y, i < n → ys i = some y → Dp K F0 y (fy i)) :
    Yl K F0 n (fun i => .tuple [fx i, fy i]) (YPair xs ys) := by
  intro i F1 H1 σ1 ρ1 fp1 x H2 hi e s y
  obtain ⟨T, u, v, rfl, hT, rfl, h1, h2⟩ := y
  have n1 := (s.fresh hT).1
  refine ⟨_, Fr.laid s hT, s.laid hT, .tup (SqT.of upd_same) (.cons (Dp_ex (e.trans (Same.new n1)) (hx i u hi h1)) (.cons (Dp_ex (e.trans (Same.new n1)) (hy i v hi h2)) .nil))⟩
theorem ji_tup {k : En → Nat → (Nat → PyData) → Prop} (h : JE X iter ρ (asD fun ρ1 d => ∃ ds, d = .tuple ds ∧ k ρ1 ds.length (fun i => ds.getD i .none))) : JI X tg iter ρ k := by
  intro F H σ fp R s q
  refine ofI (pi_tup meE) ?_
  refine h.dat s fun F1 H1 fp1 ρ1 v d f1 s1 o1 k1 => ?_
  obtain ⟨ds, rfl, k2⟩ := k1
  obtain ⟨a, vs, e1, h1, h2⟩ := o1.tupE
  have hl : vs.length = ds.length := h2.length
  refine ⟨a, e1, ⟨vs, Same.seqT s1.ex h1⟩, q F1 H1 fp1 ρ1 ds.length _ (Itt X.K a) (fun H => SqT X.K H a vs) (YAt vs) f1 s1 (by rw [← hl]; exact walk_tup) (fun F2 H2 e1 e2 => Same.seqT (e1.trans e2) h1) (yl_at h2) k2⟩
theorem ji_list {k : En → Nat → (Nat → PyData) → Prop} (h : JE X iter ρ (asD fun ρ1 d => ∃ ds, d = .list ds ∧ k ρ1 ds.length (fun i => ds.getD i .none))) : JI X tg iter ρ k := by
  intro F H σ fp R s q
  refine ofI (pi_list meE) ?_
  refine h.dat s fun F1 H1 fp1 ρ1 v d f1 s1 o1 k1 => ?_
  obtain ⟨ds, rfl, k2⟩ := k1
  obtain ⟨a, vs, e1, h1, h2⟩ := o1.lstE
  have hl : vs.length = ds.length := h2.length
  refine ⟨a, e1, ⟨vs, s1.ex.seq h1⟩, q F1 H1 fp1 ρ1 ds.length _ (Itl X.K a) (fun H => SqL X.K H a vs) (YAt vs) f1 s1 (by rw [← hl]; exact walk_list) (fun F2 H2 e1 e2 => (e1.trans e2).seq h1) (yl_at h2) k2⟩
theorem ji_range {p : Pos} {k : En → Nat → (Nat → PyData) → Prop} (hm : X.mg "range" = none) (h : JE X e ρ (asD fun ρ1 d => ∃ n : Nat, d = .int n ∧ n ≤ 100000 ∧ k ρ1 n (fun i => .int i))) (hg : Gl X "range") (he : starEach [e] X.env = (false, eval e X.env) :: starEach [] X.env) :
    JI X tg (.Call (.Name "range" p) [e] [] pos) ρ k := by
  intro F H σ fp R s q
  refine ofI (pi_range1 hg hm (pa_cons meE pa_nil he) he) ?_
  refine h.dat s fun F1 H1 fp1 ρ1 v d f1 s1 o1 k1 => ?_
  obtain ⟨n, rfl, hn, k2⟩ := k1
  cases o1.intE
  refine ⟨n, rfl, by omega, by omega, q F1 H1 fp1 ρ1 n _ (Itr 0 (n : Int).toNat) (fun _ => True) (YFn fun i => .int (0 + i)) f1 s1 ?_ (fun _ _ _ _ => trivial) ?_ k2⟩
  · rw [Int.toNat_natCast]
    exact walk_range
  · intro i F2 H2 σ2 ρ2 fp2 x H3 hi e s y
    obtain ⟨rfl, rfl⟩ := y
    refine ⟨F2, Fr.refl, s, ?_⟩
    show Dp X.K F2 (V.int (0 + (i : Int))) (.int (i : Int))
    rw [Int.zero_add]
    exact .int _
def iEnumT (K : PySem.W.Frag) (ta : TA) : TI := fun σ H R => ta σ H fun vs H1 => ∃ a xs, vs = [.ref a] ∧ SqT K H1 a xs ∧ R (Itet K a) H1
theorem pi_enumT {ta : TA} {p tpos : Pos} {elts : List Expr} {kk : Nat} (hg : Gl X "enumerate") (hm : X.mg "enumerate" = none) (ha : PA X [e] ta) (hs : starEach [e] X.env = [(false, eval e X.env)]) :
    PI X (.Tuple elts kk tpos) (.Call (.Name "enumerate" p) [e] [] pos) (iEnumT X.K ta) := by
  refine ⟨fun pins s σ H R I h => ?_⟩
  refine Call_ (ld_blt I hg hm boot_enumerate (PyProof.Rows.callWith_type1 (thn (ha.run pos pins s σ H _ I h) fun us s1 ⟨vs, H1, I1, r1, q1⟩ => ?_) hs rfl))
  obtain ⟨a, xs, ex, hq, q⟩ := q1
  subst ex
  cases r1 with
  | cons r rr =>
    cases rr
    cases r
    obtain ⟨its, rv, p', hz⟩ := I1.tuple hq
    have hal : a < s1.heap.objs.size := p'.lt
    refine call_enumerate_tup p' fun h' he hit hsz hk => wpAny_pyIter_enum he ?_
    have I2 : Inv X pins σ H1 { s1 with heap := h' } := I1.kept (t' := s1.toks) hk
    refine ⟨s1.heap.objs.size + 1, [s1.heap.objs.size + 1, s1.heap.objs.size], _, _, H1, rfl, I2, turn_enumT a (s1.heap.objs.size + 1) s1.heap.objs.size, ⟨⟨.none, he⟩, hit, Nat.succ_ne_self _, Nat.ne_of_gt (Nat.lt_succ_of_lt hal), Nat.ne_of_lt hal⟩, fun b hb => ?_, q⟩
    have e' : b = s1.heap.objs.size + 1 ∨ b = s1.heap.objs.size := by simpa using hb
    have hle : s1.heap.objs.size ≤ b := by
      rcases e' with z | z
      · rw [z]; exact Nat.le_add_right _ _
      · rw [z]; exact Nat.le_refl _
    exact I1.fpOk hle (I1.hok.fresh hle)
theorem walk_enumT {K : PySem.W.Frag} {a : Addr} {xs : List V} : Walk (Itet K a) xs.length (fun H => SqT K H a xs) (YPair (fun i => some (.int (i : Nat))) (fun i => xs[i]?)) := by
  refine ⟨fun i _ hi q => ⟨xs, xs[i], q, by simp [hi]⟩, fun _ q => ⟨xs, q, Nat.le_refl _⟩, fun i H v H' _ q y => ?_⟩
  obtain ⟨T, x, h1, h2, h3, h4⟩ := y
  exact ⟨T, .int (i : Nat), x, h1, h2, h3, rfl, h4 xs q⟩
theorem ji_enum {p tpos : Pos} {elts : List Expr} {kk : Nat} {k : En → Nat → (Nat → PyData) → Prop} (hm : X.mg "enumerate" = none) (h : JE X e ρ (asD fun ρ1 d => ∃ ds, d = .tuple ds ∧ k ρ1 ds.length (fun i => .tuple [.int i, ds.getD i .none]))) (hg : Gl X "enumerate")
    (hs : starEach [e] X.env = (false, eval e X.env) :: starEach [] X.env) : JI X (.Tuple elts kk tpos) (.Call (.Name "enumerate" p) [e] [] pos) ρ k := by
  intro F H σ fp R s q
  refine ofI (pi_enumT hg hm (pa_cons meE pa_nil hs) hs) ?_
  refine h.dat s fun F1 H1 fp1 ρ1 v d f1 s1 o1 k1 => ?_
  obtain ⟨ds, rfl, k2⟩ := k1
  obtain ⟨a, vs, rfl, h1, h2⟩ := o1.tupE
  have hl : vs.length = ds.length := h2.length
  refine ⟨a, vs, rfl, Same.seqT s1.ex h1, q F1 H1 fp1 ρ1 ds.length _ (Itet X.K a) (fun H => SqT X.K H a vs) _ f1 s1 (by rw [← hl]; exact walk_enumT) (fun F2 H2 e1 e2 => Same.seqT (e1.trans e2) h1) (yl_pair (fun i x _ e => ?_) (fun i y _ e => ?_)) k2⟩
  · cases e
    exact .int _
  · obtain ⟨d, g1, g2⟩ := h2.getV e
    rw [List.getD_eq_getElem?_getD, g1]
    exact g2
theorem ji_zip {p tpos : Pos} {elts : List Expr} {kk : Nat} {k : En → Nat → (Nat → PyData) → Prop} (hm : X.mg "zip" = none)
    (h : JE X a ρ (asD fun ρ1 d1 => JE X b ρ1 (asD fun ρ2 d2 => ∃ ds es, d1 = .tuple ds ∧ d2 = .tuple es ∧ ds.length = es.length ∧ k ρ2 ds.length (fun i => .tuple [ds.getD i .none, es.getD i .none])))) (hg : Gl X "zip")
    (hs : starEach [a, b] X.env = (false, eval a X.env) :: starEach [b] X.env) (hs2 : starEach [b] X.env = (false, eval b X.env) :: starEach [] X.env) (hpl : (backTo pos (starEach [b] X.env)).any (·.1) = false) : JI X (.Tuple elts kk tpos) (.Call (.Name "zip" p) [a, b] [] pos) ρ k := by
  intro F H σ fp R s q
  refine ofI (RZ.pi_zipA hg hm (pa_cons meE (pa_cons meE pa_nil hs2) hs) hs hpl) ?_
  refine h.dat s fun F1 H1 fp1 ρ1 v1 d1 f1 s1 o1 k1 => ?_
  refine JE.dat k1 s1 fun F2 H2 fp2 ρ2 v2 d2 f2 s2 o2 k2 => ?_
  obtain ⟨ds, es, rfl, rfl, hl, k3⟩ := k2
  obtain ⟨p1, vs, rfl, h1, h2⟩ := o1.tupE
  obtain ⟨p2, us, rfl, h3, h4⟩ := o2.tupE
  have h2' := DpAll_ex f2.ex h2
  have h1' := Same.seqT f2.ex h1
  have hlv : vs.length = ds.length := h2.length
  have hlu : us.length = es.length := h4.length
  refine ⟨p1, p2, vs, us, rfl, .inr ⟨Same.seqT s2.ex h1', Same.seqT s2.ex h3, ?_⟩⟩
  have w : Walk (RZ.ItzT X.K p1 p2) ds.length (fun H => SqT X.K H p1 vs ∧ SqT X.K H p2 us) (YPair (fun i => vs[i]?) (fun i => us[i]?)) := by
    refine ⟨fun i _ hi q => ?_, fun _ q => ⟨vs, us, q.1, q.2, .inl (by omega)⟩, fun i H v H' _ q y => ?_⟩
    · have g1 : i < vs.length := by omega
      have g2 : i < us.length := by omega
      exact ⟨vs, us, vs[i], us[i], q.1, q.2, by simp [g1], by simp [g2]⟩
    · obtain ⟨T, x, z, g1, g2, g3, g4, g5⟩ := y
      exact ⟨T, x, z, g1, g2, g3, g4 vs q.1, g5 us q.2⟩
  refine q F2 H2 fp2 ρ2 ds.length _ (RZ.ItzT X.K p1 p2) _ _ (f1.trans f2) s2 w (fun F3 H3 e1 e2 => ⟨Same.seqT (e1.trans e2) h1', Same.seqT (e1.trans e2) h3⟩) (yl_pair (fun i x _ e => ?_) (fun i y _ e => ?_)) k3
  · obtain ⟨d, g1, g2⟩ := h2'.getV e
    rw [List.getD_eq_getElem?_getD, g1]
    exact g2
  · obtain ⟨d, g1, g2⟩ := h4.getV e
    rw [List.getD_eq_getElem?_getD, g1]
    exact g2

/-! ## loops -/
theorem js_for {body : List Stmt} (h : JI X tg iter ρ fun ρ1 n f => ∃ I : Nat → En → Prop, I 0 ρ1 ∧ (∀ i ρ2, i < n → I i ρ2 → JG X tg ρ2 (f i) fun ρ3 => JSs X body ρ3 { E with nx := I (i + 1), ct := I (i + 1), bk := E.nx }) ∧ ∀ ρ2, I n ρ2 → E.nx ρ2)
    (hp : PassesOwn (model X.prog X.w) X.A X.env X.xe) (hc : X.calm = true) (hfs : ∀ x, foldedSetIterable iter X.env x = pure x) : JS X (.For tg iter body [] pos) ρ E := by
  intro F H σ fp D s o
  refine ofS (ps_for hp hc meI meG meSs hfs) ?_
  refine h F H σ fp _ s fun F1 H1 fp1 ρ1 n f J G Y f1 s1 w hG hY k1 => ?_
  obtain ⟨I, i0, hs, hd⟩ := k1
  refine for_it w (fun i σ' H' => ∃ F' fp' ρ', Fr F1 H1 fp1 F' H' fp' [] ∧ St X.K F' H' σ' ρ' fp' ∧ I i ρ') ⟨F1, fp1, ρ1, Fr.refl, s1, i0⟩ (fun i σ' H' _ ⟨F', fp', ρ', g1, g2, _⟩ => hG F' H' g1.ex g2.ex) ?_ ?_
  · rintro i x σ2 H2 H3 hi ⟨F2, fp2, ρ2, g1, g2, g3⟩ y
    obtain ⟨F3, y1, y2, y3⟩ := hY i F2 H2 σ2 ρ2 fp2 x H3 hi g1.ex g2 y
    refine hs i ρ2 hi g3 F3 H3 σ2 fp2 x _ y2 y3 fun F4 H4 σ4 fp4 ρ4 f4 s4 k4 => ?_
    have fr : Fr F1 H1 fp1 F4 H4 fp4 [] := (g1.trans y1).trans f4
    have ot := (o.after f1).after fr
    refine k4 F4 H4 σ4 fp4 _ s4 ⟨fun F5 H5 σ5 fp5 ρ5 a1 a2 a3 => ⟨F5, fp5, ρ5, fr.trans a1, a2, a3⟩, ot.rt, fun F5 H5 σ5 fp5 ρ5 a1 a2 a3 => ot.nx F5 H5 σ5 fp5 ρ5 a1 a2 a3, fun F5 H5 σ5 fp5 ρ5 a1 a2 a3 => ⟨F5, fp5, ρ5, fr.trans a1, a2, a3⟩⟩
  · rintro σ2 H2 ⟨F2, fp2, ρ2, g1, g2, g3⟩
    exact o.nx F2 H2 σ2 fp2 ρ2 (f1.trans g1) g2 (hd ρ2 g3)
theorem js_while {body : List Stmt} (I : Nat → En → Prop) (h0 : ∃ m, I m ρ) (h : ∀ m ρ1, I m ρ1 → JT X c ρ1 fun ρ2 t => (t = true → JSs X body ρ2 { E with nx := fun ρ3 => ∃ m', m' < m ∧ I m' ρ3, ct := fun ρ3 => ∃ m', m' < m ∧ I m' ρ3, bk := E.nx }) ∧ (t = false → E.nx ρ2))
    (hp : PassesOwn (model X.prog X.w) X.A X.env X.xe) : JS X (.While c body [] pos) ρ E := by
  intro F H σ fp D s o
  refine ofS (ps_while hp meT meSs) ?_
  obtain ⟨m0, h0⟩ := h0
  refine ⟨fun m σ' H' => ∃ F' fp' ρ', Fr F H fp F' H' fp' [] ∧ St X.K F' H' σ' ρ' fp' ∧ I m ρ', ⟨m0, F, fp, ρ, Fr.refl, s, h0⟩, ?_⟩
  rintro m σ1 H1 ⟨F1, fp1, ρ1, g1, g2, g3⟩
  refine h m ρ1 g3 F1 H1 σ1 fp1 _ g2 fun F2 H2 fp2 ρ2 t f2 s2 k2 => ?_
  cases t with
  | true =>
    refine iteT ?_
    refine ⟨fun σ' H' => ∃ m', m' < m ∧ ∃ F' fp' ρ', Fr F H fp F' H' fp' [] ∧ St X.K F' H' σ' ρ' fp' ∧ I m' ρ', fun σ' H' z => z, ?_⟩
    have fr : Fr F H fp F2 H2 fp2 [] := g1.trans f2
    have ot := o.after fr
    refine k2.1 rfl F2 H2 σ1 fp2 _ s2 ⟨?_, ot.rt, fun F5 H5 σ5 fp5 ρ5 a1 a2 a3 => ot.nx F5 H5 σ5 fp5 ρ5 a1 a2 a3, ?_⟩
    · rintro F5 H5 σ5 fp5 ρ5 a1 a2 ⟨m', l, a3⟩
      exact ⟨m', l, F5, fp5, ρ5, fr.trans a1, a2, a3⟩
    · rintro F5 H5 σ5 fp5 ρ5 a1 a2 ⟨m', l, a3⟩
      exact ⟨m', l, F5, fp5, ρ5, fr.trans a1, a2, a3⟩
  | false =>
    refine iteF ?_
    exact o.nx F2 H2 σ1 fp2 ρ2 (g1.trans f2) s2 (k2.2 rfl)

/-! ## comprehensions -/
abbrev blk (X : Cx) (s : Shared) (H : Hp) (scope : Scope) (C : Addr) (cl : List (Str × Addr)) (fp : List Addr) : Cx := X.blk s H scope (compEnvC scope cl C X.env) fp
def blkG (X : Cx) (scope : Scope) (tg : Expr) : TG := fun v σ H Q => ∀ s H0 C cl fp, tG (blk X s H0 scope C cl fp) tg v σ H Q
def blkE (X : Cx) (scope : Scope) (e : Expr) : TE := fun σ H Q => ∀ s H0 C cl fp, tE (blk X s H0 scope C cl fp) e σ H Q
def blkT (X : Cx) (scope : Scope) (e : Expr) : TT := fun σ H Q => ∀ s H0 C cl fp, tT (blk X s H0 scope C cl fp) e σ H Q
theorem meBG {scope : Scope} (s : Shared) (H : Hp) (C : Addr) (cl : List (Str × Addr)) (fp : List Addr) : PG (X.blk s H scope (compEnvC scope cl C X.env) fp) tg (blkG X scope tg) :=
  ⟨fun pins s1 _ _ _ u _ I r h => (h s H C cl fp).run pins s1 u I r⟩
theorem meBE {scope : Scope} (s : Shared) (H : Hp) (C : Addr) (cl : List (Str × Addr)) (fp : List Addr) : PE (X.blk s H scope (compEnvC scope cl C X.env) fp) e (blkE X scope e) := ⟨fun pins s1 _ _ _ I h => (h s H C cl fp).run pins s1 I⟩
theorem meBT {scope : Scope} (s : Shared) (H : Hp) (C : Addr) (cl : List (Str × Addr)) (fp : List Addr) : PT (X.blk s H scope (compEnvC scope cl C X.env) fp) e (blkT X scope e) := ⟨fun pins s1 _ _ _ I h => (h s H C cl fp).run pins s1 I⟩
def wipeE (ρ : En) : List Nat → En
  | [] => ρ
  | v :: vs => (wipeE ρ vs).set v none
theorem wipe_get {σ : L2.St} {i : Nat} : ∀ {vs : List Nat}, i ∉ vs → (wipe σ vs)[i]? = σ[i]?
  | [], _ => rfl
  | v :: vs, h => by
    have n : v ≠ i := fun z => h (by simp [z])
    show ((wipe σ vs).set v none)[i]? = σ[i]?
    rw [List.getElem?_set_ne n]
    exact wipe_get fun z => h (List.mem_cons_of_mem _ z)
theorem wipeE_get {ρ : En} {i : Nat} {c : Cell} : ∀ {vs : List Nat}, (wipeE ρ vs)[i]? = some (some c) → i ∉ vs ∧ ρ[i]? = some (some c)
  | [], h => ⟨by simp, h⟩
  | v :: vs, h => by
    have h' : ((wipeE ρ vs).set v none)[i]? = some (some c) := h
    by_cases n : v = i
    · subst n
      rw [List.getElem?_set] at h'
      rw [if_pos rfl] at h'
      split at h'
      · cases h'
      · cases h'
    · rw [List.getElem?_set_ne n] at h'
      obtain ⟨q1, q2⟩ := wipeE_get h'
      exact ⟨fun z => (List.mem_cons.mp z).elim (fun z => n z.symm) q1, q2⟩
theorem wipeE_len {ρ : En} : ∀ {vs : List Nat}, (wipeE ρ vs).length = ρ.length
  | [] => rfl
  | v :: vs => by
    show ((wipeE ρ vs).set v none).length = _
    rw [List.length_set, wipeE_len]
theorem St.wiped {K : PySem.W.Frag} {F H : Hp} {σ : L2.St} {ρ : En} {fp : Nat → List Addr} {vs : List Nat} (s : St K F H σ ρ fp) : St K F H (wipe σ vs) (wipeE ρ vs) fp := by
  refine ⟨s.ex, by rw [wipe_length, wipeE_len, s.len], fun i c hc => ?_, s.out, s.sep⟩
  obtain ⟨n, h⟩ := wipeE_get hc
  obtain ⟨v, h1, h2⟩ := s.cells i c h
  exact ⟨v, by rw [wipe_get n]; exact h1, h2⟩
theorem St.wiped2 {K : PySem.W.Frag} {F H : Hp} {σ : L2.St} {ρ : En} {fp : Nat → List Addr} {vs : List Nat} (s : St K F H σ (wipeE ρ vs) fp) : St K F H (wipe σ vs) (wipeE ρ vs) fp := by
  refine ⟨s.ex, by rw [wipe_length, s.len], fun i c hc => ?_, s.out, s.sep⟩
  obtain ⟨n, h⟩ := wipeE_get hc
  obtain ⟨v, h1, h2⟩ := s.cells i c hc
  exact ⟨v, by rw [wipe_get n]; exact h1, h2⟩
theorem St.forget {K : PySem.W.Frag} {F H : Hp} {σ : L2.St} {ρ : En} {fp : Nat → List Addr} {vs : List Nat} (s : St K F H σ ρ fp) : St K F H σ (wipeE ρ vs) fp := by
  refine ⟨s.ex, by rw [wipeE_len, s.len], fun i c hc => ?_, s.out, s.sep⟩
  obtain ⟨n, h⟩ := wipeE_get hc
  exact s.cells i c h
theorem wipeE_of {ρ : En} {i : Nat} : ∀ {vs : List Nat}, i ∉ vs → (wipeE ρ vs)[i]? = ρ[i]?
  | [], _ => rfl
  | v :: vs, h => by
    have n : v ≠ i := fun z => h (by simp [z])
    show ((wipeE ρ vs).set v none)[i]? = ρ[i]?
    rw [List.getElem?_set_ne n]
    exact wipeE_of fun z => h (List.mem_cons_of_mem _ z)
theorem St.back {K : PySem.W.Frag} {F H : Hp} {σ σ2 : L2.St} {ρ ρ2 : En} {fp : Nat → List Addr} {vs : List Nat} (s : St K F H σ2 ρ2 fp) (hσ : wipe σ2 vs = wipe σ vs) (hρ : wipeE ρ2 vs = wipeE ρ vs) : St K F H σ (wipeE ρ vs) (fun i => if i ∈ vs then [] else fp i) := by
  refine ⟨s.ex, ?_, fun i c hc => ?_, fun i a ha => ?_, fun i j a h1 h2 => ?_⟩
  · have e1 := congrArg List.length hσ
    have e2 := congrArg List.length hρ
    rw [wipe_length, wipe_length] at e1
    rw [wipeE_len] at e2
    rw [← e1, ← e2, s.len]
  · obtain ⟨n, h⟩ := wipeE_get hc
    rw [← hρ, wipeE_of n] at hc
    obtain ⟨v, h1, h2⟩ := s.cells i c hc
    refine ⟨v, ?_, by rw [if_neg n]; exact h2⟩
    rw [← wipe_get n, ← hσ, wipe_get n]
    exact h1
  · split at ha
    · simp at ha
    · exact s.out i a ha
  · split at h1
    · simp at h1
    · split at h2
      · simp at h2
      · exact s.sep i j a h1 h2
theorem setAll_get {α : Type} {i : Nat} : ∀ {js : List Nat} {xs : List α} {σ : List (Option α)}, i ∉ js → (setAll σ js xs)[i]? = σ[i]?
  | [], _, _, _ => rfl
  | _ :: _, [], _, _ => rfl
  | j :: js, x :: xs, σ, h => by
    have n : j ≠ i := fun z => h (by simp [z])
    show (setAll (σ.set j (some x)) js xs)[i]? = _
    rw [setAll_get fun z => h (List.mem_cons_of_mem _ z), List.getElem?_set_ne n]
theorem wipe_none {σ : L2.St} {i : Nat} : ∀ {vs : List Nat}, i ∈ vs → i < σ.length → (wipe σ vs)[i]? = some none
  | v :: vs, h, hl => by
    show ((wipe σ vs).set v none)[i]? = some none
    by_cases n : v = i
    · subst n
      rw [List.getElem?_set_self (by rw [wipe_length]; exact hl)]
    · rw [List.getElem?_set_ne n]
      exact wipe_none ((List.mem_cons.mp h).elim (fun z => absurd z.symm n) id) hl
theorem wipe_setAll {σ : L2.St} {vs js : List Nat} {xs : List V} (h : ∀ j ∈ js, j ∈ vs) : wipe (setAll (wipe σ vs) js xs) vs = wipe σ vs := by
  have hl : (setAll (wipe σ vs) js xs).length = σ.length := by rw [setAll_len, wipe_length]
  refine List.ext_getElem? fun i => ?_
  by_cases m : i ∈ vs
  · by_cases l : i < σ.length
    · rw [wipe_none m (by rw [hl]; exact l), wipe_none m l]
    · rw [List.getElem?_eq_none (by rw [wipe_length, hl]; omega), List.getElem?_eq_none (by rw [wipe_length]; omega)]
  · rw [wipe_get m, setAll_get (fun z => m (h i z))]
theorem oks_dat {K : PySem.W.Frag} {F H : Hp} {fp : Nat → List Addr} : ∀ {vs : List V} {ds : List PyData}, DpAll K F vs ds → ResOks K F H fp vs (ds.map Cell.dat) []
  | _, _, .nil => .nil
  | _, _, .cons h t => .cons (fn := []) ⟨h, rfl⟩ (by simp) (oks_dat t) (by simp)
/-- what a comprehension's target takes of an item -/
inductive TgD : List Nat → PyData → List PyData → Prop where
  | one (j : Nat) (d : PyData) : TgD [j] d [d]
  | two (i j : Nat) (d e : PyData) : TgD [i, j] (.tuple [d, e]) [d, e]
theorem TgD.len {js : List Nat} {d : PyData} {ds : List PyData} (h : TgD js d ds) : js.length = (ds.map Cell.dat).length := by
  cases h <;> rfl
def TgOk (X : Cx) (scope : Scope) (tg : Expr) (js : List Nat) : Prop := ∀ (K : PySem.W.Frag) (v : V) (d : PyData) (ds : List PyData) (σ : L2.St) (F H : Hp) (Q : L2.St → Hp → Prop), K = X.K → Same F H → Dp K F v d → TgD js d ds →
  (∀ us, DpAll K F us ds → Q (setAll σ js us) H) → blkG X scope tg v σ H Q
/-- one turn's part -/
abbrev LcTurn (X : Cx) (scope : Scope) (cond : Option Expr) (elt : Expr) (vs : List Nat) (ρ1 ρ2 : En) (yes : PyData → Prop) (no : Prop) : Prop :=
  ∀ s H C cl fp, match cond with
  | none => JE (blk X s H scope C cl fp) elt ρ2 (asD fun ρ3 d => wipeE ρ3 vs = wipeE ρ1 vs ∧ yes d)
  | some c => JT (blk X s H scope C cl fp) c ρ2 fun ρ3 b => (b = true → ∀ s H C cl fp, JE (blk X s H scope C cl fp) elt ρ3 (asD fun ρ4 d => wipeE ρ4 vs = wipeE ρ1 vs ∧ yes d)) ∧ (b = false → wipeE ρ3 vs = wipeE ρ1 vs ∧ no)
/-- what the whole asks -/
abbrev LcAsk (X : Cx) (scope : Scope) (cond : Option Expr) (elt : Expr) (vs js : List Nat) (k : En → Res → Prop) : En → Nat → (Nat → PyData) → Prop := fun ρ1 n f =>
  ∃ I : Nat → List PyData → Prop, I 0 [] ∧ n ≤ 100000 ∧ (∀ j ∈ js, j < ρ1.length) ∧
    (∀ i acc, i < n → I i acc → ∃ ds, TgD js (f i) ds ∧ LcTurn X scope cond elt vs ρ1 (setAll (wipeE ρ1 vs) js (ds.map Cell.dat)) (fun d => I (i + 1) (acc ++ [d])) (I (i + 1) acc)) ∧
    ∀ acc p, I n acc → k (wipeE ρ1 vs) (.new (.own p acc))
def condL : Option Expr → List Expr
  | none => []
  | some c => [c]
def blkC (X : Cx) (scope : Scope) : Option Expr → TT
  | none => tYes
  | some c => blkT X scope c
theorem yes_go {scope : Scope} {σ : L2.St} {H : Hp} {Q : Bool → Hp → Prop} (h : Q true H) : blkC X scope none σ H Q := h
theorem meBC {scope : Scope} {cond : Option Expr} (s : Shared) (H : Hp) (C : Addr) (cl : List (Str × Addr)) (fp : List Addr) : PTs (X.blk s H scope (compEnvC scope cl C X.env) fp) (condL cond) (blkC X scope cond) := by
  cases cond with
  | none => exact pts_nil
  | some c => exact pts_one (meBT s H C cl fp)
theorem lc_go {scope : Scope} {cond : Option Expr} {elt : Expr} {vs js : List Nat} {k : En → Res → Prop} (hjs : ∀ j ∈ js, j ∈ vs) (hjn : js.Nodup) (ht : TgOk X scope tg js) (h : JI X tg iter ρ (LcAsk X scope cond elt vs js k)) {F H : Hp} {σ : L2.St} {fp : Nat → List Addr} {Q : VK} (s : St X.K F H σ ρ fp)
    (q : ∀ F' H' fp' ρ' v r fn, Fr F H fp F' H' fp' fn → St X.K F' H' σ ρ' fp' → ResOk X.K F' H' σ fp' v r fn → k ρ' r → Q v H') : tLc (tI X tg iter) (blkG X scope tg) (blkC X scope cond) (blkE X scope elt) vs σ H Q := by
  refine h F H σ fp _ s fun F1 H1 fp1 ρ1 n f J G Y f1 s1 w hG hY k1 => ?_
  obtain ⟨I, i0, hn, hjl, hs, hd⟩ := k1
  intro D hD
  have fD := s1.fresh hD
  refine lc_it w (fun i H' => ∃ F' fp' acc us, Fr F1 H1 fp1 F' H' fp' [D] ∧ St X.K F' H' σ (wipeE ρ1 vs) fp' ∧ F' D = none ∧ (∀ j, D ∉ fp' j) ∧ H' D = some (.lst us) ∧ DpAll X.K F' us acc ∧ I i acc ∧ acc.length ≤ i)
    ⟨F1, fp1, [], [], Fr.made s1 hD [D] (by simp), (s1.made hD).forget, fD.1, fD.2, upd_same, .nil, i0, Nat.le_refl _⟩ (fun i H' _ ⟨F', fp', acc, us, g1, g2, _⟩ => hG F' H' g1.ex g2.ex) ?_ ?_
  · rintro i x H2 H3 hi ⟨F2, fp2, acc, us, g1, g2, g3, g4, g5, g6, g7, g8⟩ y
    obtain ⟨F3, y1, y2, y3⟩ := hY i F2 H2 σ (wipeE ρ1 vs) fp2 x H3 hi g1.ex g2 y
    obtain ⟨ds, td, turn⟩ := hs i acc hi g7
    obtain ⟨d1, d2, d3, _⟩ := y1.old D g3 (by rw [g5]; simp) g4
    refine ht X.K x (f i) ds _ F3 H3 _ rfl y2.ex y3 td fun xs hxs => ⟨wipe_setAll hjs, ?_⟩
    obtain ⟨fp4, s4, f4⟩ := St.setAll (is := js) (F0 := F3) (H0 := H3) (fp0 := fp2) y2.wiped2 Fr.refl (oks_dat hxs) td.len (fun j hj => by rw [wipeE_len]; exact hjl j hj)
    obtain ⟨e1, e2, e3, _⟩ := f4.old D d1 (by rw [d2, g5]; simp) d3
    -- the element, then the next turn
    have fin : ∀ (F5 H5 : Hp) (fp5 : Nat → List Addr) (ρ5 : En), Fr F3 H3 fp4 F5 H5 fp5 [] → St X.K F5 H5 (setAll (wipe σ vs) js xs) ρ5 fp5 → (∀ s0 H0 C cl fpx, JE (blk X s0 H0 scope C cl fpx) elt ρ5 (asD fun ρ4 d => wipeE ρ4 vs = wipeE ρ1 vs ∧ I (i + 1) (acc ++ [d]))) →
        blkE X scope elt (setAll (wipe σ vs) js xs) H5 fun z H6 => ∃ acc', H6 D = some (.lst acc') ∧ acc'.length < sizeLine ∧ ∃ F' fp' acc us, Fr F1 H1 fp1 F' (upd H6 D (.lst (acc' ++ [z]))) fp' [D] ∧ St X.K F' (upd H6 D (.lst (acc' ++ [z]))) σ (wipeE ρ1 vs) fp' ∧ F' D = none ∧ (∀ j, D ∉ fp' j) ∧ (upd H6 D (.lst (acc' ++ [z]))) D = some (.lst us) ∧ DpAll X.K F' us acc ∧ I (i + 1) acc ∧ acc.length ≤ i + 1 := by
      intro F5 H5 fp5 ρ5 f5 s5 hE s0 H0 C cl fpx
      obtain ⟨a1, a2, a3, _⟩ := f5.old D e1 (by rw [d2, g5]; simp) e3
      refine JE.dat (X := blk X s0 H0 scope C cl fpx) (hE s0 H0 C cl fpx) s5 fun F6 H6 fp6 ρ6 z d f6 s6 o6 k6 => ?_
      obtain ⟨b1, b2, b3, _⟩ := f6.old D a1 (by rw [a2, d2, g5]; simp) a3
      obtain ⟨k61, k62⟩ := k6
      have hH6 : H6 D = some (.lst us) := by rw [b2, a2, d2, g5]
      have hul : us.length = acc.length := g6.length
      refine ⟨us, hH6, Nat.lt_of_le_of_lt (show us.length ≤ 100000 by omega) (by decide), F6, (fun j => if j ∈ vs then [] else fp6 j), acc ++ [d], us ++ [z], ?_, ?_, b1, ?_, upd_same, ?_, k62, by rw [List.length_append, List.length_singleton]; omega⟩
      · have fr : Fr F1 H1 fp1 F6 H6 fp6 [] := (((g1.trans y1).trans f4).trans f5).trans f6
        refine ⟨fr.ex, fun a h1 h2 h3 => ?_, fun a h => ?_⟩
        · have na : a ≠ D := fun z => h2 (z ▸ hD)
          obtain ⟨p1, p2, p3, _⟩ := fr.old a h1 h2 h3
          rw [upd_ne na]
          refine ⟨p1, p2, fun j => ?_, by simpa using na⟩
          split
          · simp
          · exact p3 j
        · have na : a ≠ D := fun z => h (z ▸ hD)
          rw [upd_ne na]
          exact fr.dom a h
      · have sb := St.back (σ := σ) (ρ := ρ1) s6 (wipe_setAll hjs) k61
        refine ⟨Same.mut sb.ex b1, sb.len, fun j c hc => ?_, fun j a ha => ?_, sb.sep⟩
        · obtain ⟨u, h1, h2⟩ := sb.cells j c hc
          refine ⟨u, h1, h2.fr (Same.refl _) fun a ha => upd_ne fun z => ?_⟩
          split at ha
          · simp at ha
          · exact b3 j (z ▸ ha)
        · have ha' := sb.out j a ha
          have na : a ≠ D := fun z => by
            rw [z] at ha
            split at ha
            · simp at ha
            · exact b3 j ha
          rw [upd_ne na]
          exact ha'
      · intro j
        try dsimp only
        split
        · simp
        · exact b3 j
      · exact (DpAll_ex ((f4.ex.trans f5.ex).trans f6.ex |> fun q => y1.ex.trans q) g6).append (.cons o6 .nil)
    cases cond with
    | none =>
      refine yes_go ?_
      rw [if_pos rfl]
      exact fin F3 H3 fp4 _ Fr.refl s4 turn
    | some c =>
      show blkT X scope c (setAll (wipe σ vs) js xs) H3 _
      intro s0 H0 C cl fpx
      have turn' := turn
      refine turn s0 H0 C cl fpx F3 H3 _ fp4 _ s4 fun F5 H5 fp5 ρ5 b f5 s5 k5 => ?_
      cases b with
      | true =>
        refine iteT ?_
        exact fin F5 H5 fp5 ρ5 f5 s5 (k5.1 rfl)
      | false =>
        refine iteF ?_
        obtain ⟨k51, k52⟩ := k5.2 rfl
        obtain ⟨a1, a2, a3, _⟩ := f5.old D e1 (by rw [d2, g5]; simp) e3
        have fr : Fr F1 H1 fp1 F5 H5 fp5 [] := ((g1.trans y1).trans f4).trans f5
        refine ⟨F5, (fun j => if j ∈ vs then [] else fp5 j), acc, us, ⟨fr.ex, fun a h1 h2 h3 => ?_, fr.dom⟩, St.back (σ := σ) (ρ := ρ1) s5 (wipe_setAll hjs) k51, a1, ?_, by rw [a2, d2, g5], DpAll_ex (y1.ex.trans (f4.ex.trans f5.ex)) g6, k52, by omega⟩
        · have na : a ≠ D := fun z => h2 (z ▸ hD)
          obtain ⟨p1, p2, p3, _⟩ := fr.old a h1 h2 h3
          refine ⟨p1, p2, fun j => ?_, by simpa using na⟩
          split
          · simp
          · exact p3 j
        · intro j
          try dsimp only
          split
          · simp
          · exact a3 j
  · rintro H2 ⟨F2, fp2, acc, us, g1, g2, g3, g4, g5, g6, g7, g8⟩
    refine q F2 H2 fp2 _ (.ref D) (.new (.own D acc)) [D] (f1.trans g1) g2 ⟨⟨rfl, rfl, us, g5, g6⟩, fun a ha => ?_⟩ (hd acc D g7)
    obtain rfl : a = D := by simpa using ha
    exact ⟨g3, by rw [g5]; simp, g4⟩
end
end TW

namespace TW
open PySem PySem.Spec PyProof.Rows L2
/-! ## promises of defs -/
abbrev Spec := List Cell → (List Cell → Res → Prop) → Prop
def idc : Cell → Option Addr
  | .dat _ => none
  | .own p _ => some p
  | .pool p => some p
  | .ins p _ => some p
  | .lots p _ => some p
  | .dct p _ => some p
  | .pol p _ _ _ => some p
theorem cell_ref {K : PySem.W.Frag} {F H : Hp} {v : V} {c : Cell} {fp : List Addr} {p : Addr} (h : CellOk K F H v c fp) (e : idc c = some p) : v = .ref p := by
  cases c with
  | dat d => cases e
  | own q ds => cases e; exact h.1
  | pool q => cases e; exact h.1
  | ins q fs => cases e; exact h.1
  | lots q xs => cases e; exact h.1
  | dct q kvs => cases e; exact h.1
  | pol q a b ns => cases e; exact h.1
def isDat : Cell → Bool
  | .dat _ => true
  | _ => false
theorem idc_some {c : Cell} (h : isDat c = false) : ∃ p, idc c = some p := by
  cases c with
  | dat d => cases h
  | own q ds => exact ⟨q, rfl⟩
  | pool q => exact ⟨q, rfl⟩
  | ins q fs => exact ⟨q, rfl⟩
  | lots q xs => exact ⟨q, rfl⟩
  | dct q kvs => exact ⟨q, rfl⟩
  | pol q a b ns => exact ⟨q, rfl⟩
def BackOk : List Cell → En → Prop
  | [], _ => True
  | c :: cs, o :: ρ => (match c with
    | .dat _ => True
    | c => ∃ c', o = some c' ∧ idc c' = idc c) ∧ BackOk cs ρ
  | _ :: _, [] => False
def backE : List Cell → En → List Cell
  | c :: cs, o :: ρ => (match c, o with
    | .dat d, _ => .dat d
    | _, some c' => c'
    | c, none => c) :: backE cs ρ
  | cs, _ => cs
theorem back_len : ∀ (cs : List Cell) (ρ : En), (backE cs ρ).length = cs.length
  | [], _ => by cases ‹En› <;> rfl
  | c :: cs, [] => rfl
  | c :: cs, o :: ρ => by
    show (backE cs ρ).length + 1 = cs.length + 1
    rw [back_len cs ρ]
theorem back_get : ∀ {cs : List Cell} {ρ : En} {i : Nat} {c' : Cell}, BackOk cs ρ → (backE cs ρ)[i]? = some c' → ∃ c, cs[i]? = some c ∧ ((∃ d, c = .dat d ∧ c' = .dat d) ∨ (isDat c = false ∧ ρ[i]? = some (some c') ∧ idc c' = idc c))
  | [], ρ, i, c', _, h => by cases ρ <;> simp [backE] at h
  | c :: cs, [], i, c', b, _ => b.elim
  | c :: cs, o :: ρ, 0, c', b, h => by
    refine ⟨c, rfl, ?_⟩
    cases c with
    | dat d =>
      left
      exact ⟨d, rfl, by simpa [backE] using h.symm⟩
    | _ =>
      right
      obtain ⟨⟨c2, e1, e2⟩, _⟩ := b
      subst e1
      have e3 : c2 = c' := by simpa [backE] using h
      subst e3
      exact ⟨rfl, rfl, e2⟩
  | c :: cs, o :: ρ, i + 1, c', b, h => by
    have h' : (backE cs ρ)[i]? = some c' := by simpa [backE] using h
    obtain ⟨c0, h1, h2⟩ := back_get b.2 h'
    exact ⟨c0, by simpa using h1, by simpa using h2⟩
def spOf (K : PySem.W.Frag) (S : Spec) : Sp := fun vs H Q _ => ∃ F fp cs R, St K F H (vs.map some) (cs.map some) fp ∧ (∀ i, cs.length ≤ i → fp i = []) ∧ S cs R ∧
  ∀ F' H' fp' cs' v r fn, Fr F H fp F' H' fp' fn → St K F' H' (vs.map some) (cs'.map some) fp' → (∀ i, cs.length ≤ i → fp' i = []) → (∀ i, r ≠ .cel i) → ResOk K F' H' (vs.map some) fp' v r fn → R cs' r → Q v H'
/-- what a body's end owes -/
def endOf (cs : List Cell) (R : List Cell → Res → Prop) : Po where
  nx := fun ρ => BackOk cs ρ ∧ R (backE cs ρ) (.dat .none)
  rt := fun ρ r => BackOk cs ρ ∧ match r with
    | .dat d => R (backE cs ρ) (.dat d)
    | .new c => R (backE cs ρ) (.new c)
    | .cel i => cs.length ≤ i ∧ ∃ c, ρ[i]? = some (some c) ∧ R (backE cs ρ) (match c with
      | .dat d => .dat d
      | c => .new c)
section
variable {K : PySem.W.Frag} {F H F' H' : Hp} {vs : List V} {cs : List Cell} {fp fp' : Nat → List Addr} {σ' : L2.St} {ρ' : En}
/-- the arguments behind the body -/
theorem St.args (s : St K F H (vs.map some) (cs.map some) fp) (hz : ∀ i, cs.length ≤ i → fp i = []) {fn : List Addr} (f : Fr F H fp F' H' fp' fn) (s' : St K F' H' σ' ρ' fp') (b : BackOk cs ρ') :
    ∃ fq : Nat → List Addr, (∀ i a, a ∈ fq i → a ∈ fp' i) ∧ (∀ i, cs.length ≤ i → fq i = []) ∧ St K F' H' (vs.map some) ((backE cs ρ').map some) fq := by
  have hvl : vs.length = cs.length := by
    have := s.len
    simpa using this
  have get : ∀ i c, (backE cs ρ')[i]? = some c → ∃ v, vs[i]? = some v ∧ CellOk K F' H' v c (if isDat c = true then [] else fp' i) := by
    intro i c h
    obtain ⟨c0, h1, h2⟩ := back_get b h
    obtain ⟨v, e1, e2⟩ := s.cells i c0 (by rw [List.getElem?_map, h1]; rfl)
    have ev : vs[i]? = some v := by
      rw [List.getElem?_map] at e1
      cases q : vs[i]? with
      | none => rw [q] at e1; cases e1
      | some u => rw [q] at e1; cases e1; rfl
    refine ⟨v, ev, ?_⟩
    rcases h2 with ⟨d, rfl, rfl⟩ | ⟨g1, g2, g3⟩
    · exact ⟨Dp_ex f.ex e2.1, if_pos rfl⟩
    · obtain ⟨u, k1, k2⟩ := s'.cells i c g2
      obtain ⟨p, q⟩ := idc_some g1
      have ev2 := cell_ref e2 q
      have eu := cell_ref k2 (g3.trans q)
      have nd : isDat c = false := by
        cases c with
        | dat d =>
          rw [q] at g3
          cases g3
        | _ => rfl
      rw [nd, if_neg Bool.false_ne_true, ev2, ← eu]
      exact k2
  refine ⟨fun i => match (backE cs ρ')[i]? with
    | some c => if isDat c = true then [] else fp' i
    | none => [], fun i a ha => ?_, fun i hi => ?_, ⟨s'.ex, by simp [back_len, hvl], fun i c hc => ?_, fun i a ha => ?_, fun i j a h1 h2 => ?_⟩⟩
  · dsimp only at ha
    split at ha
    · split at ha
      · simp at ha
      · exact ha
    · simp at ha
  · dsimp only
    rw [List.getElem?_eq_none (by rw [back_len]; exact hi)]
  · rw [List.getElem?_map] at hc
    cases q : (backE cs ρ')[i]? with
    | none => rw [q] at hc; cases hc
    | some c2 =>
      rw [q] at hc
      cases hc
      obtain ⟨v, e1, e2⟩ := get i c q
      exact ⟨v, by rw [List.getElem?_map, e1]; rfl, e2⟩
  · try dsimp only at ha
    split at ha
    · split at ha
      · simp at ha
      · exact s'.out i a ha
    · simp at ha
  · try dsimp only at h1 h2
    split at h1
    · split at h1
      · simp at h1
      · split at h2
        · split at h2
          · simp at h2
          · exact s'.sep i j a h1 h2
        · simp at h2
    · simp at h1
end
/-! ## the caller's side -/
def derefs (ρ : En) : List Res → Option (List Cell)
  | [] => some []
  | .dat d :: rs => (derefs ρ rs).map (Cell.dat d :: ·)
  | .cel i :: rs => match ρ[i]? with
    | some (some c) => (derefs ρ rs).map (c :: ·)
    | _ => none
  | .new _ :: _ => none
def celIx : List Res → List Nat
  | [] => []
  | .cel i :: rs => i :: celIx rs
  | _ :: rs => celIx rs
def putB : En → List Res → List Cell → En
  | ρ, .cel i :: rs, c :: cs => putB (ρ.set i (some c)) rs cs
  | ρ, _ :: rs, _ :: cs => putB ρ rs cs
  | ρ, _, _ => ρ
theorem putB_len : ∀ {rs : List Res} {cs : List Cell} {ρ : En}, (putB ρ rs cs).length = ρ.length
  | [], _, _ => rfl
  | .cel i :: rs, [], _ => rfl
  | .dat d :: rs, [], _ => rfl
  | .new d :: rs, [], _ => rfl
  | .cel i :: rs, c :: cs, ρ => by
    show (putB (ρ.set i (some c)) rs cs).length = _
    rw [putB_len, List.length_set]
  | .dat i :: rs, c :: cs, ρ => by
    show (putB ρ rs cs).length = _
    rw [putB_len]
  | .new i :: rs, c :: cs, ρ => by
    show (putB ρ rs cs).length = _
    rw [putB_len]
/-- what stands behind a call in slot i: the caller's own, or the j-th argument's -/
theorem putB_get : ∀ {rs : List Res} {cs : List Cell} {ρ : En} {i : Nat} {c : Cell}, (celIx rs).Nodup → (putB ρ rs cs)[i]? = some (some c) → rs.length = cs.length →
    (i ∉ celIx rs ∧ ρ[i]? = some (some c)) ∨ ∃ j : Nat, rs[j]? = some (.cel i) ∧ cs[j]? = some c
  | [], _, ρ, i, c, _, h, _ => .inl ⟨by simp [celIx], h⟩
  | _ :: _, [], _, _, _, _, _, hl => by cases hl
  | .cel i0 :: rs, c0 :: cs, ρ, i, c, nd, h, hl => by
    have nd2 : i0 ∉ celIx rs ∧ (celIx rs).Nodup := List.nodup_cons.mp nd
    have h' : (putB (ρ.set i0 (some c0)) rs cs)[i]? = some (some c) := h
    rcases putB_get nd2.2 h' (by simpa using hl) with ⟨n, e⟩ | ⟨j, e1, e2⟩
    · by_cases m : i0 = i
      · subst m
        right
        rw [List.getElem?_set] at e
        rw [if_pos rfl] at e
        split at e
        · cases e
          exact ⟨0, rfl, rfl⟩
        · cases e
      · rw [List.getElem?_set_ne m] at e
        exact .inl ⟨fun z => (List.mem_cons.mp z).elim (fun z => m z.symm) n, e⟩
    · exact .inr ⟨j + 1, by simpa using e1, by simpa using e2⟩
  | .dat d :: rs, c0 :: cs, ρ, i, c, nd, h, hl => by
    rcases putB_get (rs := rs) (cs := cs) (ρ := ρ) nd h (by simpa using hl) with ⟨n, e⟩ | ⟨j, e1, e2⟩
    · exact .inl ⟨n, e⟩
    · exact .inr ⟨j + 1, by simpa using e1, by simpa using e2⟩
  | .new d :: rs, c0 :: cs, ρ, i, c, nd, h, hl => by
    rcases putB_get (rs := rs) (cs := cs) (ρ := ρ) nd h (by simpa using hl) with ⟨n, e⟩ | ⟨j, e1, e2⟩
    · exact .inl ⟨n, e⟩
    · exact .inr ⟨j + 1, by simpa using e1, by simpa using e2⟩
theorem celIx_mem : ∀ {rs : List Res} {i : Nat}, i ∈ celIx rs ↔ ∃ j : Nat, rs[j]? = some (.cel i)
  | [], i => by simp [celIx]
  | .cel i0 :: rs, i => by
    show i ∈ i0 :: celIx rs ↔ _
    rw [List.mem_cons, celIx_mem]
    constructor
    · rintro (e | ⟨j, e⟩)
      · exact ⟨0, by rw [e]; rfl⟩
      · exact ⟨j + 1, by simpa using e⟩
    · rintro ⟨j, e⟩
      cases j with
      | zero =>
        left
        simp at e
        exact e.symm
      | succ j => exact .inr ⟨j, by simpa using e⟩
  | .dat d :: rs, i => by
    show i ∈ celIx rs ↔ _
    rw [celIx_mem]
    constructor
    · rintro ⟨j, e⟩
      exact ⟨j + 1, by simpa using e⟩
    · rintro ⟨j, e⟩
      cases j with
      | zero => simp at e
      | succ j => exact ⟨j, by simpa using e⟩
  | .new d :: rs, i => by
    show i ∈ celIx rs ↔ _
    rw [celIx_mem]
    constructor
    · rintro ⟨j, e⟩
      exact ⟨j + 1, by simpa using e⟩
    · rintro ⟨j, e⟩
      cases j with
      | zero => simp at e
      | succ j => exact ⟨j, by simpa using e⟩
theorem celIx_one : ∀ {rs : List Res} {i j j' : Nat}, (celIx rs).Nodup → rs[j]? = some (.cel i) → rs[j']? = some (.cel i) → j = j'
  | r :: rs, i, 0, 0, _, _, _ => rfl
  | r :: rs, i, 0, j' + 1, nd, h1, h2 => by
    have e : r = .cel i := by simpa using h1
    subst e
    have nd2 : i ∉ celIx rs ∧ (celIx rs).Nodup := List.nodup_cons.mp nd
    exact absurd (celIx_mem.mpr ⟨j', by simpa using h2⟩) nd2.1
  | r :: rs, i, j + 1, 0, nd, h1, h2 => by
    have e : r = .cel i := by simpa using h2
    subst e
    have nd2 : i ∉ celIx rs ∧ (celIx rs).Nodup := List.nodup_cons.mp nd
    exact absurd (celIx_mem.mpr ⟨j, by simpa using h1⟩) nd2.1
  | r :: rs, i, j + 1, j' + 1, nd, h1, h2 => by
    have nd2 : (celIx rs).Nodup := by
      cases r with
      | cel k => exact (List.nodup_cons.mp nd).2
      | dat d => exact nd
      | new d => exact nd
    exact congrArg (· + 1) (celIx_one (rs := rs) (i := i) (j := j) (j' := j') nd2 (by simpa using h1) (by simpa using h2))
section
variable {K : PySem.W.Frag} {F H : Hp} {σ : L2.St} {ρ : En} {fp : Nat → List Addr}
/-- the footprints of the arguments -/
def argF (fp : Nat → List Addr) (rs : List Res) : Nat → List Addr := fun j => match rs[j]? with
  | some (.cel i) => fp i
  | _ => []
theorem args_at (s : St K F H σ ρ fp) : ∀ {vs : List V} {rs : List Res} {cs : List Cell}, ArgsOk K F σ vs rs → derefs ρ rs = some cs → vs.length = cs.length ∧ rs.length = cs.length ∧ ∀ (j : Nat) (c : Cell), cs[j]? = some c → ∃ v, vs[j]? = some v ∧ CellOk K F H v c (argF fp rs j)
  | _, _, cs, .nil, e => by
    cases (Option.some.inj e)
    exact ⟨rfl, rfl, fun j c h => by simp at h⟩
  | _, _, cs, .dat (d := d) (rs := rs) (v := v) (vs := vs) h t, e => by
    cases q : derefs ρ rs with
    | none =>
      simp only [derefs, q] at e
      cases e
    | some ds =>
      simp only [derefs, q] at e
      cases (Option.some.inj e)
      obtain ⟨l1, l2, k⟩ := args_at s t q
      refine ⟨by rw [List.length_cons, List.length_cons, l1], by rw [List.length_cons, List.length_cons, l2], fun j c hc => ?_⟩
      cases j with
      | zero =>
        cases (Option.some.inj hc)
        exact ⟨v, rfl, h, rfl⟩
      | succ j =>
        obtain ⟨u, k1, k2⟩ := k j c (by simpa using hc)
        exact ⟨u, by simpa using k1, by simpa [argF] using k2⟩
  | _, _, cs, .cel (i := i) (rs := rs) (v := v) (vs := vs) h t, e => by
    cases qi : ρ[i]? with
    | none =>
      simp only [derefs, qi] at e
      cases e
    | some o =>
      cases o with
      | none =>
        simp only [derefs, qi] at e
        cases e
      | some c0 =>
        cases q : derefs ρ rs with
        | none =>
          simp only [derefs, qi, q] at e
          cases e
        | some ds =>
          simp only [derefs, qi, q] at e
          cases (Option.some.inj e)
          obtain ⟨l1, l2, k⟩ := args_at s t q
          refine ⟨by rw [List.length_cons, List.length_cons, l1], by rw [List.length_cons, List.length_cons, l2], fun j c hc => ?_⟩
          cases j with
          | zero =>
            cases (Option.some.inj hc)
            obtain ⟨u, g1, g2⟩ := s.cells i c0 qi
            rw [h] at g1
            cases g1
            exact ⟨v, rfl, g2⟩
          | succ j =>
            obtain ⟨u, k1, k2⟩ := k j c (by simpa using hc)
            exact ⟨u, by simpa using k1, by simpa [argF] using k2⟩
/-- a promise, as a caller meets it -/
theorem call_go {S : Spec} {vs : List V} {rs : List Res} {cs : List Cell} {kk : En → Res → Prop} {Q : VK} {E : XK} (s : St K F H σ ρ fp) (a : ArgsOk K F σ vs rs) (hd : derefs ρ rs = some cs) (nd : (celIx rs).Nodup) (hS : S cs fun cs' r => kk (putB ρ rs cs') r)
    (q : ∀ F' H' fp' ρ' v r fn, Fr F H fp F' H' fp' fn → St K F' H' σ ρ' fp' → ResOk K F' H' σ fp' v r fn → kk ρ' r → Q v H') : spOf K S vs H Q E := by
  obtain ⟨l1, l2, hc⟩ := args_at s a hd
  have sub : ∀ j x, x ∈ argF fp rs j → ∃ i, rs[j]? = some (.cel i) ∧ x ∈ fp i := by
    intro j x hx
    unfold argF at hx
    split at hx
    · rename_i i e
      exact ⟨i, e, hx⟩
    · simp at hx
  have s1 : St K F H (vs.map some) (cs.map some) (argF fp rs) := by
    refine ⟨s.ex, by simp [l1], fun j c h => ?_, fun j x hx => ?_, fun j j' x h1 h2 => ?_⟩
    · rw [List.getElem?_map] at h
      cases e : cs[j]? with
      | none => rw [e] at h; cases h
      | some c2 =>
        rw [e] at h
        cases h
        obtain ⟨v, g1, g2⟩ := hc j c e
        exact ⟨v, by rw [List.getElem?_map, g1]; rfl, g2⟩
    · obtain ⟨i, _, hx⟩ := sub j x hx
      exact s.out i x hx
    · obtain ⟨i, e1, h1⟩ := sub j x h1
      obtain ⟨i', e2, h2⟩ := sub j' x h2
      have := s.sep i i' x h1 h2
      subst this
      exact celIx_one nd e1 e2
  refine ⟨F, argF fp rs, cs, _, s1, fun j hj => ?_, hS, fun F' H' fp' cs' v r fn f s2 hz hr ro k => ?_⟩
  · unfold argF
    rw [List.getElem?_eq_none (by rw [l2]; exact hj)]
  have l3 : vs.length = cs'.length := by
    have := s2.len
    simpa using this
  have cs_at : ∀ (j : Nat) (c : Cell), cs'[j]? = some c → ∃ v, vs[j]? = some v ∧ CellOk K F' H' v c (fp' j) := fun j c h => by
    obtain ⟨v, g1, g2⟩ := s2.cells j c (by rw [List.getElem?_map, h]; rfl)
    rw [List.getElem?_map] at g1
    cases e : vs[j]? with
    | none => rw [e] at g1; cases g1
    | some u =>
      rw [e] at g1
      have eu : u = v := by simpa using g1
      exact ⟨u, rfl, by rw [eu]; exact g2⟩
  have v_at : ∀ (j i : Nat) (v : V), rs[j]? = some (.cel i) → vs[j]? = some v → σ[i]? = some (some v) := by
    clear k ro hr hz f s2 l3 cs_at hS q s1 hd nd hc l1 l2 sub
    induction a with
    | nil => intro j i v h; simp at h
    | dat h t ih =>
      intro j i v h1 h2
      cases j with
      | zero => simp at h1
      | succ j => exact ih j i v (by simpa using h1) (by simpa using h2)
    | cel h t ih =>
      intro j i v h1 h2
      cases j with
      | zero =>
        simp at h1 h2
        subst h1 h2
        exact h
      | succ j => exact ih j i v (by simpa using h1) (by simpa using h2)
  -- the slots' places behind the call
  let fq : Nat → List Addr := fun i => match rs.findIdx? (fun r => match r with | .cel i' => i' == i | _ => false) with
    | some j => fp' j
    | none => fp i
  have fq_in : ∀ i j, rs[j]? = some (.cel i) → fq i = fp' j := by
    intro i j h
    show (match rs.findIdx? _ with | some j => fp' j | none => fp i) = fp' j
    cases e : rs.findIdx? (fun r => match r with | .cel i' => i' == i | _ => false) with
    | none =>
      rw [List.findIdx?_eq_none_iff] at e
      have := e (.cel i) (List.mem_of_getElem? h)
      simp at this
    | some j2 =>
      have h2 := (List.findIdx?_eq_some_iff_getElem.mp e)
      obtain ⟨hj, hp, _⟩ := h2
      have e2 : rs[j2]? = some (.cel i) := by
        rw [List.getElem?_eq_getElem hj]
        cases e3 : rs[j2] with
        | cel i' =>
          rw [e3] at hp
          simp at hp
          rw [hp]
        | dat d => rw [e3] at hp; simp at hp
        | new d => rw [e3] at hp; simp at hp
      rw [celIx_one nd h e2]
  have fq_out : ∀ i, i ∉ celIx rs → fq i = fp i := by
    intro i h
    show (match rs.findIdx? _ with | some j => fp' j | none => fp i) = fp i
    cases e : rs.findIdx? (fun r => match r with | .cel i' => i' == i | _ => false) with
    | none => rfl
    | some j2 =>
      obtain ⟨hj, hp, _⟩ := (List.findIdx?_eq_some_iff_getElem.mp e)
      refine absurd (celIx_mem.mpr ⟨j2, ?_⟩) h
      rw [List.getElem?_eq_getElem hj]
      cases e3 : rs[j2] with
      | cel i' =>
        rw [e3] at hp
        simp at hp
        rw [hp]
      | dat d => rw [e3] at hp; simp at hp
      | new d => rw [e3] at hp; simp at hp
  have fq_sub : ∀ i x, x ∈ fq i → (i ∉ celIx rs ∧ x ∈ fp i) ∨ ∃ j, rs[j]? = some (.cel i) ∧ x ∈ fp' j := by
    intro i x hx
    by_cases h : i ∈ celIx rs
    · obtain ⟨j, e⟩ := celIx_mem.mp h
      rw [fq_in i j e] at hx
      exact .inr ⟨j, e, hx⟩
    · rw [fq_out i h] at hx
      exact .inl ⟨h, hx⟩
  have keep : ∀ i x, i ∉ celIx rs → x ∈ fp i → F' x = none ∧ H' x = H x ∧ (∀ j, x ∉ fp' j) ∧ x ∉ fn := fun i x hi hx => f.old x (s.out i x hx).1 (s.out i x hx).2 fun j hj => by
    obtain ⟨i', e, hx'⟩ := sub j x hj
    have := s.sep i i' x hx hx'
    subst this
    exact hi (celIx_mem.mpr ⟨j, e⟩)
  have notin : ∀ x, (∀ i, x ∉ fp i) → ∀ j, x ∉ argF fp rs j := fun x h j hj => by
    obtain ⟨i, _, hx⟩ := sub j x hj
    exact h i hx
  refine q F' H' fq (putB ρ rs cs') v r fn ⟨f.ex, fun x h1 h2 h3 => ?_, f.dom⟩ ⟨s2.ex, by rw [putB_len, s.len], fun i c h => ?_, fun i x hx => ?_, fun i i' x h1 h2 => ?_⟩ ?_ k
  · obtain ⟨p1, p2, p3, p4⟩ := f.old x h1 h2 (notin x h3)
    refine ⟨p1, p2, fun i hx => ?_, p4⟩
    rcases fq_sub i x hx with ⟨_, hx⟩ | ⟨j, _, hx⟩
    · exact h3 i hx
    · exact p3 j hx
  · rcases putB_get nd h (by rw [l2, ← l3, l1]) with ⟨n, e⟩ | ⟨j, e1, e2⟩
    · obtain ⟨u, g1, g2⟩ := s.cells i c e
      refine ⟨u, g1, ?_⟩
      rw [fq_out i n]
      exact g2.fr f.ex fun x hx => (keep i x n hx).2.1
    · obtain ⟨u, g1, g2⟩ := cs_at j c e2
      refine ⟨u, v_at j i u e1 g1, ?_⟩
      rw [fq_in i j e1]
      exact g2
  · rcases fq_sub i x hx with ⟨n, hx⟩ | ⟨j, _, hx⟩
    · obtain ⟨p1, p2, _⟩ := keep i x n hx
      exact ⟨p1, by rw [p2]; exact (s.out i x hx).2⟩
    · exact s2.out j x hx
  · rcases fq_sub i x h1 with ⟨n1, h1⟩ | ⟨j1, e1, h1⟩
    · rcases fq_sub i' x h2 with ⟨n2, h2⟩ | ⟨j2, e2, h2⟩
      · exact s.sep i i' x h1 h2
      · exact absurd h2 ((keep i x n1 h1).2.2.1 j2)
    · rcases fq_sub i' x h2 with ⟨n2, h2⟩ | ⟨j2, e2, h2⟩
      · exact absurd h1 ((keep i' x n2 h2).2.2.1 j1)
      · have := s2.sep j1 j2 x h1 h2
        subst this
        rw [e1] at e2
        cases e2
        rfl
  · cases r with
    | dat d => exact ro
    | new c =>
      refine ⟨ro.1, fun x hx => ⟨(ro.2 x hx).1, (ro.2 x hx).2.1, fun i hi => ?_⟩⟩
      rcases fq_sub i x hi with ⟨n, h⟩ | ⟨j, _, h⟩
      · exact (keep i x n h).2.2.2 hx
      · exact (ro.2 x hx).2.2 j h
    | cel i => exact absurd rfl (hr i)
end
section
variable {X : Cx} {e : Expr} {es : List Expr} {ρ : En} {k : En → Res → Prop} {pos : Pos}
/-- what a call asks -/
abbrev CallK (S : Spec) (k : En → Res → Prop) : En → List Res → Prop := fun ρ1 rs => ∃ cs, derefs ρ1 rs = some cs ∧ (celIx rs).Nodup ∧ S cs fun cs' r => k (putB ρ1 rs cs') r
theorem je_call {x : Str} {p : Pos} {n : Nat} {f : Addr} {fd : FuncData} {ps : List Str} {S : Spec} (G : FnOk X.prog X.w X.K X.mg X.base CX0 n f fd ps (spOf X.K S)) (hr : Room n X.A) (hm : X.mg x = some (.ref f)) (hk : PySem.W.keepIn X.K (.ref f) = true) (hb : Binds X.K fd ps [])
    (h : JA X (e :: es) ρ (CallK S k)) (hg : Gl X x) (hd : (x == ("__debug__" : Str)) = false) (he : starEach (e :: es) X.env = (false, eval e X.env) :: starEach es X.env) (hpl : (backTo pos (starEach es X.env)).any (·.1) = false) : JE X (.Call (.Name x p) (e :: es) [] pos) ρ k := by
  intro F H σ fp Q s q
  refine ofE (pe_call G hr hg hm hk hb .nil pass0 meA hd he hpl) ?_
  refine h F H σ fp _ s fun F1 H1 fp1 ρ1 vs rs f1 s1 o1 k1 => ?_
  obtain ⟨cs, h1, h2, h3⟩ := k1
  show spOf X.K S (vs ++ []) H1 Q E0
  rw [List.append_nil]
  exact call_go s1 o1 h1 h2 h3 fun F2 H2 fp2 ρ2 v r fn f2 s2 r2 k2 => q F2 H2 fp2 ρ2 v r fn (f1.trans f2) s2 r2 k2
end
section
variable {P : Program} {w : World} {K : PySem.W.Frag} {mg : Str → Option Value} {base : Heap}
/-- a def keeps its promise -/
theorem def_ok {x qual : Str} {st : Stmt} {f : Addr} {fd : FuncData} {N ps : List Str} {k : Nat} {S : Spec} (G : Fun K x qual st f fd) (Sc : FnScope N ps (defScope st)) (hps : ps.length ≤ N.length) (hl : ∀ cs R, S cs R → cs.length = ps.length)
    (body : ∀ (cdv : Value) (A : Around) (outer : List Env) (s : Shared) (H : Hp) (E : XK) (cs : List Cell) (R : List Cell → Res → Prop), Room k (A.deeper (envOfC qual (defScope st) s.heap.objs.size f cdv)) → S cs R →
      JSs (cxOf CX0 P w K mg base N qual (defScope st) f cdv A outer s H E).nox (defBody st) (cs.map some ++ List.replicate (N.length - ps.length) none) (endOf cs R)) : FnOk P w K mg base CX0 (k + 1) f fd ps (spOf K S) := by
  refine G.ok Sc (fun vs H Q E h => ?_) (fun cdv A outer s H vs Q E hr h => ?_)
  · obtain ⟨F, fp, cs, R, s1, _, hS, _⟩ := h
    have e := s1.len
    rw [List.length_map, List.length_map] at e
    rw [e, hl cs R hS]
  · obtain ⟨F, fp, cs, R, s1, hz, hS, hQ⟩ := h
    have e := s1.len
    rw [List.length_map, List.length_map] at e
    have el := hl cs R hS
    refine ⟨_, meSs, ?_⟩
    have s0 : St K F H (L2.start N vs) (cs.map some ++ List.replicate (N.length - ps.length) none) fp := by
      refine ⟨s1.ex, ?_, fun i c hc => ?_, s1.out, s1.sep⟩
      · unfold L2.start
        simp [e, el]
      · rw [List.getElem?_append] at hc
        split at hc
        · rename_i hi
          obtain ⟨v, h1, h2⟩ := s1.cells i c hc
          refine ⟨v, ?_, h2⟩
          unfold L2.start
          rw [List.getElem?_append_left (by rw [List.length_map, e]; simpa using hi)]
          exact h1
        · rw [List.getElem?_replicate] at hc
          split at hc <;> cases hc
    refine body cdv A outer s H E cs R hr hS F H _ fp _ s0 ⟨?_, ?_, fun _ _ _ _ _ _ _ z => z.elim, fun _ _ _ _ _ _ _ z => z.elim⟩
    · rintro F' H' σ' fp' ρ' f1 s2 ⟨b, hR⟩
      obtain ⟨fq, q1, q2, q3⟩ := St.args s1 hz f1 s2 b
      refine hQ F' H' fq _ .non (.dat .none) [] ⟨f1.ex, fun a h1 h2 h3 => ?_, f1.dom⟩ q3 q2 (fun i z => by cases z) ⟨.non, rfl⟩ hR
      obtain ⟨k1, k2, k3, k4⟩ := f1.old a h1 h2 h3
      exact ⟨k1, k2, fun i z => k3 i (q1 i a z), by simp⟩
    · rintro F' H' σ' fp' ρ' v r fn f1 s2 ro ⟨b, hR⟩
      obtain ⟨fq, q1, q2, q3⟩ := St.args s1 hz f1 s2 b
      have fr : Fr F H fp F' H' fq fn := ⟨f1.ex, fun a h1 h2 h3 => by
        obtain ⟨k1, k2, k3, k4⟩ := f1.old a h1 h2 h3
        exact ⟨k1, k2, fun i z => k3 i (q1 i a z), k4⟩, f1.dom⟩
      cases r with
      | dat d => exact hQ F' H' fq _ v (.dat d) fn fr q3 q2 (fun i z => by cases z) ro hR
      | new c => exact hQ F' H' fq _ v (.new c) fn fr q3 q2 (fun i z => by cases z) ⟨ro.1, fun a ha => ⟨(ro.2 a ha).1, (ro.2 a ha).2.1, fun i z => (ro.2 a ha).2.2 i (q1 i a z)⟩⟩ hR
      | cel i =>
        obtain ⟨hi, c, hc, hR⟩ := hR
        obtain ⟨u, g1, g2⟩ := s2.cells i c hc
        have eu : u = v := by
          have := ro.1
          rw [g1] at this
          cases this
          rfl
        subst eu
        have fr2 : Fr F H fp F' H' fq (fp' i) := ⟨f1.ex, fun a h1 h2 h3 => by
          obtain ⟨k1, k2, k3, k4⟩ := f1.old a h1 h2 h3
          exact ⟨k1, k2, fun i z => k3 i (q1 i a z), k3 i⟩, f1.dom⟩
        have nq : ∀ a ∈ fp' i, F' a = none ∧ H' a ≠ none ∧ ∀ j, a ∉ fq j := fun a ha => ⟨(s2.out i a ha).1, (s2.out i a ha).2, fun j z => by
          have ej := s2.sep i j a ha (q1 j a z)
          subst ej
          rw [q2 i hi] at z
          simp at z⟩
        cases c with
        | dat d => exact hQ F' H' fq _ u (.dat d) (fp' i) fr2 q3 q2 (fun i z => by cases z) g2 hR
        | _ => exact hQ F' H' fq _ u (.new _) (fp' i) fr2 q3 q2 (fun i z => by cases z) ⟨g2, nq⟩ hR
end
end TW

namespace TW
open PySem PySem.Spec PyProof.Rows L2
section
variable {X : Cx} {tg iter elt : Expr} {e a b c o : Expr} {es : List Expr} {st : Stmt} {sts : List Stmt} {ρ : En} {E : Po} {k : En → Res → Prop} {pos : Pos}
/-! ## comprehensions -/
theorem tgok_name {scope : Scope} (j : Nat) (h : ∀ (s : Shared) (H : Hp) (C : Addr) (cl : List (Str × Addr)) (fp : List Addr), PG (blk X s H scope C cl fp) tg (gName j)) : TgOk X scope tg [j] := by
  intro K v d ds σ F H Q hK e hd td q s H0 C cl fp
  cases td
  exact ofG (h s H0 C cl fp) (q [v] (.cons hd .nil))
theorem tgok_two {scope : Scope} (i j : Nat) (h : ∀ (s : Shared) (H : Hp) (C : Addr) (cl : List (Str × Addr)) (fp : List Addr), PG (blk X s H scope C cl fp) tg (gTup X.K 2 (gCons (gName i) (gCons (gName j) gNil)))) : TgOk X scope tg [i, j] := by
  intro K v d ds σ F H Q hK e hd td q s H0 C cl fp
  subst hK
  cases td with
  | two _ _ d1 d2 =>
    obtain ⟨p, vs, e1, h1, h2⟩ := hd.tupE
    cases h2 with
    | cons g1 t =>
      cases t with
      | cons g2 t =>
        cases t
        exact ofG (h s H0 C cl fp) ⟨p, _, e1, Same.seqT e h1, rfl, _, _, rfl, _, _, rfl, rfl, q _ (.cons g1 (.cons g2 .nil))⟩
theorem je_lc {scope : Scope} {own : List (Str × Nat)} (js : List Nat) (cond : Option Expr) (h : JI X tg iter ρ (LcAsk X scope cond elt (own.map (·.2)) js k)) (hjs : ∀ j ∈ js, j ∈ own.map (·.2)) (hjn : js.Nodup) (ht : TgOk X scope tg js)
    (hc : X.calm = true) (hN : X.N.Nodup) (ok : BlkOk X.N X.env.scope scope own) (hs : ∀ x, foldedSetIterable iter X.env x = pure x) : JE X (.ListComp elt [⟨tg, iter, condL cond, 0⟩] scope pos) ρ k := by
  intro F H σ fp Q s q
  exact ofE (pe_lc hc hN meI ok meBG meBC meBE hs) (lc_go hjs hjn ht h s q)
theorem je_lc0 {scope : Scope} (own : List (Str × Nat)) (js : List Nat) (h : JI X tg iter ρ (LcAsk X scope none elt (own.map (·.2)) js k)) (hjs : ∀ j ∈ js, j ∈ own.map (·.2)) (hjn : js.Nodup) (ht : TgOk X scope tg js)
    (hc : X.calm = true) (hN : X.N.Nodup) (ok : BlkOk X.N X.env.scope scope own) (hs : ∀ x, foldedSetIterable iter X.env x = pure x) : JE X (.ListComp elt [⟨tg, iter, [], 0⟩] scope pos) ρ k := je_lc js none h hjs hjn ht hc hN ok hs
theorem je_lc1 {scope : Scope} (own : List (Str × Nat)) (js : List Nat) (h : JI X tg iter ρ (LcAsk X scope (some c) elt (own.map (·.2)) js k)) (hjs : ∀ j ∈ js, j ∈ own.map (·.2)) (hjn : js.Nodup) (ht : TgOk X scope tg js)
    (hc : X.calm = true) (hN : X.N.Nodup) (ok : BlkOk X.N X.env.scope scope own) (hs : ∀ x, foldedSetIterable iter X.env x = pure x) : JE X (.ListComp elt [⟨tg, iter, [c], 0⟩] scope pos) ρ k := je_lc js (some c) h hjs hjn ht hc hN ok hs
theorem js_setLc {scope : Scope} {own : List (Str × Nat)} (i : Nat) {y : Str} {py spos : Pos} (js : List Nat) (cond : Option Expr) (h : JI X tg iter ρ (LcAsk X scope cond elt (own.map (·.2)) js (asN fun ρ1 c => i < ρ1.length ∧ E.nx (ρ1.set i (some c))))) (hjs : ∀ j ∈ js, j ∈ own.map (·.2)) (hjn : js.Nodup) (ht : TgOk X scope tg js)
    (hc : X.calm = true) (hN : X.N.Nodup) (hy : X.N[i]? = some y) (hyl : X.env.scope.names.lookup y = some .local) (ok : BlkOk X.N X.env.scope scope own) (hs : ∀ x, foldedSetIterable iter X.env x = pure x)
    (hsw : swapsWith (.ListComp elt [⟨tg, iter, condL cond, 0⟩] scope pos) (some (.Name y py)) spos.line X.env = pure true) : JS X (.Assign [.Name y py] (.ListComp elt [⟨tg, iter, condL cond, 0⟩] scope pos) spos) ρ E := by
  intro F H σ fp D s o
  refine ofS (ps_setLc (i := i) hc hN hy hyl hsw meI ok meBG meBC meBE hs) ?_
  refine lc_go hjs hjn ht h s fun F1 H1 fp1 ρ1 v r fn f1 s1 r1 k1 => ?_
  cases r with
  | dat d =>
    obtain ⟨g1, g2⟩ := ResOk.cell (c := .dat d) r1 rfl
    exact o.nx F1 H1 _ (upF fp1 i fn) _ (Fr.setRes (fn2 := []) (by rw [List.append_nil]; exact f1)) (s1.setRes k1.1 g1 g2) k1.2
  | new c =>
    obtain ⟨g1, g2⟩ := ResOk.cell (c := c) r1 rfl
    exact o.nx F1 H1 _ (upF fp1 i fn) _ (Fr.setRes (fn2 := []) (by rw [List.append_nil]; exact f1)) (s1.setRes k1.1 g1 g2) k1.2
  | cel j => exact False.elim k1
theorem js_setLc0 {scope : Scope} (own : List (Str × Nat)) (i : Nat) {y : Str} {py spos : Pos} (js : List Nat) (h : JI X tg iter ρ (LcAsk X scope none elt (own.map (·.2)) js (asN fun ρ1 c => i < ρ1.length ∧ E.nx (ρ1.set i (some c))))) (hjs : ∀ j ∈ js, j ∈ own.map (·.2)) (hjn : js.Nodup) (ht : TgOk X scope tg js)
    (hc : X.calm = true) (hN : X.N.Nodup) (hy : X.N[i]? = some y) (hyl : X.env.scope.names.lookup y = some .local) (ok : BlkOk X.N X.env.scope scope own) (hs : ∀ x, foldedSetIterable iter X.env x = pure x)
    (hsw : swapsWith (.ListComp elt [⟨tg, iter, [], 0⟩] scope pos) (some (.Name y py)) spos.line X.env = pure true) : JS X (.Assign [.Name y py] (.ListComp elt [⟨tg, iter, [], 0⟩] scope pos) spos) ρ E := js_setLc i js none h hjs hjn ht hc hN hy hyl ok hs hsw
theorem js_setLc1 {scope : Scope} (own : List (Str × Nat)) (i : Nat) {y : Str} {py spos : Pos} (js : List Nat) (h : JI X tg iter ρ (LcAsk X scope (some c) elt (own.map (·.2)) js (asN fun ρ1 c => i < ρ1.length ∧ E.nx (ρ1.set i (some c))))) (hjs : ∀ j ∈ js, j ∈ own.map (·.2)) (hjn : js.Nodup) (ht : TgOk X scope tg js)
    (hc : X.calm = true) (hN : X.N.Nodup) (hy : X.N[i]? = some y) (hyl : X.env.scope.names.lookup y = some .local) (ok : BlkOk X.N X.env.scope scope own) (hs : ∀ x, foldedSetIterable iter X.env x = pure x)
    (hsw : swapsWith (.ListComp elt [⟨tg, iter, [c], 0⟩] scope pos) (some (.Name y py)) spos.line X.env = pure true) : JS X (.Assign [.Name y py] (.ListComp elt [⟨tg, iter, [c], 0⟩] scope pos) spos) ρ E := js_setLc i js (some c) h hjs hjn ht hc hN hy hyl ok hs hsw

/-! ## a slot's own list is changed -/
theorem own_at {K : PySem.W.Frag} {F H : Hp} {σ : L2.St} {fp : Nat → List Addr} {i : Nat} {p : Addr} {ds : List PyData} (s : St K F H σ ρ fp) (h : ρ[i]? = some (some (.own p ds))) : ∃ vs, σ[i]? = some (some (.ref p)) ∧ fp i = [p] ∧ H p = some (.lst vs) ∧ DpAll K F vs ds := by
  obtain ⟨v, h1, e1, e2, vs, h2, h3⟩ := s.cells i _ h
  subst e1
  exact ⟨vs, h1, e2, h2, h3⟩
theorem own_put {K : PySem.W.Frag} {F H : Hp} {σ : L2.St} {fp : Nat → List Addr} {i : Nat} {p : Addr} {ds ds' : List PyData} {vs' : List V} (s : St K F H σ ρ fp) (h : ρ[i]? = some (some (.own p ds))) (h' : DpAll K F vs' ds') :
    Fr F H fp F (upd H p (.lst vs')) fp [] ∧ St K F (upd H p (.lst vs')) σ (ρ.set i (some (.own p ds'))) fp := by
  obtain ⟨vs, h1, e2, h2, h3⟩ := own_at s h
  refine s.change h h1 (fun a ha => upd_ne fun z => ha (by rw [e2, z]; simp)) (fun a ha => ?_) ⟨rfl, e2, vs', upd_same, h'⟩
  rw [e2] at ha
  obtain rfl : a = p := by simpa using ha
  rw [upd_same]
  simp
/-- xs.append(e), xs in slot i -/
theorem js_append (i : Nat) {x : Str} {p2 apos cpos : Pos} {p0 : Addr} {ds0 : List PyData} (hρ : ρ[i]? = some (some (.own p0 ds0))) (h : JE X e ρ (asD fun ρ1 d => ∃ p ds, ρ1[i]? = some (some (.own p ds)) ∧ ds.length < 100000 ∧ E.nx (ρ1.set i (some (.own p (ds ++ [d]))))))
    (hN : X.N[i]? = some x) (hv : Vis X.env.scope x) (hd : (x == ("__debug__" : Str)) = false) (hcd : (x == ("__classdict__" : Str)) = false)
    (hbase : attributeBase (.Name x p2) "append" X.env (eval (.Name x p2) X.env) = eval (.Name x p2) X.env)
    (hfew : ((backTo cpos (starEach (e :: []) X.env)).all (fun x => !x.1) && (backToKw cpos (keywordEach [] X.env)).all (fun x => x.1.isSome) && decide ((e :: []).length + ([] : List Keyword).length + (if ([] : List Keyword).isEmpty then 0 else 1) < 30)) = true)
    (hline : (apos.endLine == cpos.line) = true) (hs : starEach (e :: []) X.env = (false, eval e X.env) :: starEach [] X.env) (hplain : (backTo cpos (starEach [] X.env)).any (·.1) = false)
    (hsw : swapsWith (.Call (.Attribute (.Name x p2) "append" apos) [e] [] cpos) none pos.line X.env = pure false) : JS X (.Expr (.Call (.Attribute (.Name x p2) "append" apos) [e] [] cpos) pos) ρ E := by
  intro F H σ fp D s o
  refine ofS (ps_expr (pe_bm PySem.F.plainAttrs_list PySem.F.slot_list_append PySem.F.type_list_append mt_append (pe_var hN hv hd hcd) (pa_cons meE pa_nil hs) hbase hfew hline hs hplain) hsw) ?_
  obtain ⟨us, g1, g2, g3, g4⟩ := own_at s hρ
  refine ⟨_, g1, .inl ⟨rfl, _, SqL.of g3⟩, ?_⟩
  refine h.dat s fun F1 H1 fp1 ρ1 v d f1 s1 o1 k1 => ?_
  obtain ⟨p, ds, e1, hz, k2⟩ := k1
  obtain ⟨vs, q1, q2, q3, q4⟩ := own_at s1 e1
  have ep : p = p0 := by
    rw [g1] at q1
    cases q1
    rfl
  subst ep
  obtain ⟨a1, a2⟩ := own_put (ds' := ds ++ [d]) s1 e1 (q4.append (.cons o1 .nil))
  exact ⟨p, vs, v, rfl, rfl, q3, Nat.lt_of_lt_of_le (show vs.length < 100000 by rw [q4.length]; exact hz) (by decide), o.nx _ _ _ fp1 _ (f1.trans a1) a2 k2⟩
/-- xs.extend(t), t a tuple -/
theorem js_extend (i : Nat) {x : Str} {p2 apos cpos : Pos} {p0 : Addr} {ds0 : List PyData} (hρ : ρ[i]? = some (some (.own p0 ds0))) (h : JE X e ρ (asD fun ρ1 d => ∃ p ds es, d = .tuple es ∧ ρ1[i]? = some (some (.own p ds)) ∧ ds.length + es.length ≤ 100000 ∧ E.nx (ρ1.set i (some (.own p (ds ++ es))))))
    (hN : X.N[i]? = some x) (hv : Vis X.env.scope x) (hd : (x == ("__debug__" : Str)) = false) (hcd : (x == ("__classdict__" : Str)) = false)
    (hbase : attributeBase (.Name x p2) "extend" X.env (eval (.Name x p2) X.env) = eval (.Name x p2) X.env)
    (hfew : ((backTo cpos (starEach (e :: []) X.env)).all (fun x => !x.1) && (backToKw cpos (keywordEach [] X.env)).all (fun x => x.1.isSome) && decide ((e :: []).length + ([] : List Keyword).length + (if ([] : List Keyword).isEmpty then 0 else 1) < 30)) = true)
    (hline : (apos.endLine == cpos.line) = true) (hs : starEach (e :: []) X.env = (false, eval e X.env) :: starEach [] X.env) (hplain : (backTo cpos (starEach [] X.env)).any (·.1) = false)
    (hsw : swapsWith (.Call (.Attribute (.Name x p2) "extend" apos) [e] [] cpos) none pos.line X.env = pure false) : JS X (.Expr (.Call (.Attribute (.Name x p2) "extend" apos) [e] [] cpos) pos) ρ E := by
  intro F H σ fp D s o
  refine ofS (ps_expr (pe_bm PySem.F.plainAttrs_list PySem.F.slot_list_extend PySem.F.type_list_extend mt_extendT (pe_var hN hv hd hcd) (pa_cons meE pa_nil hs) hbase hfew hline hs hplain) hsw) ?_
  obtain ⟨us, g1, g2, g3, g4⟩ := own_at s hρ
  refine ⟨_, g1, .inl ⟨rfl, _, SqL.of g3⟩, ?_⟩
  refine h.dat s fun F1 H1 fp1 ρ1 v d f1 s1 o1 k1 => ?_
  obtain ⟨p, ds, es, rfl, e1, hz, k2⟩ := k1
  obtain ⟨vs, q1, q2, q3, q4⟩ := own_at s1 e1
  have ep : p = p0 := by
    rw [g1] at q1
    cases q1
    rfl
  subst ep
  obtain ⟨t, ws, rfl, h1, h2⟩ := o1.tupE
  obtain ⟨a1, a2⟩ := own_put (ds' := ds ++ es) s1 e1 (q4.append h2)
  exact ⟨p, t, vs, ws, rfl, rfl, q3, Same.seqT s1.ex h1, small_line (by rw [q4.length, h2.length]; exact hz), o.nx _ _ _ fp1 _ (f1.trans a1) a2 k2⟩
/-- xs.pop(e), xs in slot i -/
theorem je_pop (i : Nat) {x : Str} {p2 apos : Pos} {p0 : Addr} {ds0 : List PyData} (hρ : ρ[i]? = some (some (.own p0 ds0))) (h : JE X e ρ (asD fun ρ1 d => ∃ (p : Addr) (ds : List PyData) (j : Nat) (y : PyData), d = .int j ∧ ρ1[i]? = some (some (.own p ds)) ∧ j < 100000 ∧ ds[j]? = some y ∧ k (ρ1.set i (some (.own p (ds.eraseIdx j)))) (.dat y)))
    (hN : X.N[i]? = some x) (hv : Vis X.env.scope x) (hd : (x == ("__debug__" : Str)) = false) (hcd : (x == ("__classdict__" : Str)) = false)
    (hbase : attributeBase (.Name x p2) "pop" X.env (eval (.Name x p2) X.env) = eval (.Name x p2) X.env)
    (hfew : ((backTo pos (starEach (e :: []) X.env)).all (fun x => !x.1) && (backToKw pos (keywordEach [] X.env)).all (fun x => x.1.isSome) && decide ((e :: []).length + ([] : List Keyword).length + (if ([] : List Keyword).isEmpty then 0 else 1) < 30)) = true)
    (hline : (apos.endLine == pos.line) = true) (hs : starEach (e :: []) X.env = (false, eval e X.env) :: starEach [] X.env) (hplain : (backTo pos (starEach [] X.env)).any (·.1) = false) : JE X (.Call (.Attribute (.Name x p2) "pop" apos) [e] [] pos) ρ k := by
  intro F H σ fp Q s q
  refine ofE (pe_bm PySem.F.plainAttrs_list PySem.F.slot_list_pop PySem.F.type_list_pop mt_popAt (pe_var hN hv hd hcd) (pa_cons meE pa_nil hs) hbase hfew hline hs hplain) ?_
  obtain ⟨us, g1, g2, g3, g4⟩ := own_at s hρ
  refine ⟨_, g1, .inl ⟨rfl, _, SqL.of g3⟩, ?_⟩
  refine h.dat s fun F1 H1 fp1 ρ1 v d f1 s1 o1 k1 => ?_
  obtain ⟨p, ds, j, y, rfl, e1, hz, hy, k2⟩ := k1
  obtain ⟨vs, q1, q2, q3, q4⟩ := own_at s1 e1
  have ep : p = p0 := by
    rw [g1] at q1
    cases q1
    rfl
  subst ep
  cases o1.intE
  obtain ⟨u, r1, r2⟩ := q4.get hy
  have hj : j < vs.length := (List.getElem?_eq_some_iff.mp r1).1
  obtain ⟨a1, a2⟩ := own_put (ds' := ds.eraseIdx j) s1 e1 (q4.erase j)
  refine ⟨p, vs, (j : Int), j, u, rfl, rfl, q3, by omega, by omega, ?_, r1, q _ _ fp1 _ u (.dat y) [] (f1.trans a1) a2 ⟨r2, rfl⟩ k2⟩
  have z := seqIndex_of (k := (j : Int)) (n := vs.length) (by omega) (by omega)
  rw [z, Int.toNat_natCast]
/-- xs[i] = e -/
theorem js_setitem (i : Nat) {x : Str} {p2 tpos : Pos} (h : JE X e ρ (asD fun ρ1 d => ∃ p0 ds0, ρ1[i]? = some (some (.own p0 ds0)) ∧ JE X b ρ1 (asD fun ρ2 d2 => ∃ (p : Addr) (ds : List PyData) (j : Nat), d2 = .int j ∧ ρ2[i]? = some (some (.own p ds)) ∧ j < ds.length ∧ E.nx (ρ2.set i (some (.own p (ds.set j d)))))))
    (hN : X.N[i]? = some x) (hv : Vis X.env.scope x) (hd : (x == ("__debug__" : Str)) = false) (hcd : (x == ("__classdict__" : Str)) = false)
    (ha : ∀ v, assign (.Subscript (.Name x p2) b tpos) X.env v = (do
      let ov ← holding [v] (eval (.Name x p2) X.env)
      let iv ← holding [v, ov] (eval b X.env)
      standAt tpos
      holding [v, ov, iv] (setItem ov iv v)
      release [v, ov, iv] []))
    (hs : swapsWithSole [.Subscript (.Name x p2) b tpos] e pos.line X.env = pure false) (hw : swappedStores [.Subscript (.Name x p2) b tpos] e X.env = pure none) (h1 : (assignEach [.Subscript (.Name x p2) b tpos] X.env).map (·.2) = [assign (.Subscript (.Name x p2) b tpos) X.env]) :
    JS X (.Assign [.Subscript (.Name x p2) b tpos] e pos) ρ E := by
  intro F H σ fp D s o
  refine ofS (ps_asg meE (pg_sub (pe_var hN hv hd hcd) meE set_list ha) hs hw h1) ?_
  refine h.dat s fun F1 H1 fp1 ρ1 v d f1 s1 o1 k1 => ?_
  obtain ⟨p0, ds0, hρ, k1⟩ := k1
  obtain ⟨us, g1, g2, g3, g4⟩ := own_at s1 hρ
  refine ⟨_, g1, ?_⟩
  refine JE.dat k1 s1 fun F2 H2 fp2 ρ2 v2 d2 f2 s2 o2 k2 => ?_
  obtain ⟨p, ds, j, rfl, e1, hj, k3⟩ := k2
  obtain ⟨vs, q1, q2, q3, q4⟩ := own_at s2 e1
  have ep : p = p0 := by
    rw [g1] at q1
    cases q1
    rfl
  subst ep
  obtain ⟨a1, a2⟩ := own_put (ds' := ds.set j d) s2 e1 (q4.set (Dp_ex f2.ex o1) j)
  refine ⟨p, vs, (j : Int), j, rfl, o2.intE, q3, ?_, o.nx _ _ _ fp2 _ ((f1.trans f2).trans a1) a2 k3⟩
  unfold ixN
  rw [if_pos (by omega), if_pos (by rw [q4.length]; omega), Int.toNat_natCast]
/-- a slot's list is frozen for good -/
theorem jss_freeze (i : Nat) {p : Addr} {ds : List PyData} (hρ : ρ[i]? = some (some (.own p ds))) (h : JSs X sts (ρ.set i (some (.dat (.list ds)))) E) : JSs X sts ρ E := by
  intro F H σ fp D s o
  obtain ⟨F', fp', f, s'⟩ := s.frozen hρ
  exact h F' H σ fp' D s' (o.after f)

/-! ## an instance's fields -/
theorem ins_at {K : PySem.W.Frag} {F H : Hp} {σ : L2.St} {fp : Nat → List Addr} {i : Nat} {p : Addr} {fs : List (Str × PyData)} (s : St K F H σ ρ fp) (h : ρ[i]? = some (some (.ins p fs))) :
    ∃ (dx : Addr) (gs : List (Str × V)), σ[i]? = some (some (.ref p)) ∧ fp i = [p, dx] ∧ p ≠ dx ∧ H p = some (.ins (engC K) dx gs) ∧ H dx = some (.own p) ∧ FsOk K F gs fs := by
  obtain ⟨v, h1, e1, dx, gs, e2, h2⟩ := s.cells i _ h
  subst e1
  exact ⟨dx, gs, h1, e2, h2⟩
def putD (f : Str) (d : PyData) : List (Str × PyData) → List (Str × PyData)
  | [] => [(f, d)]
  | (g, e) :: fs => if g = f then (g, d) :: fs else (g, e) :: putD f d fs
theorem FsOk.lookup {K : PySem.W.Frag} {F : Hp} {f : Str} {d : PyData} : ∀ {gs : List (Str × V)} {fs : List (Str × PyData)}, FsOk K F gs fs → fs.lookup f = some d → ∃ v, gs.lookup f = some v ∧ Dp K F v d
  | [], [], _, h => by simp at h
  | (g, v) :: gs, (g', e) :: fs, ⟨e1, h1, h2⟩, h => by
    subst e1
    rw [List.lookup_cons] at h ⊢
    cases q : f == g with
    | true =>
      rw [q] at h
      cases h
      exact ⟨v, rfl, h1⟩
    | false =>
      rw [q] at h
      exact FsOk.lookup h2 h
theorem FsOk.nolookup {K : PySem.W.Frag} {F : Hp} {f : Str} : ∀ {gs : List (Str × V)} {fs : List (Str × PyData)}, FsOk K F gs fs → fs.lookup f = none → gs.lookup f = none
  | [], [], _, _ => rfl
  | (g, v) :: gs, (g', e) :: fs, ⟨e1, h1, h2⟩, h => by
    subst e1
    rw [List.lookup_cons] at h ⊢
    cases q : f == g with
    | true =>
      rw [q] at h
      cases h
    | false =>
      rw [q] at h
      exact FsOk.nolookup h2 h
theorem FsOk.put {K : PySem.W.Frag} {F : Hp} {f : Str} {d : PyData} {v : V} (hv : Dp K F v d) : ∀ {gs : List (Str × V)} {fs : List (Str × PyData)}, FsOk K F gs fs → FsOk K F (putF f v gs) (putD f d fs)
  | [], [], _ => ⟨rfl, hv, trivial⟩
  | (g, u) :: gs, (g', e) :: fs, ⟨e1, h1, h2⟩ => by
    subst e1
    show FsOk K F (if g = f then (g, v) :: gs else (g, u) :: putF f v gs) (if g = f then (g, d) :: fs else (g, e) :: putD f d fs)
    by_cases q : g = f
    · rw [if_pos q, if_pos q]
      exact ⟨rfl, hv, h2⟩
    · rw [if_neg q, if_neg q]
      exact ⟨rfl, h1, FsOk.put hv h2⟩
theorem FsOk.len {K : PySem.W.Frag} {F : Hp} : ∀ {gs : List (Str × V)} {fs : List (Str × PyData)}, FsOk K F gs fs → gs.length = fs.length
  | [], [], _ => rfl
  | (g, v) :: gs, (g', e) :: fs, ⟨_, _, h⟩ => by rw [List.length_cons, List.length_cons, FsOk.len h]
/-- o.f, o in slot i -/
theorem je_attr (i : Nat) {x : Str} {p2 : Pos} {f : Str} {p : Addr} {fs : List (Str × PyData)} {d : PyData} (cl : Cls X.K (engC X.K)) (na : NoAttr X.K (engC X.K) f) (hρ : ρ[i]? = some (some (.ins p fs))) (hf : fs.lookup f = some d) (k0 : k ρ (.dat d))
    (hN : X.N[i]? = some x) (hv : Vis X.env.scope x) (hd : (x == ("__debug__" : Str)) = false) (hcd : (x == ("__classdict__" : Str)) = false)
    (hb : attributeBase (.Name x p2) f X.env (eval (.Name x p2) X.env) = eval (.Name x p2) X.env) : JE X (.Attribute (.Name x p2) f pos) ρ k := by
  intro F H σ fp Q s q
  refine ofE (pe_fld (pe_var hN hv hd hcd) hb) ?_
  obtain ⟨dx, gs, g1, g2, g3, g4, g5, g6⟩ := ins_at s hρ
  obtain ⟨v, l1, l2⟩ := g6.lookup hf
  exact ⟨_, g1, p, _, dx, gs, v, rfl, g4, cl, na, l1, q F H fp ρ v (.dat d) [] Fr.refl s ⟨l2, rfl⟩ k0⟩
/-- o.f = e, o in slot i -/
theorem js_attr (i : Nat) {x : Str} {p2 pos' : Pos} {f : Str} (cl : Cls X.K (engC X.K)) (na : NoAttr X.K (engC X.K) f) (h : JE X e ρ (asD fun ρ1 d => ∃ p fs, ρ1[i]? = some (some (.ins p fs)) ∧ fs.length < 100 ∧ E.nx (ρ1.set i (some (.ins p (putD f d fs))))))
    (hN : X.N[i]? = some x) (hv : Vis X.env.scope x) (hd : (x == ("__debug__" : Str)) = false) (hcd : (x == ("__classdict__" : Str)) = false)
    (hs : swapsWith e (some (.Attribute (.Name x p2) f pos')) pos.line X.env = pure false) : JS X (.Assign [.Attribute (.Name x p2) f pos'] e pos) ρ E := by
  intro F H σ fp D s o
  refine ofS (ps_fld (pe_var hN hv hd hcd) meE hs) ?_
  refine h.dat s fun F1 H1 fp1 ρ1 v d f1 s1 o1 k1 => ?_
  obtain ⟨p, fs, e1, hz, k2⟩ := k1
  obtain ⟨dx, gs, g1, g2, g3, g4, g5, g6⟩ := ins_at s1 e1
  have hn : ∀ a, a ∉ fp1 i → a ≠ p := fun a ha z => ha (by rw [g2, z]; simp)
  obtain ⟨a1, a2⟩ := s1.change (H' := upd H1 p (.ins (engC X.K) dx (putF f v gs))) (c' := .ins p (putD f d fs)) e1 g1 (fun a ha => upd_ne (hn a ha)) (fun a ha => by
    by_cases z : a = p
    · rw [z, upd_same]
      simp
    · rw [upd_ne z]
      exact (s1.out i a ha).2) ⟨rfl, dx, _, g2, g3, upd_same, by rw [upd_ne (Ne.symm g3)]; exact g5, g6.put o1⟩
  exact ⟨_, g1, p, _, dx, gs, rfl, g4, cl, na, by rw [g6.len]; omega, o.nx _ _ _ fp1 _ (f1.trans a1) a2 k2⟩

/-! ## operators by name -/
abbrev AddK (K : PySem.W.Frag) (d1 d2 : PyData) (kk : Res → Prop) : Prop := match d1, d2 with
  | .int i, .int j => kk (.dat (.int (i + j)))
  | .tuple xs, .tuple ys => xs.length + ys.length ≤ 100000 ∧ kk (.dat (.tuple (xs ++ ys)))
  | _, _ => False
theorem je_add (h : JE X a ρ (asD fun ρ1 d1 => JE X b ρ1 (asD fun ρ2 d2 => AddK X.K d1 d2 (k ρ2)))) : JE X (.BinOp a .Add b pos) ρ k := by
  refine je_bin (op_add.or op_catA) (h.mono fun ρ1 r k1 => ?_)
  have go : ∀ d1, JE X b ρ1 (asD fun ρ2 d2 => AddK X.K d1 d2 (k ρ2)) → JE X b ρ1 (asD fun ρ2 d2 => Bin X.K (fun x y H Q => rI0 (fun i j => V.int (i + j)) x y H Q ∨ rCatA X.K x y H Q) d1 d2 (k ρ2)) := fun d1 z => z.mono fun ρ2 r2 k2 => by
    have fin : ∀ d2, AddK X.K d1 d2 (k ρ2) → Bin X.K (fun x y H Q => rI0 (fun i j => V.int (i + j)) x y H Q ∨ rCatA X.K x y H Q) d1 d2 (k ρ2) := fun d2 k3 => by
      cases d1 with
      | int i =>
        cases d2 with
        | int j => exact fun F H σ ρ fp v1 v2 Q s h1 h2 q => .inl (bin_I0 (g := fun i j => i + j) k3 F H σ ρ fp v1 v2 Q s h1 h2 q)
        | _ => exact False.elim k3
      | tuple xs =>
        cases d2 with
        | tuple ys => exact fun F H σ ρ fp v1 v2 Q s h1 h2 q => .inr (bin_catT k3.1 k3.2 F H σ ρ fp v1 v2 Q s h1 h2 q)
        | _ => exact False.elim k3
      | _ => exact False.elim k3
    cases r2 with
    | dat d2 => exact fin d2 k2
    | new c =>
      cases c with
      | own p ds => exact fin (.list ds) k2
      | _ => exact k2
    | cel i => exact k2
  cases r with
  | dat d1 => exact go d1 k1
  | new c =>
    cases c with
    | own p ds => exact go (.list ds) k1
    | _ => exact k1
  | cel i => exact k1
end
end TW

namespace TW
open PySem PySem.Spec PyProof.Rows L2
section
variable {X : Cx} {e a b c o : Expr} {es : List Expr} {st : Stmt} {sts : List Stmt} {ρ : En} {E : Po} {k : En → Res → Prop} {pos : Pos}
/-! ## methods, makers -/
theorem je_meth (i : Nat) {x m : Str} {p2 apos : Pos} {p : Addr} {fs : List (Str × PyData)} {pl : Sem Bool} {n : Nat} {f : Addr} {fd : FuncData} {ps : List Str} {S : Spec} (cl : Cls X.K (engC X.K)) (hm : Meth X.K (engC X.K) m f) (G : FnOk X.prog X.w X.K X.mg X.base CX0 n f fd ps (spOf X.K S)) (hr : Room n X.A) (hb : Binds X.K fd ps [])
    (hρ : ρ[i]? = some (some (.ins p fs))) (hf : fs.lookup m = none) (h : JA X (e :: es) ρ fun ρ1 rs => CallK S k ρ1 (.cel i :: rs))
    (hN : X.N[i]? = some x) (hv : Vis X.env.scope x) (hd : (x == ("__debug__" : Str)) = false) (hcd : (x == ("__classdict__" : Str)) = false)
    (hst : starEach (e :: es) X.env = (false, eval e X.env) :: starEach es X.env) (hpl : (backTo pos (starEach es X.env)).any (·.1) = false)
    (ht : eval (.Call (.Attribute (.Name x p2) m apos) (e :: es) [] pos) X.env = (do
      let ov ← eval (.Name x p2) X.env
      standAt apos.atName
      let (f, first) ← holding [ov] (getMethod ov m pl)
      callWith pos f first (backTo pos (starEach (e :: es) X.env)) (backToKw pos (keywordEach [] X.env)))) : JE X (.Call (.Attribute (.Name x p2) m apos) (e :: es) [] pos) ρ k := by
  intro F H σ fp Q s q
  refine ofE (pe_meth (pe_var hN hv hd hcd) cl hm G hr hb .nil pass0 meA hst hpl ht) ?_
  obtain ⟨dx, gs, g1, g2, g3, g4, g5, g6⟩ := ins_at s hρ
  refine ⟨_, g1, p, dx, gs, rfl, g4, g6.nolookup hf, ?_⟩
  refine h F H σ fp _ s fun F1 H1 fp1 ρ1 vs rs f1 s1 o1 k1 => ?_
  obtain ⟨cs, h1, h2, h3⟩ := k1
  show spOf X.K S (V.ref p :: (vs ++ [])) H1 Q E0
  rw [List.append_nil]
  exact call_go s1 (.cel g1 o1) h1 h2 h3 fun F2 H2 fp2 ρ2 v r fn f2 s2 r2 k2 => q F2 H2 fp2 ρ2 v r fn (f1.trans f2) s2 r2 k2
theorem je_meth0 (i : Nat) {x m : Str} {p2 apos : Pos} {p : Addr} {fs : List (Str × PyData)} {pl : Sem Bool} {n : Nat} {f : Addr} {fd : FuncData} {ps : List Str} {S : Spec} (cl : Cls X.K (engC X.K)) (hm : Meth X.K (engC X.K) m f) (G : FnOk X.prog X.w X.K X.mg X.base CX0 n f fd ps (spOf X.K S)) (hr : Room n X.A) (hb : Binds X.K fd ps [])
    (hρ : ρ[i]? = some (some (.ins p fs))) (hf : fs.lookup m = none) (h : CallK S k ρ [.cel i])
    (hN : X.N[i]? = some x) (hv : Vis X.env.scope x) (hd : (x == ("__debug__" : Str)) = false) (hcd : (x == ("__classdict__" : Str)) = false)
    (ht : eval (.Call (.Attribute (.Name x p2) m apos) [] [] pos) X.env = (do
      let ov ← eval (.Name x p2) X.env
      standAt apos.atName
      let (f, first) ← holding [ov] (getMethod ov m pl)
      callWith pos f first (backTo pos (starEach [] X.env)) (backToKw pos (keywordEach [] X.env)))) : JE X (.Call (.Attribute (.Name x p2) m apos) [] [] pos) ρ k := by
  intro F H σ fp Q s q
  refine ofE (pe_meth0 (pe_var hN hv hd hcd) cl hm G hr hb .nil pass0 ht) ?_
  obtain ⟨dx, gs, g1, g2, g3, g4, g5, g6⟩ := ins_at s hρ
  refine ⟨_, g1, p, dx, gs, rfl, g4, g6.nolookup hf, ?_⟩
  obtain ⟨cs, h1, h2, h3⟩ := h
  show spOf X.K S [V.ref p] H Q E0
  exact call_go s (.cel g1 .nil) h1 h2 h3 fun F2 H2 fp2 ρ2 v r fn f2 s2 r2 k2 => q F2 H2 fp2 ρ2 v r fn f2 s2 r2 k2
/-- what a maker asks: the arguments data -/
abbrev MakeK (S : Spec) (k : En → Res → Prop) : En → List Res → Prop := fun ρ1 rs => ∃ ds, datsOf rs = some ds ∧ ∀ p, S (.ins p [] :: ds.map Cell.dat) fun cs' r => ∃ fs, cs' = .ins p fs :: ds.map Cell.dat ∧ r = .dat .none ∧ k ρ1 (.new (.ins p fs))
theorem cells_dat {K : PySem.W.Frag} {F H : Hp} {vs : List V} {ds : List PyData} (h : DpAll K F vs ds) : ∀ {j : Nat} {c : Cell}, (ds.map Cell.dat)[j]? = some c → ∃ v, vs[j]? = some v ∧ CellOk K F H v c [] := by
  intro j c hc
  rw [List.getElem?_map] at hc
  cases q : ds[j]? with
  | none => rw [q] at hc; cases hc
  | some d =>
    rw [q] at hc
    cases hc
    obtain ⟨v, h1, h2⟩ := h.get q
    exact ⟨v, h1, h2, rfl⟩
theorem je_make {x : Str} {p : Pos} {n : Nat} {f : Addr} {fd : FuncData} {ps : List Str} {S : Spec} (M : Mk X.K (engC X.K) f) (G : FnOk X.prog X.w X.K X.mg X.base CX0 n f fd ps (spOf X.K S)) (hr : Room (n + 1) X.A) (hm : X.mg x = some (.ref (engC X.K))) (hb : Binds X.K fd ps [])
    (h : JA X (e :: es) ρ (MakeK S k)) (hg : Gl X x) (hd : (x == ("__debug__" : Str)) = false) (he : starEach (e :: es) X.env = (false, eval e X.env) :: starEach es X.env) (hpl : (backTo pos (starEach es X.env)).any (·.1) = false) : JE X (.Call (.Name x p) (e :: es) [] pos) ρ k := by
  intro F H σ fp Q s q
  refine ofE (pe_make M G hr hg hm hb .nil pass0 meA hd he hpl) ?_
  refine h F H σ fp _ s fun F1 H1 fp1 ρ1 vs rs f1 s1 o1 k1 => ?_
  intro x dx hx hdx ne
  obtain ⟨ds, e1, hS⟩ := k1
  have ha := dats_at o1 e1
  obtain ⟨x1, x2⟩ := s1.fresh hx
  obtain ⟨d1, d2⟩ := s1.fresh hdx
  rw [List.append_nil]
  have sx : Same F1 (upd (upd H1 dx (.own x)) x (.ins (engC X.K) dx [])) := Same.mut (Same.mut s1.ex d1) x1
  have nH : ∀ y, H1 y ≠ none → (upd (upd H1 dx (.own x)) x (.ins (engC X.K) dx [])) y = H1 y := fun y hy => by
    have n1 : y ≠ x := fun z => hy (by rw [z]; exact hx)
    have n2 : y ≠ dx := fun z => hy (by rw [z]; exact hdx)
    rw [upd_ne n1, upd_ne n2]
  have s2 : St X.K F1 (upd (upd H1 dx (.own x)) x (.ins (engC X.K) dx [])) ((V.ref x :: vs).map some) ((Cell.ins x [] :: ds.map Cell.dat).map some) (fun j => if j = 0 then [x, dx] else []) := by
    refine ⟨sx, by simp [ha.length], fun j c hc => ?_, fun j y hy => ?_, fun j j' y h1 h2 => ?_⟩
    · cases j with
      | zero =>
        have ec : c = .ins x [] := by simpa using hc.symm
        subst ec
        refine ⟨.ref x, rfl, rfl, dx, [], if_pos rfl, Ne.symm ne, upd_same, by rw [upd_ne ne, upd_same], trivial⟩
      | succ j =>
        have hc' : (ds.map Cell.dat)[j]? = some c := by
          rw [List.getElem?_map, List.getElem?_cons_succ] at hc
          cases z : (ds.map Cell.dat)[j]? with
          | none => rw [z] at hc; cases hc
          | some u => rw [z] at hc; cases hc; rfl
        obtain ⟨v, g1, g2⟩ := cells_dat (H := upd (upd H1 dx (.own x)) x (.ins (engC X.K) dx [])) ha hc'
        exact ⟨v, by rw [List.getElem?_map, List.getElem?_cons_succ, g1]; rfl, by rw [if_neg (Nat.succ_ne_zero j)]; exact g2⟩
    · try dsimp only at hy
      split at hy
      · have : y = x ∨ y = dx := by simpa using hy
        rcases this with z | z
        · rw [z]
          exact ⟨x1, by rw [upd_same]; simp⟩
        · rw [z]
          exact ⟨d1, by rw [upd_ne ne, upd_same]; simp⟩
      · simp at hy
    · try dsimp only at h1 h2
      split at h1
      · split at h2
        · rename_i z1 z2
          rw [z1, z2]
        · simp at h2
      · simp at h1
  refine ⟨F1, _, _, _, s2, fun j hj => if_neg (fun z => by subst z; simp at hj), hS x, fun F' H' fp' cs' v r fn f2 s3 hz hrr ro hR => ?_⟩
  obtain ⟨fs, rfl, rfl, k2⟩ := hR
  obtain ⟨ro1, ro2⟩ := ro
  subst ro2
  refine ⟨Dp.nonE ro1, ?_⟩
  obtain ⟨u, g1, g2⟩ := s3.cells 0 _ rfl
  have keep : ∀ y, F1 y = none → H1 y ≠ none → F' y = none ∧ H' y = H1 y ∧ (∀ i, y ∉ fp' i) := fun y h1 h2 => by
    have nx : y ≠ x := fun z => h2 (by rw [z]; exact hx)
    have nd : y ≠ dx := fun z => h2 (by rw [z]; exact hdx)
    obtain ⟨p1, p2, p3, _⟩ := f2.old y h1 (by rw [nH y h2]; exact h2) fun j hj => by
      try dsimp only at hj
      split at hj
      · have : y = x ∨ y = dx := by simpa using hj
        rcases this with z | z
        · exact nx z
        · exact nd z
      · simp at hj
    exact ⟨p1, p2.trans (nH y h2), p3⟩
  have s4 : St X.K F' H' σ ρ1 fp1 := by
    refine ⟨s3.ex, s1.len, fun j c hc => ?_, fun j y hy => ?_, s1.sep⟩
    · obtain ⟨w, h1, h2⟩ := s1.cells j c hc
      exact ⟨w, h1, h2.fr f2.ex fun y hy => (keep y (s1.out j y hy).1 (s1.out j y hy).2).2.1⟩
    · obtain ⟨p1, p2, _⟩ := keep y (s1.out j y hy).1 (s1.out j y hy).2
      exact ⟨p1, by rw [p2]; exact (s1.out j y hy).2⟩
  refine q F' H' fp1 ρ1 (.ref x) (.new (.ins x fs)) (fp' 0) (f1.trans ⟨f2.ex, fun y h1 h2 h3 => ?_, fun y h => f2.dom y (by rw [nH y h]; exact h)⟩) s4 ⟨?_, fun y hy => ⟨(s3.out 0 y hy).1, (s3.out 0 y hy).2, fun i hi => (keep y (s1.out i y hi).1 (s1.out i y hi).2).2.2 0 hy⟩⟩ k2
  · obtain ⟨p1, p2, p3⟩ := keep y h1 h2
    exact ⟨p1, p2, h3, p3 0⟩
  · have eu := g2.1
    rw [← eu]
    exact g2
/-- C.m(..), m a staticmethod of the class C -/
theorem pe_static {x m : Str} {p2 apos : Pos} {C q g : Addr} {mc : Value} {rest : List Value} {pl : Sem Bool} {n : Nat} {fd : FuncData} {ps : List Str} {sp : Sp} {t : TA} (hg : Gl X x) (hm : X.mg x = some (.ref C)) (hdb : (x == ("__debug__" : Str)) = false)
    (r : ClX.CRead X.K C mc) (e1 : PySem.W.findCls X.K (.ref C) mc m = some (.get (.builtin "staticmethod.__get__") (.ref q) .none (.ref C))) (hp : PySem.W.recIn X.K q "staticmethod" = some (.ref g :: rest)) (hk : PySem.W.keepIn X.K (.ref g) = true)
    (G : FnOk X.prog X.w X.K X.mg X.base CX0 n g fd ps sp) (hr : Room n X.A) (hb : Binds X.K fd ps []) (ha : PA X (e :: es) t)
    (hst : starEach (e :: es) X.env = (false, eval e X.env) :: starEach es X.env) (hpl : (backTo pos (starEach es X.env)).any (·.1) = false)
    (ht : eval (.Call (.Attribute (.Name x p2) m apos) (e :: es) [] pos) X.env = (do
      let ov ← eval (.Name x p2) X.env
      standAt apos.atName
      let (f, first) ← holding [ov] (getMethod ov m pl)
      callWith pos f first (backTo pos (starEach (e :: es) X.env)) (backToKw pos (keywordEach [] X.env)))) :
    PE X (.Call (.Attribute (.Name x p2) m apos) (e :: es) [] pos) (tCall sp [] E0 t) := by
  refine ⟨fun pins s σ H Q I h => ?_⟩
  refine PySem.W.methodCall_KW (pl := pl) (ld_glob I hg hm ?_ hdb) ht
  refine PySem.W.method_cls I.kIn r.ga ?_
  refine PySem.W.cls_bind I.kIn r.rd e1 (wpAny_call (PySem.W.sm_get (s := { s with toks := s.toks + 1 }) I.kIn hp (PySem.W.handed_on rfl ?_)))
  have I1 : Inv X pins σ H { s with toks := s.toks + 1 } := I.tok _
  refine PySem.W.callWith_K (first := []) (h₀ := X.base) I.ok.mod.kin hk (thn (ha.run pos pins _ σ H _ I1 h) fun us s2 ⟨vs, H2, I2, rv, q2⟩ => ⟨I2.kIn, ?_⟩) hst hpl
  exact run_fn (us := us) (vs := vs) G hr hb .nil pass0 I2 rv q2
theorem je_static {x m : Str} {p2 apos : Pos} {q g : Addr} {mc : Value} {rest : List Value} {pl : Sem Bool} {n : Nat} {fd : FuncData} {ps : List Str} {S : Spec} (hm : X.mg x = some (.ref (engC X.K)))
    (r : ClX.CRead X.K (engC X.K) mc) (e1 : PySem.W.findCls X.K (.ref (engC X.K)) mc m = some (.get (.builtin "staticmethod.__get__") (.ref q) .none (.ref (engC X.K)))) (hp : PySem.W.recIn X.K q "staticmethod" = some (.ref g :: rest)) (hk : PySem.W.keepIn X.K (.ref g) = true)
    (G : FnOk X.prog X.w X.K X.mg X.base CX0 n g fd ps (spOf X.K S)) (hr : Room n X.A) (hb : Binds X.K fd ps []) (h : JA X (e :: es) ρ (CallK S k)) (hg : Gl X x) (hdb : (x == ("__debug__" : Str)) = false)
    (hst : starEach (e :: es) X.env = (false, eval e X.env) :: starEach es X.env) (hpl : (backTo pos (starEach es X.env)).any (·.1) = false)
    (ht : eval (.Call (.Attribute (.Name x p2) m apos) (e :: es) [] pos) X.env = (do
      let ov ← eval (.Name x p2) X.env
      standAt apos.atName
      let (f, first) ← holding [ov] (getMethod ov m pl)
      callWith pos f first (backTo pos (starEach (e :: es) X.env)) (backToKw pos (keywordEach [] X.env)))) : JE X (.Call (.Attribute (.Name x p2) m apos) (e :: es) [] pos) ρ k := by
  intro F H σ fp Q s qq
  refine ofE (pe_static hg hm hdb r e1 hp hk G hr hb meA hst hpl ht) ?_
  refine h F H σ fp _ s fun F1 H1 fp1 ρ1 vs rs f1 s1 o1 k1 => ?_
  obtain ⟨cs, h1, h2, h3⟩ := k1
  show spOf X.K S (vs ++ []) H1 Q E0
  rw [List.append_nil]
  exact call_go s1 o1 h1 h2 h3 fun F2 H2 fp2 ρ2 v r fn f2 s2 r2 k2 => qq F2 H2 fp2 ρ2 v r fn (f1.trans f2) s2 r2 k2
/-- try: body, whose body raises nothing -/
theorem js_try {h0 : ExceptHandler} {hs : List ExceptHandler} (h : JSs X.nox sts ρ E) : JS X (.Try sts (h0 :: hs) [] [] pos) ρ E := by
  intro F H σ fp D s o
  exact ofS (ps_try_thru0 (meSs (X := X.nox))) (h F H σ fp D s o)

/-! ## operators -/
theorem asD_mono {k k' : En → PyData → Prop} (hk : ∀ ρ d, k ρ d → k' ρ d) {ρ : En} {r : Res} (h : asD k ρ r) : asD k' ρ r := by
  cases r with
  | dat d => exact hk _ _ h
  | new c =>
    cases c with
    | own p ds => exact hk _ _ h
    | _ => exact h
  | cel i => exact h
theorem je_bin2 {op : Operator} {r : R2} (ho : OpR X (binaryOp op) r) {W : PyData → PyData → (Res → Prop) → Prop} (hw : ∀ d1 d2 kk, W d1 d2 kk → Bin X.K r d1 d2 kk)
    (h : JE X a ρ (asD fun ρ1 d1 => JE X b ρ1 (asD fun ρ2 d2 => W d1 d2 (k ρ2)))) : JE X (.BinOp a op b pos) ρ k :=
  je_bin ho (h.mono fun _ _ z => asD_mono (fun _ _ z => z.mono fun _ _ z => asD_mono (fun _ _ z => hw _ _ _ z) z) z)
theorem je_cmp2 {op : CmpOp} {r : R2} (ho : OpR X (compareOp op) r) {W : PyData → PyData → (Res → Prop) → Prop} (hw : ∀ d1 d2 kk, W d1 d2 kk → Bin X.K r d1 d2 kk) (hm : behindInMarks op b = false)
    (h : JE X a ρ (asD fun ρ1 d1 => JE X b ρ1 (asD fun ρ2 d2 => W d1 d2 (k ρ2)))) : JE X (.Compare a [op] [b] pos) ρ k :=
  je_cmp ho hm (h.mono fun _ _ z => asD_mono (fun _ _ z => z.mono fun _ _ z => asD_mono (fun _ _ z => hw _ _ _ z) z) z)
abbrev IntK (g : Int → Int → Int) : PyData → PyData → (Res → Prop) → Prop := fun d1 d2 kk => ∃ i j, d1 = .int i ∧ d2 = .int j ∧ kk (.dat (.int (g i j)))
abbrev IntC (C : Int → Int → Prop) (g : Int → Int → Int) : PyData → PyData → (Res → Prop) → Prop := fun d1 d2 kk => ∃ i j, d1 = .int i ∧ d2 = .int j ∧ C i j ∧ kk (.dat (.int (g i j)))
abbrev IntB (g : Int → Int → Bool) : PyData → PyData → (Res → Prop) → Prop := fun d1 d2 kk => ∃ i j, d1 = .int i ∧ d2 = .int j ∧ kk (.dat (.bool (g i j)))
theorem je_sub (h : JE X a ρ (asD fun ρ1 d1 => JE X b ρ1 (asD fun ρ2 d2 => IntK (fun i j => i - j) d1 d2 (k ρ2)))) : JE X (.BinOp a .Sub b pos) ρ k := je_bin2 op_sub (fun _ _ _ ⟨i, j, e1, e2, z⟩ => by subst e1 e2; exact bin_I0 z) h
theorem je_mul (h : JE X a ρ (asD fun ρ1 d1 => JE X b ρ1 (asD fun ρ2 d2 => IntC CMul (fun i j => i * j) d1 d2 (k ρ2)))) : JE X (.BinOp a .Mult b pos) ρ k := je_bin2 op_mul (fun _ _ _ ⟨i, j, e1, e2, c, z⟩ => by subst e1 e2; exact bin_I c z) h
theorem je_fdiv (h : JE X a ρ (asD fun ρ1 d1 => JE X b ρ1 (asD fun ρ2 d2 => IntC CDiv (fun i j => i / j) d1 d2 (k ρ2)))) : JE X (.BinOp a .FloorDiv b pos) ρ k := je_bin2 op_fdiv (fun _ _ _ ⟨i, j, e1, e2, c, z⟩ => by subst e1 e2; exact bin_I c z) h
theorem je_mod (h : JE X a ρ (asD fun ρ1 d1 => JE X b ρ1 (asD fun ρ2 d2 => IntC (fun _ j => 0 < j) (fun i j => i % j) d1 d2 (k ρ2)))) : JE X (.BinOp a .Mod b pos) ρ k := je_bin2 op_mod (fun _ _ _ ⟨i, j, e1, e2, c, z⟩ => by subst e1 e2; exact bin_I (C := fun _ j => 0 < j) c z) h
theorem je_pow (h : JE X a ρ (asD fun ρ1 d1 => JE X b ρ1 (asD fun ρ2 d2 => IntC CPow (fun i j => i ^ j.toNat) d1 d2 (k ρ2)))) : JE X (.BinOp a .Pow b pos) ρ k := je_bin2 op_pow (fun _ _ _ ⟨i, j, e1, e2, c, z⟩ => by subst e1 e2; exact bin_I c z) h
theorem je_lt (h : JE X a ρ (asD fun ρ1 d1 => JE X b ρ1 (asD fun ρ2 d2 => IntB (fun i j => decide (i < j)) d1 d2 (k ρ2)))) (hm : behindInMarks .Lt b = false) : JE X (.Compare a [.Lt] [b] pos) ρ k := je_cmp2 op_lt (fun _ _ _ ⟨i, j, e1, e2, z⟩ => by subst e1 e2; exact bin_B0 (g := fun i j => decide (i < j)) z) hm h
theorem je_gt (h : JE X a ρ (asD fun ρ1 d1 => JE X b ρ1 (asD fun ρ2 d2 => IntB (fun i j => decide (j < i)) d1 d2 (k ρ2)))) (hm : behindInMarks .Gt b = false) : JE X (.Compare a [.Gt] [b] pos) ρ k := je_cmp2 op_gt (fun _ _ _ ⟨i, j, e1, e2, z⟩ => by subst e1 e2; exact bin_B0 (g := fun i j => decide (j < i)) z) hm h
theorem je_ge (h : JE X a ρ (asD fun ρ1 d1 => JE X b ρ1 (asD fun ρ2 d2 => IntB (fun i j => decide (j ≤ i)) d1 d2 (k ρ2)))) (hm : behindInMarks .GtE b = false) : JE X (.Compare a [.GtE] [b] pos) ρ k := je_cmp2 op_ge (fun _ _ _ ⟨i, j, e1, e2, z⟩ => by subst e1 e2; exact bin_B0 (g := fun i j => decide (j ≤ i)) z) hm h
/-- == and != of plain data -/
abbrev EqK : PyData → PyData → (Res → Prop) → Prop := fun d1 d2 kk => (∃ d, SeqAt.shaped d = true ∧ d1 = d ∧ d2 = d ∧ kk (.dat (.bool true))) ∨ (Cm d1 ∧ Cm d2 ∧ ∀ t : Bool, (t = true ↔ d1 = d2) → kk (.dat (.bool t)))
abbrev NeK : PyData → PyData → (Res → Prop) → Prop := fun d1 d2 kk => (∃ d, SeqAt.shaped d = true ∧ d1 = d ∧ d2 = d ∧ kk (.dat (.bool false))) ∨ (Cm d1 ∧ Cm d2 ∧ ∀ t : Bool, (t = true ↔ d1 ≠ d2) → kk (.dat (.bool t)))
theorem je_eq (hu : X.A.units + 64 < cLine) (h : JE X a ρ (asD fun ρ1 d1 => JE X b ρ1 (asD fun ρ2 d2 => EqK d1 d2 (k ρ2)))) (hm : behindInMarks .Eq b = false) : JE X (.Compare a [.Eq] [b] pos) ρ k := je_cmp2 (op_eqD hu) (fun d1 d2 kk z => by
  rcases z with ⟨d, h1, h2, h3, z⟩ | ⟨h1, h2, z⟩
  · exact bin_eqS h1 h2 h3 z
  · exact bin_eq h1 h2 z) hm h
theorem je_ne (hu : X.A.units + 64 < cLine) (h : JE X a ρ (asD fun ρ1 d1 => JE X b ρ1 (asD fun ρ2 d2 => NeK d1 d2 (k ρ2)))) (hm : behindInMarks .NotEq b = false) : JE X (.Compare a [.NotEq] [b] pos) ρ k := je_cmp2 (op_neD hu) (fun d1 d2 kk z => by
  rcases z with ⟨d, h1, h2, h3, z⟩ | ⟨h1, h2, z⟩
  · exact bin_neS h1 h2 h3 z
  · exact bin_ne h1 h2 z) hm h
/-- is not None -/
theorem je_notN {p2 : Pos} {j : Nat} (h : JE X a ρ (asD fun ρ1 d1 => (d1 = .none → k ρ1 (.dat (.bool false))) ∧ (d1 ≠ .none → k ρ1 (.dat (.bool true))))) (hm : behindInMarks .IsNot (.Constant .none j p2) = false) : JE X (.Compare a [.IsNot] [.Constant .none j p2] pos) ρ k := by
  intro F H σ fp Q s q
  refine ofE (pe_cmpR op_notN meE pe_non hm) ?_
  refine h.dat s fun F1 H1 fp1 ρ1 v d f1 s1 o1 k1 => ?_
  refine ⟨rfl, ?_⟩
  by_cases hd : d = .none
  · subst hd
    cases o1.nonE
    exact q F1 H1 fp1 ρ1 _ (.dat (.bool false)) [] f1 s1 ⟨.bl _, rfl⟩ (k1.1 rfl)
  · have hv : v ≠ .non := fun z => by
      subst z
      cases o1
      exact hd rfl
    have e : decide (v = V.non) = false := decide_eq_false hv
    show Q (.bl (!decide (v = V.non))) H1
    rw [e]
    exact q F1 H1 fp1 ρ1 _ (.dat (.bool true)) [] f1 s1 ⟨.bl _, rfl⟩ (k1.2 hd)
theorem rep_flat {w : V} : ∀ n : Nat, (List.replicate n [w]).flatten = List.replicate n w
  | 0 => rfl
  | n + 1 => by rw [List.replicate_succ, List.flatten_cons, rep_flat n, List.replicate_succ]; rfl
/-- (..) * n, n at least 1 -/
theorem je_rep (h : JE X a ρ (asD fun ρ1 d1 => JE X b ρ1 (asD fun ρ2 d2 => ∃ (d : PyData) (n : Nat), d1 = .tuple [d] ∧ d2 = .int n ∧ 1 ≤ n ∧ n ≤ 1000 ∧ k ρ2 (.dat (.tuple (List.replicate n d)))))) : JE X (.BinOp a .Mult b pos) ρ k := by
  refine je_bin2 op_repA (W := fun d1 d2 kk => ∃ (d : PyData) (n : Nat), d1 = .tuple [d] ∧ d2 = .int n ∧ 1 ≤ n ∧ n ≤ 1000 ∧ kk (.dat (.tuple (List.replicate n d)))) (fun d1 d2 kk z => ?_) h
  obtain ⟨d, n, rfl, rfl, h1, h2, z⟩ := z
  intro F H σ ρ fp v1 v2 Q s r1 r2 q
  obtain ⟨t, vs, rfl, g1, g2⟩ := r1.tupE
  cases r2.intE
  cases g2 with
  | @cons v _ _ _ gd t2 =>
    cases t2
    refine ⟨t, n, [v], rfl, rfl, Same.seqT s.ex g1, by simp, by omega, by omega, by simp, fun e => ?_, fun _ p hp => ?_⟩
    · have en : n = 1 := by omega
      subst en
      exact q F H fp _ (.dat _) [] Fr.refl s ⟨.tup g1 (.cons gd .nil), rfl⟩ z
    · have e : (List.replicate (n : Int).toNat [v]).flatten = List.replicate n v := by
        rw [Int.toNat_natCast]
        exact rep_flat n
      rw [e]
      have n1 := (s.fresh hp).1
      exact q _ _ fp _ (.dat _) [] (Fr.laid s hp) (s.laid hp) ⟨.tup (SqT.of upd_same) (DpAll.rep (Dp_ex (Same.new n1) gd) n), rfl⟩ z
/-- [..] * n -/
theorem je_repL (h : JE X a ρ (fun ρ1 r1 => ∃ p0 ds, r1 = .new (.own p0 ds) ∧ JE X b ρ1 (asD fun ρ2 d2 => ∃ n : Nat, d2 = .int n ∧ ds.length = 1 ∧ n ≤ 1000 ∧ ∀ p, k ρ2 (.new (.own p (List.replicate n (ds.getD 0 .none))))))) : JE X (.BinOp a .Mult b pos) ρ k := by
  intro F H σ fp Q s q
  refine ofE (pe_op op_rep meE meE) ?_
  refine h F H σ fp _ s fun F1 H1 fp1 ρ1 v r fn f1 s1 r1 k1 => ?_
  obtain ⟨p0, ds, rfl, k1⟩ := k1
  refine JE.dat k1 s1 fun F2 H2 fp2 ρ2 v2 d2 f2 s2 o2 k2 => ?_
  obtain ⟨n, rfl, hl, hn, k3⟩ := k2
  cases o2.intE
  obtain ⟨⟨e1, e2, vs, g1, g2⟩, g3⟩ := r1
  subst e1 e2
  obtain ⟨t1, t2, t3⟩ := g3 p0 List.mem_cons_self
  obtain ⟨u1, u2, u3, u4⟩ := f2.old p0 t1 t2 t3
  have hvl : vs.length = 1 := by rw [g2.length, hl]
  refine ⟨p0, n, vs, rfl, rfl, by rw [u2]; exact g1, by omega, by omega, small_line (by rw [hvl]; omega), fun p hp => ?_⟩
  match vs, ds, g2, hvl with
  | [w], [d], .cons gd .nil, _ =>
    have e : (List.replicate (n : Int).toNat [w]).flatten = List.replicate n w := by
      rw [Int.toNat_natCast]
      exact rep_flat n
    rw [e]
    obtain ⟨a1, a2, a3⟩ := newOwn s2 hp (DpAll.rep (K := X.K) (H := F2) (Dp_ex f2.ex gd) n)
    exact q _ _ fp2 ρ2 _ (.new (.own p _)) [p] ((f1.trans f2).trans a1) a2 a3 (k3 p)
end
end TW

namespace TW
open PySem PySem.Spec PyProof.Rows L2
section
variable (P : Program) (w : World) (K : PySem.W.Frag) (mg : Str → Option Value) (base : Heap)
/-- a def of the module: where it stands -/
def GD (x : Str) (st : Stmt) : Prop := ∃ fd, Fun K x x st (He.ga K x) fd ∧ mg x = some (.ref (He.ga K x))
/-- .. and what it promises -/
structure DefOk (n : Nat) (x : Str) (ps : List Str) (S : Spec) : Prop where
  ex : ∃ f fd, FnOk P w K mg base CX0 n f fd ps (spOf K S) ∧ mg x = some (.ref f) ∧ PySem.W.keepIn K (.ref f) = true ∧ Binds K fd ps []
end
section
variable {P : Program} {w : World} {K : PySem.W.Frag} {mg : Str → Option Value} {base : Heap}
theorem defD {x : Str} {st : Stmt} {N ps : List Str} {k : Nat} {S : Spec} (g : GD K mg x st) (Sc : FnScope N ps (defScope st)) (hps : ps.length ≤ N.length)
    (hb : ∀ (kV doc pm : Value) (an : Option Addr) (cdv ct : Value) (us : List Value), us.length = ps.length → bindArgs (PySem.W.fnOf x x (defArgs st) (defBody st) (defScope st) .none kV doc pm an cdv ct) ⟨us, []⟩ = pure (ps.zip us)) (hl : ∀ cs R, S cs R → cs.length = ps.length)
    (body : ∀ (f : Addr) (cdv : Value) (A : Around) (outer : List Env) (s : Shared) (H : Hp) (E : XK) (cs : List Cell) (R : List Cell → Res → Prop), Room k (A.deeper (envOfC x (defScope st) s.heap.objs.size f cdv)) → S cs R →
      JSs (cxOf CX0 P w K mg base N x (defScope st) f cdv A outer s H E).nox (defBody st) (cs.map some ++ List.replicate (N.length - ps.length) none) (endOf cs R)) : DefOk P w K mg base (k + 1) x ps S := by
  obtain ⟨fd, F, hm⟩ := g
  exact ⟨_, fd, def_ok F Sc hps hl (fun cdv A outer s H E cs R hr hS => body _ cdv A outer s H E cs R hr hS), hm, F.kp, F.binds hb⟩
end
section
variable {X : Cx} {e : Expr} {es : List Expr} {ρ : En} {k : En → Res → Prop} {pos : Pos}
theorem je_callD {x : Str} {p : Pos} {n : Nat} {ps : List Str} {S : Spec} (D : DefOk X.prog X.w X.K X.mg X.base n x ps S) (hr : Room n X.A) (h : JA X (e :: es) ρ (CallK S k)) (hg : Gl X x) (hd : (x == ("__debug__" : Str)) = false)
    (he : starEach (e :: es) X.env = (false, eval e X.env) :: starEach es X.env) (hpl : (backTo pos (starEach es X.env)).any (·.1) = false) : JE X (.Call (.Name x p) (e :: es) [] pos) ρ k := by
  obtain ⟨f, fd, G, hm, hk, hb⟩ := D.ex
  exact je_call G hr hm hk hb h hg hd he hpl
/-- calls of built-ins by name -/
theorem je_len {p : Pos} (hm : X.mg "len" = none) (h : JE X e ρ (asR fun ρ1 r => ∃ ds, seqR ρ1 r = some ds ∧ k ρ1 (.dat (.int (ds.length : Nat))))) (hg : Gl X "len") (he : starEach (e :: []) X.env = (false, eval e X.env) :: starEach [] X.env) : JE X (.Call (.Name "len" p) [e] [] pos) ρ k :=
  je_callB (call_len_seq) hg hm PySem.boot_len (ja_cons (h.mono fun ρ1 r z => by
    cases r with
    | dat d => exact ja_nil (ca_len z.choose_spec.1 z.choose_spec.2)
    | new c =>
      cases c with
      | own q ds => exact ja_nil (ca_len z.choose_spec.1 z.choose_spec.2)
      | _ => exact z
    | cel i => exact ja_nil (ca_len z.choose_spec.1 z.choose_spec.2)) he) (by decide) (by decide) he rfl
theorem je_list {p : Pos} (hm : X.mg "list" = none) (h : JE X e ρ (asR fun ρ1 r => ∃ ds, seqR ρ1 r = some ds ∧ ∀ q, k ρ1 (.new (.own q ds)))) (hg : Gl X "list") (he : starEach (e :: []) X.env = (false, eval e X.env) :: starEach [] X.env) : JE X (.Call (.Name "list" p) [e] [] pos) ρ k :=
  je_callTy (call_list_of) hg hm (by decide +kernel) (ja_cons (h.mono fun ρ1 r z => by
    cases r with
    | dat d => exact ja_nil (ca_list z.choose_spec.1 z.choose_spec.2)
    | new c =>
      cases c with
      | own q ds => exact ja_nil (ca_list z.choose_spec.1 z.choose_spec.2)
      | _ => exact z
    | cel i => exact ja_nil (ca_list z.choose_spec.1 z.choose_spec.2)) he) (by decide) (by decide) he rfl
/-- tuple(a list) -/
theorem je_tuple {p : Pos} (hm : X.mg "tuple" = none) (h : JE X e ρ (asR fun ρ1 r => ∃ ds, seqR ρ1 r = some ds ∧ (∀ xs, r ≠ .dat (.tuple xs)) ∧ k ρ1 (.dat (.tuple ds)))) (hg : Gl X "tuple") (he : starEach (e :: []) X.env = (false, eval e X.env) :: starEach [] X.env) : JE X (.Call (.Name "tuple" p) [e] [] pos) ρ k :=
  je_callTy (call_tuple_of) hg hm (by decide +kernel) (ja_cons (h.mono fun ρ1 r z => by
    cases r with
    | dat d => exact ja_nil (ca_tuple z.choose_spec.1 z.choose_spec.2.1 z.choose_spec.2.2)
    | new c =>
      cases c with
      | own q ds => exact ja_nil (ca_tuple z.choose_spec.1 z.choose_spec.2.1 z.choose_spec.2.2)
      | _ => exact z
    | cel i => exact ja_nil (ca_tuple z.choose_spec.1 z.choose_spec.2.1 z.choose_spec.2.2)) he) (by decide) (by decide) he rfl
theorem je_toint {p : Pos} (hm : X.mg "int" = none) (h : JE X e ρ (asD fun ρ1 d => ∃ i, d = .int i ∧ k ρ1 (.dat (.int i)))) (hg : Gl X "int") (he : starEach (e :: []) X.env = (false, eval e X.env) :: starEach [] X.env) : JE X (.Call (.Name "int" p) [e] [] pos) ρ k :=
  je_callTy (call_int1) hg hm (by decide +kernel) (ja_cons (h.mono fun ρ1 r z => by
    cases r with
    | dat d =>
      obtain ⟨i, rfl, z⟩ := z
      exact ja_nil (ca_int z)
    | new c =>
      cases c with
      | own q ds =>
        obtain ⟨i, e1, z⟩ := z
        cases e1
      | _ => exact z
    | cel i => exact False.elim z) he) (by decide) (by decide) he rfl
/-- sorted(a list of ints) -/
theorem je_sorted {p : Pos} (hm : X.mg "sorted" = none) (h : JE X e ρ (asD fun ρ1 d => ∃ ns : List Int, d = .list (ns.map PyData.int) ∧ ∀ (ns' : List Int) (q : Addr), ns'.Perm ns → ns'.Pairwise (· ≤ ·) → k ρ1 (.new (.own q (ns'.map PyData.int))))) (hg : Gl X "sorted") (he : starEach (e :: []) X.env = (false, eval e X.env) :: starEach [] X.env) :
    JE X (.Call (.Name "sorted" p) [e] [] pos) ρ k :=
  je_callB (cr_sortedI) hg hm (by decide +kernel) (ja_cons (h.mono fun ρ1 r z => by
    cases r with
    | dat d =>
      obtain ⟨ns, rfl, z⟩ := z
      exact ja_nil (ca_sorted rfl (fun _ z => by cases z) (fun _ z => by cases z) z)
    | new c =>
      cases c with
      | own q ds =>
        obtain ⟨ns, e1, z⟩ := z
        cases e1
        exact ja_nil (ca_sorted rfl (fun _ z => by cases z) (fun _ z => by cases z) z)
      | _ => exact z
    | cel i => exact False.elim z) he) (by decide) (by decide) he rfl
theorem je_min {p : Pos} {b : Expr} (hc : X.calm = true) (hm : X.mg "min" = none) (h : JE X e ρ (asD fun ρ1 d1 => JE X b ρ1 (asD fun ρ2 d2 => ∃ i j, d1 = .int i ∧ d2 = .int j ∧ k ρ2 (.dat (.int (if j < i then j else i)))))) (hg : Gl X "min")
    (he : starEach (e :: [b]) X.env = (false, eval e X.env) :: starEach [b] X.env) (he2 : starEach (b :: []) X.env = (false, eval b X.env) :: starEach [] X.env) (hpl : (backTo pos (starEach [b] X.env)).any (·.1) = false) : JE X (.Call (.Name "min" p) [e, b] [] pos) ρ k := by
  refine je_callB (call_min2 hc) hg hm (by decide +kernel) (ja_cons (h.mono fun ρ1 r z => ?_) he) (by decide) (by decide) he hpl
  have go : ∀ d1, JE X b ρ1 (asD fun ρ2 d2 => ∃ i j, d1 = .int i ∧ d2 = .int j ∧ k ρ2 (.dat (.int (if j < i then j else i)))) → JA X [b] ρ1 fun ρ2 rs => Ca X.K rMin2 ρ2 (.dat d1 :: rs) (k ρ2) := fun d1 z => ja_cons (z.mono fun ρ2 r2 z2 => by
    cases r2 with
    | dat d2 =>
      obtain ⟨i, j, rfl, rfl, z⟩ := z2
      exact ja_nil (ca_min z)
    | new c =>
      cases c with
      | own q ds =>
        obtain ⟨i, j, e1, e2, z⟩ := z2
        cases e2
      | _ => exact z2
    | cel i => exact False.elim z2) he2
  cases r with
  | dat d => exact go d z
  | new c =>
    cases c with
    | own q ds => exact go _ z
    | _ => exact z
  | cel i => exact False.elim z
theorem je_isiInt {p p2 : Pos} (hm : X.mg "isinstance" = none) (hm2 : X.mg "int" = none) (h : JE X e ρ (asD fun ρ1 d => ∃ r, kitB (tyD d) "int" = some r ∧ k ρ1 (.dat (.bool r)))) (hg : Gl X "isinstance") (hg2 : Gl X "int")
    (he : starEach (e :: [.Name "int" p2]) X.env = (false, eval e X.env) :: starEach [.Name "int" p2] X.env) (he2 : starEach [.Name "int" p2] X.env = (false, eval (.Name "int" p2) X.env) :: starEach [] X.env) (hpl : (backTo pos (starEach [.Name "int" p2] X.env)).any (·.1) = false) :
    JE X (.Call (.Name "isinstance" p) [e, .Name "int" p2] [] pos) ρ k := je_isi hm hm2 h (by decide +kernel) hg hg2 (by decide) (by decide) he he2 hpl
theorem je_isiBool {p p2 : Pos} (hm : X.mg "isinstance" = none) (hm2 : X.mg "bool" = none) (h : JE X e ρ (asD fun ρ1 d => ∃ r, kitB (tyD d) "bool" = some r ∧ k ρ1 (.dat (.bool r)))) (hg : Gl X "isinstance") (hg2 : Gl X "bool")
    (he : starEach (e :: [.Name "bool" p2]) X.env = (false, eval e X.env) :: starEach [.Name "bool" p2] X.env) (he2 : starEach [.Name "bool" p2] X.env = (false, eval (.Name "bool" p2) X.env) :: starEach [] X.env) (hpl : (backTo pos (starEach [.Name "bool" p2] X.env)).any (·.1) = false) :
    JE X (.Call (.Name "isinstance" p) [e, .Name "bool" p2] [] pos) ρ k := je_isi hm hm2 h (by decide +kernel) hg hg2 (by decide) (by decide) he he2 hpl
theorem je_isiTup {p p2 : Pos} (hm : X.mg "isinstance" = none) (hm2 : X.mg "tuple" = none) (h : JE X e ρ (asD fun ρ1 d => ∃ r, kitB (tyD d) "tuple" = some r ∧ k ρ1 (.dat (.bool r)))) (hg : Gl X "isinstance") (hg2 : Gl X "tuple")
    (he : starEach (e :: [.Name "tuple" p2]) X.env = (false, eval e X.env) :: starEach [.Name "tuple" p2] X.env) (he2 : starEach [.Name "tuple" p2] X.env = (false, eval (.Name "tuple" p2) X.env) :: starEach [] X.env) (hpl : (backTo pos (starEach [.Name "tuple" p2] X.env)).any (·.1) = false) :
    JE X (.Call (.Name "isinstance" p) [e, .Name "tuple" p2] [] pos) ρ k := je_isi hm hm2 h (by decide +kernel) hg hg2 (by decide) (by decide) he he2 hpl
theorem je_isiStr {p p2 : Pos} (hm : X.mg "isinstance" = none) (hm2 : X.mg "str" = none) (h : JE X e ρ (asD fun ρ1 d => ∃ r, kitB (tyD d) "str" = some r ∧ k ρ1 (.dat (.bool r)))) (hg : Gl X "isinstance") (hg2 : Gl X "str")
    (he : starEach (e :: [.Name "str" p2]) X.env = (false, eval e X.env) :: starEach [.Name "str" p2] X.env) (he2 : starEach [.Name "str" p2] X.env = (false, eval (.Name "str" p2) X.env) :: starEach [] X.env) (hpl : (backTo pos (starEach [.Name "str" p2] X.env)).any (·.1) = false) :
    JE X (.Call (.Name "isinstance" p) [e, .Name "str" p2] [] pos) ρ k := je_isi hm hm2 h (by decide +kernel) hg hg2 (by decide) (by decide) he he2 hpl
end
end TW

namespace TW
open PySem PySem.Spec PyProof.Rows L2
section
variable {X : Cx} {e a b c o : Expr} {es : List Expr} {st : Stmt} {sts : List Stmt} {ρ : En} {E : Po} {k : En → Res → Prop} {pos : Pos}
/-! ## list + list -/
def lstR (ρ : En) : Res → Option (List PyData)
  | .new (.own _ ds) => some ds
  | .cel i => match ρ[i]? with
    | some (some (.own _ ds)) => some ds
    | _ => none
  | _ => none
theorem lst_cel {K : PySem.W.Frag} {F H : Hp} {σ : L2.St} {fp : Nat → List Addr} {i : Nat} {v : V} {ds : List PyData} (s : St K F H σ ρ fp) (hv : σ[i]? = some (some v)) (e : lstR ρ (.cel i) = some ds) : ∃ p vs, v = .ref p ∧ H p = some (.lst vs) ∧ DpAll K F vs ds := by
  have e2 : (match ρ[i]? with
    | some (some (.own _ ds)) => some ds
    | _ => none) = some ds := e
  cases q : ρ[i]? with
  | none => rw [q] at e2; cases e2
  | some o =>
    cases o with
    | none => rw [q] at e2; cases e2
    | some c =>
      cases c with
      | own p xs =>
        rw [q] at e2
        have e3 : xs = ds := Option.some.inj e2
        subst e3
        obtain ⟨vs, h1, _, h3, h4⟩ := own_at s q
        rw [h1] at hv
        cases hv
        exact ⟨p, vs, rfl, h3, h4⟩
      | _ => rw [q] at e2; cases e2
theorem je_catL (h : JE X a ρ (fun ρ1 r1 => JE X b ρ1 (fun ρ2 r2 => ∃ ds es, lstR ρ2 r1 = some ds ∧ lstR ρ2 r2 = some es ∧ ds.length + es.length ≤ 100000 ∧ ∀ p, k ρ2 (.new (.own p (ds ++ es)))))) : JE X (.BinOp a .Add b pos) ρ k := by
  intro F H σ fp Q s q
  refine ofE (pe_op op_cat meE meE) ?_
  refine h F H σ fp _ s fun F1 H1 fp1 ρ1 v1 r1 fn1 f1 s1 o1 k1 => ?_
  refine k1 F1 H1 σ fp1 _ s1 fun F2 H2 fp2 ρ2 v2 r2 fn2 f2 s2 o2 k2 => ?_
  obtain ⟨ds, es, e1, e2, hz, k3⟩ := k2
  have g1 : ∃ p vs, v1 = .ref p ∧ H2 p = some (.lst vs) ∧ DpAll X.K F2 vs ds := by
    cases r1 with
    | dat d => cases e1
    | cel i => exact lst_cel s2 o1.1 e1
    | new c =>
      cases c with
      | own p xs =>
        cases (Option.some.inj e1)
        obtain ⟨⟨q1, q2, vs, q3, q4⟩, q5⟩ := o1
        subst q2
        obtain ⟨t1, t2, t3⟩ := q5 p List.mem_cons_self
        obtain ⟨u1, u2, _⟩ := f2.old p t1 t2 t3
        exact ⟨p, vs, q1, by rw [u2]; exact q3, DpAll_ex f2.ex q4⟩
      | _ => cases e1
  have g2 : ∃ p vs, v2 = .ref p ∧ H2 p = some (.lst vs) ∧ DpAll X.K F2 vs es := by
    cases r2 with
    | dat d => cases e2
    | cel i => exact lst_cel s2 o2.1 e2
    | new c =>
      cases c with
      | own p xs =>
        cases (Option.some.inj e2)
        obtain ⟨⟨q1, q2, vs, q3, q4⟩, q5⟩ := o2
        exact ⟨p, vs, q1, q3, q4⟩
      | _ => cases e2
  obtain ⟨p1, vs, rfl, h1, h2⟩ := g1
  obtain ⟨p2, us, rfl, h3, h4⟩ := g2
  refine ⟨p1, p2, vs, us, rfl, rfl, h1, h3, small_line (by rw [h2.length, h4.length]; exact hz), fun p hp => ?_⟩
  obtain ⟨a1, a2, a3⟩ := newOwn s2 hp (h2.append h4)
  exact q _ _ fp2 ρ2 _ (.new (.own p _)) [p] ((f1.trans f2).trans a1) a2 a3 (k3 p)

/-! ## tuples of ints: <=, in -/
theorem je_leT (hu : X.A.units < cLine) (h : JE X a ρ (asD fun ρ1 d1 => JE X b ρ1 (asD fun ρ2 d2 => ∃ ns ms : List Int, d1 = .tuple (ns.map PyData.int) ∧ d2 = .tuple (ms.map PyData.int) ∧
    k ρ2 (.dat (.bool (Ob.lexAt (fun j => decide (ns.getD j 0 = ms.getD j 0)) (fun j => decide (ns.getD j 0 ≤ ms.getD j 0)) (decide (ns.length ≤ ms.length)) 0 (min ns.length ms.length))))))) (hm : behindInMarks .LtE b = false) : JE X (.Compare a [.LtE] [b] pos) ρ k :=
  je_cmp2 (op_leT hu) (W := fun d1 d2 kk => ∃ ns ms : List Int, d1 = .tuple (ns.map PyData.int) ∧ d2 = .tuple (ms.map PyData.int) ∧
    kk (.dat (.bool (Ob.lexAt (fun j => decide (ns.getD j 0 = ms.getD j 0)) (fun j => decide (ns.getD j 0 ≤ ms.getD j 0)) (decide (ns.length ≤ ms.length)) 0 (min ns.length ms.length))))) (fun d1 d2 kk ⟨ns, ms, e1, e2, z⟩ => by
    subst e1 e2
    intro F H σ ρ fp v1 v2 Q s r1 r2 q
    obtain ⟨p1, vs, rfl, h1, h2⟩ := r1.tupE
    obtain ⟨p2, us, rfl, h3, h4⟩ := r2.tupE
    cases DpAll.ofInts h2
    cases DpAll.ofInts h4
    exact ⟨p1, p2, ns, ms, rfl, rfl, Same.seqT s.ex h1, Same.seqT s.ex h3, q F H fp _ (.dat _) [] Fr.refl s ⟨.bl _, rfl⟩ z⟩) hm h
theorem inV_int {i : Int} : ∀ ns : List Int, (inV (.int i) (ns.map V.int) = true ↔ i ∈ ns)
  | [] => by simp [inV]
  | n :: ns => by
    have z := inV_int (i := i) ns
    unfold inV at z ⊢
    rw [List.map_cons, List.any_cons, Bool.or_eq_true, z, List.mem_cons]
    simp only [eqV, beq_iff_eq]
    exact ⟨fun q => q.elim (fun q => .inl q.symm) .inr, fun q => q.elim (fun q => .inl q.symm) .inr⟩
theorem flat_ints : ∀ ns : List Int, (ns.map V.int).all flatV = true
  | [] => rfl
  | n :: ns => by
    rw [List.map_cons, List.all_cons, flat_ints ns]
    rfl
theorem je_inS (h : JE X a ρ (asD fun ρ1 d1 => JE X b ρ1 (asD fun ρ2 d2 => ∃ (i : Int) (ns : List Int), d1 = .int i ∧ d2 = .tuple (ns.map PyData.int) ∧ ∀ t : Bool, (t = true ↔ i ∈ ns) → k ρ2 (.dat (.bool t))))) (hm : behindInMarks .In b = false) : JE X (.Compare a [.In] [b] pos) ρ k :=
  je_cmp2 op_in_seq (W := fun d1 d2 kk => ∃ (i : Int) (ns : List Int), d1 = .int i ∧ d2 = .tuple (ns.map PyData.int) ∧ ∀ t : Bool, (t = true ↔ i ∈ ns) → kk (.dat (.bool t))) (fun d1 d2 kk ⟨i, ns, e1, e2, z⟩ => by
    subst e1 e2
    intro F H σ ρ fp v1 v2 Q s r1 r2 q
    cases r1.intE
    obtain ⟨p2, us, rfl, h3, h4⟩ := r2.tupE
    cases DpAll.ofInts h4
    exact ⟨p2, _, rfl, .inr (Same.seqT s.ex h3), rfl, flat_ints ns, q F H fp _ (.dat _) [] Fr.refl s ⟨.bl _, rfl⟩ (z _ (inV_int ns))⟩) hm h

/-! ## names = a list -/
theorem jg_list {kk : Nat} {ds : List PyData} {k : En → Prop} (h : JGs X es ρ ds k) (hc : X.calm = true) (hn : (assignEach es X.env).length = ds.length) (hst : (assignEach es X.env).findIdx? (·.1) = none) : JG X (.Tuple es kk pos) ρ (.list ds) k := by
  intro F H σ fp v Q s hd q
  obtain ⟨a, vs, e1, h1, h2⟩ := hd.lstE
  refine ofG (pg_unl hc meGs hn hst) ?_
  exact ⟨a, vs, e1, s.ex.seq h1, h2.length, h F H σ fp vs Q s h2 q⟩

/-! ## dicts -/
def keyD : Key → PyData
  | .inl i => .int i
  | .inr x => .str x
theorem keyD_ok {K : PySem.W.Frag} {F : Hp} {v : V} {y : Key} (h : Dp K F v (keyD y)) : v = kV y := by
  cases y with
  | inl i => exact h.intE
  | inr x => exact h.strE
def dval (kvs : List (Key × PyData)) (y : Key) : Option PyData := (kvs.find? fun kv => decide (kv.1 = y)).map (·.2)
theorem KvOk.val {K : PySem.W.Frag} {F : Hp} {y : Key} : ∀ {ws : List (Key × V)} {kvs : List (Key × PyData)}, KvOk K F ws kvs → (dval kvs y = none ∧ valV ws y = none) ∨ ∃ v d, dval kvs y = some d ∧ valV ws y = some v ∧ Dp K F v d
  | [], [], _ => .inl ⟨rfl, rfl⟩
  | (f, v) :: ws, (f', d) :: kvs, ⟨e1, h1, h2⟩ => by
    subst e1
    by_cases q : f = y
    · right
      refine ⟨v, d, ?_, ?_, h1⟩
      · simp [dval, List.find?_cons, q]
      · exact valV_pos q
    · have e1 : dval ((f, d) :: kvs) y = dval kvs y := by simp [dval, List.find?_cons, q]
      have e2 : valV ((f, v) :: ws) y = valV ws y := valV_neg q
      rw [e1, e2]
      exact KvOk.val h2
theorem KvOk.len {K : PySem.W.Frag} {F : Hp} : ∀ {gs : List (Key × V)} {fs : List (Key × PyData)}, KvOk K F gs fs → gs.length = fs.length
  | [], [], _ => rfl
  | (g, v) :: gs, (g', e) :: fs, ⟨_, _, h⟩ => by rw [List.length_cons, List.length_cons, KvOk.len h]
theorem KvOk.snoc {K : PySem.W.Frag} {F : Hp} {y : Key} {v : V} {d : PyData} (hd : Dp K F v d) : ∀ {ws : List (Key × V)} {kvs : List (Key × PyData)}, KvOk K F ws kvs → KvOk K F (ws ++ [(y, v)]) (kvs ++ [(y, d)])
  | [], [], _ => ⟨rfl, hd, trivial⟩
  | (f, v) :: ws, (f', d) :: kvs, ⟨e1, h1, h2⟩ => ⟨e1, h1, KvOk.snoc hd h2⟩
theorem putK_new {ws : List (Key × V)} {y : Key} {v : V} (h : valV ws y = none) : putK ws y v = ws ++ [(y, v)] := by
  unfold putK
  rw [if_neg]
  rw [valV_any, h]
  simp
theorem dct_at {K : PySem.W.Frag} {F H : Hp} {σ : L2.St} {fp : Nat → List Addr} {i : Nat} {p : Addr} {kvs : List (Key × PyData)} (s : St K F H σ ρ fp) (h : ρ[i]? = some (some (.dct p kvs))) : ∃ ws, σ[i]? = some (some (.ref p)) ∧ fp i = [p] ∧ H p = some (.dK ws) ∧ KvOk K F ws kvs := by
  obtain ⟨v, h1, e1, e2, ws, h2, h3⟩ := s.cells i _ h
  subst e1
  exact ⟨ws, h1, e2, h2, h3⟩
theorem je_dnew (k0 : ∀ p, k ρ (.new (.dct p []))) : JE X (.Dict [] [] pos) ρ k := by
  intro F H σ fp Q s q
  refine ofE pe_dnewK fun p hp => ?_
  obtain ⟨n1, n2⟩ := s.fresh hp
  refine q F _ fp ρ _ (.new (.dct p [])) [p] (Fr.made s hp [p] (by simp)) (s.made hp) ⟨⟨rfl, rfl, [], upd_same, trivial⟩, fun a ha => ?_⟩ (k0 p)
  obtain rfl : a = p := by simpa using ha
  exact ⟨n1, by rw [upd_same]; simp, n2⟩
/-- d[e], d in slot i -/
theorem je_dget (i : Nat) {x : Str} {p2 : Pos} (hu : X.A.units + 1 < cLine) (hN : X.N[i]? = some x) (hv : Vis X.env.scope x) (hd : (x == ("__debug__" : Str)) = false) (hcd : (x == ("__classdict__" : Str)) = false) {p0 : Addr} {kvs0 : List (Key × PyData)} (hρ : ρ[i]? = some (some (.dct p0 kvs0)))
    (h : JE X b ρ (asD fun ρ2 d2 => ∃ p kvs y d, ρ2[i]? = some (some (.dct p kvs)) ∧ d2 = keyD y ∧ dval kvs y = some d ∧ k ρ2 (.dat d))) (hs : NoSl b) : JE X (.Subscript (.Name x p2) b pos) ρ k := by
  intro F H σ fp Q s q
  refine ofE (pe_dget hu (pe_var hN hv hd hcd) meE hs) ?_
  obtain ⟨ws0, g1, g2, g3, g4⟩ := dct_at s hρ
  refine ⟨_, g1, ?_⟩
  refine h.dat s fun F1 H1 fp1 ρ1 v1 d1 f1 s1 o1 k1 => ?_
  obtain ⟨p, kvs, y, d, e1, e2, e3, k2⟩ := k1
  subst e2
  cases (keyD_ok o1)
  obtain ⟨ws, t1, t2, t3, t4⟩ := dct_at s1 e1
  rw [g1] at t1
  cases t1
  rcases t4.val (y := y) with ⟨z1, _⟩ | ⟨v, d', z1, z2, z3⟩
  · rw [z1] at e3
    cases e3
  · rw [z1] at e3
    cases e3
    refine ⟨p0, v, rfl, ?_, q F1 H1 fp1 ρ1 v (.dat d) [] f1 s1 ⟨z3, rfl⟩ k2⟩
    have z := DGet.k (k := y) t3
    rw [z2] at z
    exact z
/-- e in d -/
theorem je_din (i : Nat) {x : Str} {p2 : Pos} (hu : X.A.units + 1 < cLine) (hN : X.N[i]? = some x) (hv : Vis X.env.scope x) (hd : (x == ("__debug__" : Str)) = false) (hcd : (x == ("__classdict__" : Str)) = false)
    (h : JE X b ρ (asD fun ρ2 d2 => ∃ p kvs y, ρ2[i]? = some (some (.dct p kvs)) ∧ d2 = keyD y ∧ k ρ2 (.dat (.bool (dval kvs y).isSome)))) (hm : behindInMarks .In (.Name x p2) = false) : JE X (.Compare b [.In] [.Name x p2] pos) ρ k := by
  intro F H σ fp Q s q
  refine ofE (pe_cmp (pc_din hu meE (pe_var hN hv hd hcd)) hm) ?_
  refine h.dat s fun F1 H1 fp1 ρ1 v1 d1 f1 s1 o1 k1 => ?_
  obtain ⟨p, kvs, y, e1, e2, k2⟩ := k1
  subst e2
  cases (keyD_ok o1)
  obtain ⟨ws, t1, t2, t3, t4⟩ := dct_at s1 e1
  refine ⟨_, t1, p, valV ws y, rfl, DGet.k t3, ?_⟩
  have e : (valV ws y).isSome = (dval kvs y).isSome := by
    rcases t4.val (y := y) with ⟨z1, z2⟩ | ⟨v, d', z1, z2, z3⟩
    · rw [z1, z2]; rfl
    · rw [z1, z2]; rfl
  rw [e]
  exact q F1 H1 fp1 ρ1 _ (.dat _) [] f1 s1 ⟨.bl _, rfl⟩ k2
/-- d[b] = e, a new key -/
theorem js_dput (i : Nat) {x : Str} {p2 pos' : Pos} (hu : X.A.units + 1 < cLine) (hN : X.N[i]? = some x) (hv : Vis X.env.scope x) (hd : (x == ("__debug__" : Str)) = false) (hcd : (x == ("__classdict__" : Str)) = false) {p0 : Addr}
    (h : JE X e ρ (asD fun ρ1 d1 => ∃ kvs0, ρ1[i]? = some (some (.dct p0 kvs0)) ∧ JE X b ρ1 (asD fun ρ2 d2 => ∃ kvs y, ρ2[i]? = some (some (.dct p0 kvs)) ∧ d2 = keyD y ∧ dval kvs y = none ∧ kvs.length < 1000 ∧ E.nx (ρ2.set i (some (.dct p0 (kvs ++ [(y, d1)])))))))
    (hs : swapsWith e (some (.Subscript (.Name x p2) b pos')) pos.line X.env = pure false) : JS X (.Assign [.Subscript (.Name x p2) b pos'] e pos) ρ E := by
  intro F H σ fp D s o
  refine ofS (ps_dput hu (pe_var hN hv hd hcd) meE meE hs) ?_
  refine h.dat s fun F1 H1 fp1 ρ1 v1 d1 f1 s1 o1 k1 => ?_
  obtain ⟨kvs0, e0, k1⟩ := k1
  obtain ⟨ws0, g1, g2, g3, g4⟩ := dct_at s1 e0
  refine ⟨_, g1, ?_⟩
  refine JE.dat k1 s1 fun F2 H2 fp2 ρ2 v2 d2 f2 s2 o2 k2 => ?_
  obtain ⟨kvs, y, e1, e2, e3, hz, k3⟩ := k2
  subst e2
  cases (keyD_ok o2)
  obtain ⟨ws, t1, t2, t3, t4⟩ := dct_at s2 e1
  have hn : valV ws y = none := by
    rcases t4.val (y := y) with ⟨_, z2⟩ | ⟨v, d', z1, z2, z3⟩
    · exact z2
    · rw [z1] at e3
      cases e3
  have hl : ws.length < sizeLine := Nat.lt_of_lt_of_le (show ws.length < 1000 by rw [t4.len]; exact hz) (by decide)
  refine ⟨p0, _, rfl, DPut.k t3 hl, ?_⟩
  rw [putK_new hn]
  obtain ⟨a1, a2⟩ := s2.change (H' := upd H2 p0 (.dK (ws ++ [(y, v1)]))) (c' := .dct p0 (kvs ++ [(y, d1)])) e1 t1 (fun a ha => upd_ne fun z => ha (by rw [t2, z]; simp)) (fun a ha => by
    rw [t2] at ha
    obtain rfl : a = p0 := by simpa using ha
    rw [upd_same]
    simp) ⟨rfl, t2, _, upd_same, t4.snoc (Dp_ex f2.ex o1)⟩
  exact o.nx _ _ _ fp2 _ ((f1.trans f2).trans a1) a2 k3
/-- {x: a, y: b, z: c} -/
theorem je_disp3 {x y z : Str} {j1 j2 j3 : Nat} {p1 p2 p3 : Pos} (h : JE X a ρ (asD fun ρ1 d1 => JE X b ρ1 (asD fun ρ2 d2 => JE X c ρ2 (asD fun ρ3 d3 => ∀ p, k ρ3 (.new (.dct p [(.inr x, d1), (.inr y, d2), (.inr z, d3)]))))))
    (hxy : x ≠ y) (hxz : x ≠ z) (hyz : y ≠ z) : JE X (.Dict [some (.Constant (.str x) j1 p1), some (.Constant (.str y) j2 p2), some (.Constant (.str z) j3 p3)] [a, b, c] pos) ρ k := by
  intro F H σ fp Q s q
  refine ofE (pe_disp (pps_cons pe_str meE (pps_cons pe_str meE (pps_cons pe_str meE pps_nil))) rfl rfl (by simp) (by simp)) fun p hp => ?_
  obtain ⟨n1, n2⟩ := s.fresh hp
  have s0 : St X.K F (upd H p (.dK [])) σ ρ fp := s.made hp
  have f0 : Fr F H fp F (upd H p (.dK [])) fp [] := Fr.made s hp [] (by simp)
  refine h.dat s0 fun F1 H1 fp1 ρ1 v1 d1 f1 s1 o1 k1 => ?_
  refine JE.dat k1 s1 fun F2 H2 fp2 ρ2 v2 d2 f2 s2 o2 k2 => ?_
  refine JE.dat k2 s2 fun F3 H3 fp3 ρ3 v3 d3 f3 s3 o3 k3 => ?_
  have fr := (f1.trans f2).trans f3
  obtain ⟨m1, m2, m3, _⟩ := fr.old p n1 (by rw [upd_same]; simp) n2
  have hH : H3 p = some (.dK []) := by rw [m2, upd_same]
  refine ⟨hH, [(.inr x, v1), (.inr y, v2), (.inr z, v3)], rfl, by simp, ?_⟩
  have em : mergeK [] [(.inr x, v1), (.inr y, v2), (.inr z, v3)] = [((.inr x : Key), v1), (.inr y, v2), (.inr z, v3)] := by
    simp [mergeK, putK, hxy, hxz, hyz]
  rw [em]
  have s4 : St X.K F3 (upd H3 p (.dK [((.inr x : Key), v1), (.inr y, v2), (.inr z, v3)])) σ ρ3 fp3 := by
    refine ⟨Same.mut s3.ex m1, s3.len, fun j c hc => ?_, fun j a ha => ?_, s3.sep⟩
    · obtain ⟨v, g1, g2⟩ := s3.cells j c hc
      exact ⟨v, g1, g2.fr (Same.refl _) fun a ha => upd_ne fun z => m3 j (z ▸ ha)⟩
    · have na : a ≠ p := fun z => m3 j (z ▸ ha)
      rw [upd_ne na]
      exact s3.out j a ha
  refine q F3 _ fp3 ρ3 _ (.new (.dct p [(.inr x, d1), (.inr y, d2), (.inr z, d3)])) [p] ⟨(f0.trans fr).ex, fun a h1 h2 h3 => ?_, fun a ha => ?_⟩ s4 ⟨⟨rfl, rfl, _, upd_same, rfl, Dp_ex (f2.ex.trans f3.ex) o1, rfl, Dp_ex f3.ex o2, rfl, o3, trivial⟩, fun a ha => ?_⟩ (k3 p)
  · have na : a ≠ p := fun z => h2 (z ▸ hp)
    obtain ⟨t1, t2, t3, _⟩ := (f0.trans fr).old a h1 h2 h3
    rw [upd_ne na]
    exact ⟨t1, t2, t3, by simpa using na⟩
  · have na : a ≠ p := fun z => ha (z ▸ hp)
    rw [upd_ne na]
    exact (f0.trans fr).dom a ha
  · obtain rfl : a = p := by simpa using ha
    exact ⟨m1, by rw [upd_same]; simp, m3⟩
end
end TW

namespace TW
open PySem PySem.Spec PyProof.Rows L2
section
variable {X : Cx} {tg iter : Expr} {e a b c o : Expr} {es : List Expr} {st : Stmt} {sts : List Stmt} {ρ : En} {E : Po} {k : En → Res → Prop} {pos : Pos}
/-! ## the pool -/
theorem pol_at {K : PySem.W.Frag} {F H : Hp} {σ : L2.St} {fp : Nat → List Addr} {i : Nat} {p : Addr} {a b : Int} {ns : List Int} (s : St K F H σ ρ fp) (h : ρ[i]? = some (some (.pol p a b ns))) :
    ∃ q : Addr, σ[i]? = some (some (.ref p)) ∧ fp i = [p, q] ∧ p ≠ q ∧ H p = some (.lst [.int a, .int b, .ref q]) ∧ H q = some (.lst (ns.map V.int)) := by
  obtain ⟨v, h1, e1, q, e2, n, h2, h3⟩ := s.cells i _ h
  subst e1
  exact ⟨q, h1, e2, n, h2, h3⟩
/-- the pool is opened; it is closed at each return -/
theorem jss_open (i : Nat) {p : Addr} (hρ : ρ[i]? = some (some (.pool p)))
    (h : ∀ a b ns, 0 ≤ a → 0 ≤ b → b < 4294967296 → JSs X sts (ρ.set i (some (.pol p a b ns))) { nx := fun _ => False, rt := fun ρ' r => ∃ a b ns d, r = .dat d ∧ ρ'[i]? = some (some (.pol p a b ns)) ∧ 0 ≤ a ∧ 0 ≤ b ∧ b < 4294967296 ∧ E.rt (ρ'.set i (some (.pool p))) r }) : JSs X sts ρ E := by
  intro F H σ fp D s o
  obtain ⟨v, hv, e1, q, a, b, ns, e2, n, h2, h3, g1, g2, g3⟩ := s.cells i _ hρ
  obtain ⟨f1, s1⟩ := s.change (c' := .pol p a b ns) (H' := H) hρ hv (fun _ _ => rfl) (fun a ha => (s.out i a ha).2) ⟨e1, q, e2, n, h2, h3⟩
  refine h a b ns g1 g2 g3 F H σ fp D s1 ⟨fun _ _ _ _ _ _ _ z => z.elim, ?_, fun _ _ _ _ _ _ _ z => z.elim, fun _ _ _ _ _ _ _ z => z.elim⟩
  rintro F' H' σ' fp' ρ' w r fn f' s' ro ⟨a', b', ns', d, rfl, q1, q2, q3, q4, q5⟩
  obtain ⟨v', hv', e1', q', e2', n', h2', h3'⟩ := s'.cells i _ q1
  obtain ⟨f2, s2⟩ := s'.change (c' := .pool p) (H' := H') q1 hv' (fun _ _ => rfl) (fun a ha => (s'.out i a ha).2) ⟨e1', q', a', b', ns', e2', n', h2', h3', q2, q3, q4⟩
  obtain ⟨r1, r2⟩ := ro
  subst r2
  exact o.rt F' H' σ' fp' _ w (.dat d) [] (f1.trans (f'.trans f2)) s2 ⟨r1, rfl⟩ q5
theorem je_pol0 (i : Nat) {x : Str} {p2 p3 : Pos} {j : Nat} {p : Addr} {a b : Int} {ns : List Int} (hN : X.N[i]? = some x) (hv : Vis X.env.scope x) (hd : (x == ("__debug__" : Str)) = false) (hcd : (x == ("__classdict__" : Str)) = false)
    (hρ : ρ[i]? = some (some (.pol p a b ns))) (k0 : k ρ (.dat (.int a))) (hs : PlainIx (.Constant (.int 0) j p3)) : JE X (.Subscript (.Name x p2) (.Constant (.int 0) j p3) pos) ρ k := by
  intro F H σ fp Q s q
  refine ofE (pe_ix ix_list (pe_var hN hv hd hcd) pe_int hs) ?_
  obtain ⟨t, g1, g2, g3, g4, g5⟩ := pol_at s hρ
  exact ⟨_, g1, p, _, 0, _, rfl, rfl, SqL.of g4, rfl, q F H fp ρ _ (.dat (.int a)) [] Fr.refl s ⟨.int _, rfl⟩ k0⟩
theorem je_pol1 (i : Nat) {x : Str} {p2 p3 : Pos} {j : Nat} {p : Addr} {a b : Int} {ns : List Int} (hN : X.N[i]? = some x) (hv : Vis X.env.scope x) (hd : (x == ("__debug__" : Str)) = false) (hcd : (x == ("__classdict__" : Str)) = false)
    (hρ : ρ[i]? = some (some (.pol p a b ns))) (k0 : k ρ (.dat (.int b))) (hs : PlainIx (.Constant (.int 1) j p3)) : JE X (.Subscript (.Name x p2) (.Constant (.int 1) j p3) pos) ρ k := by
  intro F H σ fp Q s q
  refine ofE (pe_ix ix_list (pe_var hN hv hd hcd) pe_int hs) ?_
  obtain ⟨t, g1, g2, g3, g4, g5⟩ := pol_at s hρ
  exact ⟨_, g1, p, _, 1, _, rfl, rfl, SqL.of g4, rfl, q F H fp ρ _ (.dat (.int b)) [] Fr.refl s ⟨.int _, rfl⟩ k0⟩
theorem je_pool0 (i : Nat) {x : Str} {p2 p3 : Pos} {j : Nat} {p : Addr} (hN : X.N[i]? = some x) (hv : Vis X.env.scope x) (hd : (x == ("__debug__" : Str)) = false) (hcd : (x == ("__classdict__" : Str)) = false)
    (hρ : ρ[i]? = some (some (.pool p))) (k0 : ∀ a, k ρ (.dat (.int a))) (hs : PlainIx (.Constant (.int 0) j p3)) : JE X (.Subscript (.Name x p2) (.Constant (.int 0) j p3) pos) ρ k := by
  intro F H σ fp Q s q
  refine ofE (pe_ix ix_list (pe_var hN hv hd hcd) pe_int hs) ?_
  obtain ⟨v, h1, e1, t, a, b, ns, e2, n, h2, h3, _⟩ := s.cells i _ hρ
  subst e1
  exact ⟨_, h1, p, _, 0, _, rfl, rfl, SqL.of h2, rfl, q F H fp ρ _ (.dat (.int a)) [] Fr.refl s ⟨.int _, rfl⟩ (k0 a)⟩
theorem cm_ints (ns : List Int) : Cm (.list (ns.map PyData.int)) := by
  refine ⟨?_, ?_⟩
  · simp only [good]
    exact goods_map (f := PyData.int) (fun a => by simp only [good]) ns
  · simp only [PyData.depth]
    have := depth_map (f := PyData.int) (n := 1) (fun a => by simp [PyData.depth]) ns
    omega
theorem je_polNe (hu : X.A.units + 64 < cLine) (i : Nat) {x : Str} {p2 p3 p4 p5 : Pos} {j : Nat} {p : Addr} {a b : Int} {ns : List Int} (hN : X.N[i]? = some x) (hv : Vis X.env.scope x) (hd : (x == ("__debug__" : Str)) = false) (hcd : (x == ("__classdict__" : Str)) = false)
    (hρ : ρ[i]? = some (some (.pol p a b ns))) (k0 : ∀ t : Bool, (t = true ↔ ns ≠ []) → k ρ (.dat (.bool t))) (hs : PlainIx (.Constant (.int 2) j p3)) (hm : behindInMarks .NotEq (.List [] p5) = false) :
    JE X (.Compare (.Subscript (.Name x p2) (.Constant (.int 2) j p3) p4) [.NotEq] [.List [] p5] pos) ρ k := by
  intro F H σ fp Q s q
  refine ofE (pe_cmpR (op_neD hu) (pe_ix ix_list (pe_var hN hv hd hcd) pe_int hs) (pe_lst pa_nil) hm) ?_
  obtain ⟨t, g1, g2, g3, g4, g5⟩ := pol_at s hρ
  refine ⟨_, g1, p, _, 2, .ref t, rfl, rfl, SqL.of g4, rfl, small_line (by simp), fun z hz => ?_⟩
  have s1 := s.made (o := .lst []) hz
  have nt : t ≠ z := fun w => by rw [w, hz] at g5; cases g5
  refine ⟨.list (ns.map PyData.int), .list [], .lst (SqL.of (by rw [upd_ne nt]; exact g5)) (DpAll.ints ns), .lst (SqL.of upd_same) .nil, (cm_ints ns).shaped, (cm_ints []).shaped, ?_⟩
  have z := eqv_iff (.list (ns.map PyData.int)) (.list []) (cm_ints ns).1 (cm_ints []).1
  refine q F _ fp ρ _ (.dat (.bool _)) [] (Fr.made s hz [] (by simp)) s1 ⟨.bl _, rfl⟩ (k0 _ ?_)
  cases e : PyData.eqv (.list (ns.map PyData.int)) (.list []) with
  | true =>
    have := z.mp e
    simp at this
    simp [this]
  | false =>
    refine ⟨fun _ w => ?_, fun _ => rfl⟩
    rw [z.mpr (by rw [w]; rfl)] at e
    cases e
/-- pool[2].pop(0) -/
theorem je_polPop (i : Nat) {x : Str} {p2 p3 p4 p5 apos : Pos} {j j2 : Nat} {p : Addr} {a b n : Int} {ns : List Int} (hN : X.N[i]? = some x) (hv : Vis X.env.scope x) (hd : (x == ("__debug__" : Str)) = false) (hcd : (x == ("__classdict__" : Str)) = false)
    (hρ : ρ[i]? = some (some (.pol p a b (n :: ns)))) (k0 : k (ρ.set i (some (.pol p a b ns))) (.dat (.int n))) (hs : PlainIx (.Constant (.int 2) j p3))
    (hbase : attributeBase (.Subscript (.Name x p2) (.Constant (.int 2) j p3) p4) "pop" X.env (eval (.Subscript (.Name x p2) (.Constant (.int 2) j p3) p4) X.env) = eval (.Subscript (.Name x p2) (.Constant (.int 2) j p3) p4) X.env)
    (hfew : ((backTo pos (starEach (.Constant (.int 0) j2 p5 :: []) X.env)).all (fun x => !x.1) && (backToKw pos (keywordEach [] X.env)).all (fun x => x.1.isSome) && decide ((Expr.Constant (.int 0) j2 p5 :: []).length + ([] : List Keyword).length + (if ([] : List Keyword).isEmpty then 0 else 1) < 30)) = true)
    (hline : (apos.endLine == pos.line) = true) (hst : starEach (.Constant (.int 0) j2 p5 :: []) X.env = (false, eval (.Constant (.int 0) j2 p5) X.env) :: starEach [] X.env) (hplain : (backTo pos (starEach [] X.env)).any (·.1) = false) :
    JE X (.Call (.Attribute (.Subscript (.Name x p2) (.Constant (.int 2) j p3) p4) "pop" apos) [.Constant (.int 0) j2 p5] [] pos) ρ k := by
  intro F H σ fp Q s q
  refine ofE (pe_bm PySem.F.plainAttrs_list PySem.F.slot_list_pop PySem.F.type_list_pop mt_popAt (pe_ix ix_list (pe_var hN hv hd hcd) pe_int hs) (pa_cons pe_int pa_nil hst) hbase hfew hline hst hplain) ?_
  obtain ⟨t, g1, g2, g3, g4, g5⟩ := pol_at s hρ
  refine ⟨_, g1, p, _, 2, .ref t, rfl, rfl, SqL.of g4, rfl, .inl ⟨rfl, _, SqL.of g5⟩, t, _, 0, 0, .int n, rfl, rfl, g5, by omega, by omega, ?_, rfl, ?_⟩
  · have z := seqIndex_of (k := (0 : Int)) (n := ((n :: ns).map V.int).length) (by omega) (by simp <;> omega)
    rw [z] <;> rfl
  obtain ⟨a1, a2⟩ := s.change (H' := upd H t (.lst (ns.map V.int))) (c' := .pol p a b ns) hρ g1 (fun y hy => upd_ne fun z => hy (by rw [g2, z]; simp)) (fun y hy => by
    by_cases z : y = t
    · rw [z, upd_same]; simp
    · rw [upd_ne z]; exact (s.out i y hy).2) ⟨rfl, t, g2, g3, by rw [upd_ne g3]; exact g4, upd_same⟩
  exact q F _ fp _ _ (.dat (.int n)) [] a1 a2 ⟨.int _, rfl⟩ k0
theorem js_pol0 (i : Nat) {x : Str} {p2 p3 tpos : Pos} {j : Nat} (h : JE X e ρ (asD fun ρ1 d => ∃ p a b ns n, ρ1[i]? = some (some (.pol p a b ns)) ∧ d = .int n ∧ E.nx (ρ1.set i (some (.pol p n b ns)))))
    (hN : X.N[i]? = some x) (hv : Vis X.env.scope x) (hd : (x == ("__debug__" : Str)) = false) (hcd : (x == ("__classdict__" : Str)) = false)
    (ha : ∀ v, assign (.Subscript (.Name x p2) (.Constant (.int 0) j p3) tpos) X.env v = (do
      let ov ← holding [v] (eval (.Name x p2) X.env)
      let iv ← holding [v, ov] (eval (.Constant (.int 0) j p3) X.env)
      standAt tpos
      holding [v, ov, iv] (setItem ov iv v)
      release [v, ov, iv] []))
    (hs : swapsWithSole [.Subscript (.Name x p2) (.Constant (.int 0) j p3) tpos] e pos.line X.env = pure false) (hw : swappedStores [.Subscript (.Name x p2) (.Constant (.int 0) j p3) tpos] e X.env = pure none) (h1 : (assignEach [.Subscript (.Name x p2) (.Constant (.int 0) j p3) tpos] X.env).map (·.2) = [assign (.Subscript (.Name x p2) (.Constant (.int 0) j p3) tpos) X.env]) :
    JS X (.Assign [.Subscript (.Name x p2) (.Constant (.int 0) j p3) tpos] e pos) ρ E := by
  intro F H σ fp D s o
  refine ofS (ps_asg meE (pg_sub (pe_var hN hv hd hcd) pe_int set_list ha) hs hw h1) ?_
  refine h.dat s fun F1 H1 fp1 ρ1 v d f1 s1 o1 k1 => ?_
  obtain ⟨p, a, b, ns, n, e1, rfl, k2⟩ := k1
  cases o1.intE
  obtain ⟨t, g1, g2, g3, g4, g5⟩ := pol_at s1 e1
  obtain ⟨a1, a2⟩ := s1.change (H' := upd H1 p (.lst [.int n, .int b, .ref t])) (c' := .pol p n b ns) e1 g1 (fun y hy => upd_ne fun z => hy (by rw [g2, z]; simp)) (fun y hy => by
    by_cases z : y = p
    · rw [z, upd_same]; simp
    · rw [upd_ne z]; exact (s1.out i y hy).2) ⟨rfl, t, g2, g3, upd_same, by rw [upd_ne (Ne.symm g3)]; exact g5⟩
  exact ⟨_, g1, p, _, 0, 0, rfl, rfl, g4, rfl, o.nx _ _ _ fp1 _ (f1.trans a1) a2 k2⟩
theorem js_pol1 (i : Nat) {x : Str} {p2 p3 tpos : Pos} {j : Nat} (h : JE X e ρ (asD fun ρ1 d => ∃ p a b ns n, ρ1[i]? = some (some (.pol p a b ns)) ∧ d = .int n ∧ E.nx (ρ1.set i (some (.pol p a n ns)))))
    (hN : X.N[i]? = some x) (hv : Vis X.env.scope x) (hd : (x == ("__debug__" : Str)) = false) (hcd : (x == ("__classdict__" : Str)) = false)
    (ha : ∀ v, assign (.Subscript (.Name x p2) (.Constant (.int 1) j p3) tpos) X.env v = (do
      let ov ← holding [v] (eval (.Name x p2) X.env)
      let iv ← holding [v, ov] (eval (.Constant (.int 1) j p3) X.env)
      standAt tpos
      holding [v, ov, iv] (setItem ov iv v)
      release [v, ov, iv] []))
    (hs : swapsWithSole [.Subscript (.Name x p2) (.Constant (.int 1) j p3) tpos] e pos.line X.env = pure false) (hw : swappedStores [.Subscript (.Name x p2) (.Constant (.int 1) j p3) tpos] e X.env = pure none) (h1 : (assignEach [.Subscript (.Name x p2) (.Constant (.int 1) j p3) tpos] X.env).map (·.2) = [assign (.Subscript (.Name x p2) (.Constant (.int 1) j p3) tpos) X.env]) :
    JS X (.Assign [.Subscript (.Name x p2) (.Constant (.int 1) j p3) tpos] e pos) ρ E := by
  intro F H σ fp D s o
  refine ofS (ps_asg meE (pg_sub (pe_var hN hv hd hcd) pe_int set_list ha) hs hw h1) ?_
  refine h.dat s fun F1 H1 fp1 ρ1 v d f1 s1 o1 k1 => ?_
  obtain ⟨p, a, b, ns, n, e1, rfl, k2⟩ := k1
  cases o1.intE
  obtain ⟨t, g1, g2, g3, g4, g5⟩ := pol_at s1 e1
  obtain ⟨a1, a2⟩ := s1.change (H' := upd H1 p (.lst [.int a, .int n, .ref t])) (c' := .pol p a n ns) e1 g1 (fun y hy => upd_ne fun z => hy (by rw [g2, z]; simp)) (fun y hy => by
    by_cases z : y = p
    · rw [z, upd_same]; simp
    · rw [upd_ne z]; exact (s1.out i y hy).2) ⟨rfl, t, g2, g3, upd_same, by rw [upd_ne (Ne.symm g3)]; exact g5⟩
  exact ⟨_, g1, p, _, 1, 1, rfl, rfl, g4, rfl, o.nx _ _ _ fp1 _ (f1.trans a1) a2 k2⟩
/-- [a, b, a list of ints]: a new pool -/
theorem je_poolNew (h : JN X [a, b, c] ρ fun ρ1 cs => ∃ (x y : Int) (q : Addr) (ns : List Int), cs = [.dat (.int x), .dat (.int y), .own q (ns.map PyData.int)] ∧ 0 ≤ x ∧ 0 ≤ y ∧ y < 4294967296 ∧ ∀ p, k ρ1 (.new (.pool p))) : JE X (.List [a, b, c] pos) ρ k := by
  intro F H σ fp Q s q
  refine ofE (pe_lst meA) ?_
  refine h F H σ fp _ s fun F1 H1 fp1 ρ1 vs cs fm f1 s1 o1 k1 => ?_
  obtain ⟨x, y, t, ns, rfl, g1, g2, g3, k2⟩ := k1
  cases o1 with
  | @cons v1 _ _ _ fn1 fm1 a1 a2 t1 a3 =>
    cases t1 with
    | @cons v2 _ _ _ fn2 fm2 b1 b2 t2 b3 =>
      cases t2 with
      | @cons v3 _ _ _ fn3 fm3 c1 c2 t3 c3 =>
        cases t3
        obtain ⟨a4, rfl⟩ := a1
        obtain ⟨b4, rfl⟩ := b1
        obtain ⟨c4, rfl, us, c5, c6⟩ := c1
        cases a4.intE
        cases b4.intE
        subst c4
        cases (DpAll.ofInts c6)
        refine ⟨small_line (by simp), fun p hp => ?_⟩
        obtain ⟨t1, t2, t3⟩ := c2 t (by simp)
        obtain ⟨n1, n2⟩ := s1.fresh hp
        have np : p ≠ t := fun z => by rw [z] at hp; exact t2 hp
        have ne : ∀ a, H1 a ≠ none → a ≠ p := fun a h z => h (z ▸ hp)
        refine q F1 _ fp1 ρ1 _ (.new (.pool p)) [p, t] ⟨f1.ex, fun y h1 h2 h3 => ?_, fun y h => ?_⟩ (s1.made hp) ⟨⟨rfl, t, x, y, ns, rfl, np, upd_same, by rw [upd_ne (Ne.symm np)]; exact c5, g1, g2, g3⟩, fun y hy => ?_⟩ (k2 p)
        · obtain ⟨p1, p2, p3, p4⟩ := f1.old y h1 h2 h3
          have n := ne y (f1.dom y h2)
          rw [upd_ne n]
          refine ⟨p1, p2, p3, fun z => ?_⟩
          have : y = p ∨ y = t := by simpa using z
          rcases this with z | z
          · exact n z
          · exact p4 (by simp [z])
        · have n := ne y (f1.dom y h)
          rw [upd_ne n]
          exact f1.dom y h
        · have : y = p ∨ y = t := by simpa using hy
          rcases this with z | z
          · subst z
            exact ⟨n1, by rw [upd_same]; simp, n2⟩
          · subst z
            exact ⟨t1, by rw [upd_ne (Ne.symm np)]; exact t2, t3⟩

/-! ## lists in a list -/
theorem lots_at {K : PySem.W.Frag} {F H : Hp} {σ : L2.St} {fp : Nat → List Addr} {i : Nat} {p : Addr} {xs : List (List PyData)} (s : St K F H σ ρ fp) (h : ρ[i]? = some (some (.lots p xs))) :
    ∃ qs : List Addr, σ[i]? = some (some (.ref p)) ∧ fp i = p :: qs ∧ (p :: qs).Nodup ∧ H p = some (.lst (qs.map V.ref)) ∧ LotsOk K F H qs xs := by
  obtain ⟨v, h1, e1, qs, e2, n, h2, h3⟩ := s.cells i _ h
  subst e1
  exact ⟨qs, h1, e2, n, h2, h3⟩
theorem LotsOk.get {K : PySem.W.Frag} {F H : Hp} : ∀ {qs : List Addr} {xs : List (List PyData)} {j : Nat} {ds : List PyData}, LotsOk K F H qs xs → xs[j]? = some ds → ∃ q vs, qs[j]? = some q ∧ H q = some (.lst vs) ∧ DpAll K F vs ds
  | [], [], j, ds, _, h => by simp at h
  | q :: qs, d :: xs, 0, ds, ⟨⟨vs, h1, h2⟩, _⟩, h => by
    cases (Option.some.inj h)
    exact ⟨q, vs, rfl, h1, h2⟩
  | q :: qs, d :: xs, j + 1, ds, ⟨_, t⟩, h => by
    obtain ⟨q', vs, h1, h2, h3⟩ := LotsOk.get (j := j) t (by simpa using h)
    exact ⟨q', vs, by simpa using h1, h2, h3⟩
theorem LotsOk.put {K : PySem.W.Frag} {F H : Hp} {q : Addr} {vs : List V} {ds : List PyData} (hv : DpAll K F vs ds) : ∀ {qs : List Addr} {xs : List (List PyData)} {j : Nat}, LotsOk K F H qs xs → qs.Nodup → qs[j]? = some q → LotsOk K F (upd H q (.lst vs)) qs (xs.set j ds)
  | [], [], _, _, _, h => by simp at h
  | q0 :: qs, d :: xs, 0, ⟨_, t⟩, nd, h => by
    cases (Option.some.inj h)
    refine ⟨⟨vs, upd_same, hv⟩, t.ex (Same.refl _) fun a ha => upd_ne fun z => ?_⟩
    exact (List.nodup_cons.mp nd).1 (z ▸ ha)
  | q0 :: qs, d :: xs, j + 1, ⟨⟨us, h1, h2⟩, t⟩, nd, h => by
    have h' : qs[j]? = some q := by simpa using h
    have nq : q0 ≠ q := fun z => (List.nodup_cons.mp nd).1 (z ▸ List.mem_of_getElem? h')
    exact ⟨⟨us, by rw [upd_ne nq]; exact h1, h2⟩, LotsOk.put hv t (List.nodup_cons.mp nd).2 h'⟩
theorem LotsOk.len {K : PySem.W.Frag} {F H : Hp} : ∀ {qs : List Addr} {xs : List (List PyData)}, LotsOk K F H qs xs → qs.length = xs.length
  | [], [], _ => rfl
  | q :: qs, d :: xs, ⟨_, t⟩ => by rw [List.length_cons, List.length_cons, LotsOk.len t]
theorem lots_put {K : PySem.W.Frag} {F H : Hp} {σ : L2.St} {fp : Nat → List Addr} {i j : Nat} {p q : Addr} {xs : List (List PyData)} {vs : List V} {ds : List PyData} (s : St K F H σ ρ fp) (h : ρ[i]? = some (some (.lots p xs))) {qs : List Addr}
    (h1 : σ[i]? = some (some (.ref p))) (h2 : fp i = p :: qs) (h3 : (p :: qs).Nodup) (h4 : H p = some (.lst (qs.map V.ref))) (h5 : LotsOk K F H qs xs) (hq : qs[j]? = some q) (hv : DpAll K F vs ds) :
    Fr F H fp F (upd H q (.lst vs)) fp [] ∧ St K F (upd H q (.lst vs)) σ (ρ.set i (some (.lots p (xs.set j ds)))) fp := by
  have mq : q ∈ qs := List.mem_of_getElem? hq
  have np : p ≠ q := fun z => (List.nodup_cons.mp h3).1 (z ▸ mq)
  refine s.change h h1 (fun a ha => upd_ne fun z => ha (by rw [h2, z]; exact List.mem_cons_of_mem _ mq)) (fun a ha => ?_) ⟨rfl, qs, h2, h3, by rw [upd_ne np]; exact h4, h5.put hv (List.nodup_cons.mp h3).2 hq⟩
  by_cases z : a = q
  · rw [z, upd_same]; simp
  · rw [upd_ne z]; exact (s.out i a ha).2
theorem atI_ref {qs : List Addr} {j : Nat} {q : Addr} (h : qs[j]? = some q) : atI (qs.map V.ref) (j : Int) = some (.ref q) := by
  have hl : j < qs.length := (List.getElem?_eq_some_iff.mp h).1
  unfold atI ixN
  rw [if_pos (by omega), if_pos (by rw [List.length_map]; omega), Int.toNat_natCast]
  show (qs.map V.ref)[j]? = _
  rw [List.getElem?_map, h]
  rfl
/-- lots[e] != [] -/
theorem je_lotsNe (hu : X.A.units + 64 < cLine) (i : Nat) {x : Str} {p2 p4 p5 : Pos} {p : Addr} {xs : List (List PyData)} (hN : X.N[i]? = some x) (hv : Vis X.env.scope x) (hd : (x == ("__debug__" : Str)) = false) (hcd : (x == ("__classdict__" : Str)) = false)
    (hρ : ρ[i]? = some (some (.lots p xs))) (h : JE X e ρ (asD fun ρ1 d => ∃ (j : Nat) (ds : List PyData), ρ1[i]? = some (some (.lots p xs)) ∧ d = .int j ∧ xs[j]? = some ds ∧ Cm (.list ds) ∧ ∀ t : Bool, (t = true ↔ ds ≠ []) → k ρ1 (.dat (.bool t)))) (hs : PlainIx e) (hm : behindInMarks .NotEq (.List [] p5) = false) :
    JE X (.Compare (.Subscript (.Name x p2) e p4) [.NotEq] [.List [] p5] pos) ρ k := by
  intro F H σ fp Q s q
  refine ofE (pe_cmpR (op_neD hu) (pe_ix ix_list (pe_var hN hv hd hcd) meE hs) (pe_lst pa_nil) hm) ?_
  obtain ⟨qs, g1, _⟩ := lots_at s hρ
  refine ⟨_, g1, ?_⟩
  refine h.dat s fun F1 H1 fp1 ρ1 v d f1 s1 o1 k1 => ?_
  obtain ⟨j, ds, e1, rfl, e2, cm, k2⟩ := k1
  cases o1.intE
  obtain ⟨qs, t1, t2, t3, t4, t5⟩ := lots_at s1 e1
  obtain ⟨q0, vs, t6, t7, t8⟩ := t5.get e2
  refine ⟨p, _, _, .ref q0, rfl, rfl, SqL.of t4, atI_ref t6, small_line (by simp), fun z hz => ?_⟩
  have s2 := s1.made (o := .lst []) hz
  have nt : q0 ≠ z := fun w => by rw [w, hz] at t7; cases t7
  refine ⟨.list ds, .list [], .lst (SqL.of (by rw [upd_ne nt]; exact t7)) (DpAll_ex s2.ex t8), .lst (SqL.of upd_same) .nil, cm.shaped, (cm_ints []).shaped, ?_⟩
  have z := eqv_iff (.list ds) (.list []) cm.1 (cm_ints []).1
  refine q F1 _ fp1 ρ1 _ (.dat (.bool _)) [] (f1.trans (Fr.made s1 hz [] (by simp))) s2 ⟨.bl _, rfl⟩ (k2 _ ?_)
  cases e : PyData.eqv (.list ds) (.list []) with
  | true =>
    have := z.mp e
    simp at this
    simp [this]
  | false =>
    refine ⟨fun _ w => ?_, fun _ => rfl⟩
    rw [z.mpr (by rw [w])] at e
    cases e
/-- lots[e].append(y), y a name -/
theorem js_lotsAppend (i l : Nat) {x y : Str} {p2 p4 p6 apos cpos : Pos} {p : Addr} {xs0 : List (List PyData)} (hN : X.N[i]? = some x) (hv : Vis X.env.scope x) (hd : (x == ("__debug__" : Str)) = false) (hcd : (x == ("__classdict__" : Str)) = false)
    (hNy : X.N[l]? = some y) (hvy : Vis X.env.scope y) (hdy : (y == ("__debug__" : Str)) = false) (hcdy : (y == ("__classdict__" : Str)) = false)
    (hρ : ρ[i]? = some (some (.lots p xs0))) (h : JE X e ρ (asD fun ρ1 d1 => ∃ (j : Nat) (xs : List (List PyData)) (ds : List PyData) (d2 : PyData), ρ1[i]? = some (some (.lots p xs)) ∧ d1 = .int j ∧ xs[j]? = some ds ∧ ρ1[l]? = some (some (.dat d2)) ∧ ds.length < 100000 ∧ E.nx (ρ1.set i (some (.lots p (xs.set j (ds ++ [d2])))))))
    (hs : PlainIx e) (hbase : attributeBase (.Subscript (.Name x p2) e p4) "append" X.env (eval (.Subscript (.Name x p2) e p4) X.env) = eval (.Subscript (.Name x p2) e p4) X.env)
    (hfew : ((backTo cpos (starEach (.Name y p6 :: []) X.env)).all (fun x => !x.1) && (backToKw cpos (keywordEach [] X.env)).all (fun x => x.1.isSome) && decide ((Expr.Name y p6 :: []).length + ([] : List Keyword).length + (if ([] : List Keyword).isEmpty then 0 else 1) < 30)) = true)
    (hline : (apos.endLine == cpos.line) = true) (hst : starEach (.Name y p6 :: []) X.env = (false, eval (.Name y p6) X.env) :: starEach [] X.env) (hplain : (backTo cpos (starEach [] X.env)).any (·.1) = false)
    (hsw : swapsWith (.Call (.Attribute (.Subscript (.Name x p2) e p4) "append" apos) [.Name y p6] [] cpos) none pos.line X.env = pure false) : JS X (.Expr (.Call (.Attribute (.Subscript (.Name x p2) e p4) "append" apos) [.Name y p6] [] cpos) pos) ρ E := by
  intro F H σ fp D s o
  refine ofS (ps_expr (pe_bm PySem.F.plainAttrs_list PySem.F.slot_list_append PySem.F.type_list_append mt_append (pe_ix ix_list (pe_var hN hv hd hcd) meE hs) (pa_cons (pe_var hNy hvy hdy hcdy) pa_nil hst) hbase hfew hline hst hplain) hsw) ?_
  obtain ⟨qs, g1, _⟩ := lots_at s hρ
  refine ⟨_, g1, ?_⟩
  refine h.dat s fun F1 H1 fp1 ρ1 v d f1 s1 o1 k1 => ?_
  obtain ⟨j, xs, ds, d2, e1, rfl, hj, e2, hz, k2⟩ := k1
  cases o1.intE
  obtain ⟨qs, t1, t2, t3, t4, t5⟩ := lots_at s1 e1
  obtain ⟨q0, vs, t6, t7, t8⟩ := t5.get hj
  obtain ⟨u, u1, u2, _⟩ := s1.cells l _ e2
  rw [g1] at t1
  obtain ⟨a1, a2⟩ := lots_put (ds := ds ++ [d2]) s1 e1 g1 t2 t3 t4 t5 t6 (t8.append (.cons u2 .nil))
  refine ⟨p, _, _, .ref q0, rfl, rfl, SqL.of t4, atI_ref t6, .inl ⟨rfl, _, SqL.of t7⟩, u, u1, q0, vs, u, rfl, rfl, t7, Nat.lt_of_lt_of_le (show vs.length < 100000 by rw [t8.length]; exact hz) (by decide), ?_⟩
  exact o.nx _ _ _ fp1 _ (f1.trans a1) a2 k2
/-- lots[e].pop(0) -/
theorem je_lotsPop (i : Nat) {x : Str} {p2 p4 p5 apos : Pos} {j2 : Nat} {p : Addr} {xs0 : List (List PyData)} (hN : X.N[i]? = some x) (hv : Vis X.env.scope x) (hd : (x == ("__debug__" : Str)) = false) (hcd : (x == ("__classdict__" : Str)) = false)
    (hρ : ρ[i]? = some (some (.lots p xs0))) (h : JE X e ρ (asD fun ρ1 d1 => ∃ (j : Nat) (xs : List (List PyData)) (d2 : PyData) (ds : List PyData), ρ1[i]? = some (some (.lots p xs)) ∧ d1 = .int j ∧ xs[j]? = some (d2 :: ds) ∧ k (ρ1.set i (some (.lots p (xs.set j ds)))) (.dat d2)))
    (hs : PlainIx e) (hbase : attributeBase (.Subscript (.Name x p2) e p4) "pop" X.env (eval (.Subscript (.Name x p2) e p4) X.env) = eval (.Subscript (.Name x p2) e p4) X.env)
    (hfew : ((backTo pos (starEach (.Constant (.int 0) j2 p5 :: []) X.env)).all (fun x => !x.1) && (backToKw pos (keywordEach [] X.env)).all (fun x => x.1.isSome) && decide ((Expr.Constant (.int 0) j2 p5 :: []).length + ([] : List Keyword).length + (if ([] : List Keyword).isEmpty then 0 else 1) < 30)) = true)
    (hline : (apos.endLine == pos.line) = true) (hst : starEach (.Constant (.int 0) j2 p5 :: []) X.env = (false, eval (.Constant (.int 0) j2 p5) X.env) :: starEach [] X.env) (hplain : (backTo pos (starEach [] X.env)).any (·.1) = false) :
    JE X (.Call (.Attribute (.Subscript (.Name x p2) e p4) "pop" apos) [.Constant (.int 0) j2 p5] [] pos) ρ k := by
  intro F H σ fp Q s q
  refine ofE (pe_bm PySem.F.plainAttrs_list PySem.F.slot_list_pop PySem.F.type_list_pop mt_popAt (pe_ix ix_list (pe_var hN hv hd hcd) meE hs) (pa_cons pe_int pa_nil hst) hbase hfew hline hst hplain) ?_
  obtain ⟨qs, g1, _⟩ := lots_at s hρ
  refine ⟨_, g1, ?_⟩
  refine h.dat s fun F1 H1 fp1 ρ1 v d f1 s1 o1 k1 => ?_
  obtain ⟨j, xs, d2, ds, e1, rfl, hj, k2⟩ := k1
  cases o1.intE
  obtain ⟨qs, t1, t2, t3, t4, t5⟩ := lots_at s1 e1
  obtain ⟨q0, vs, t6, t7, t8⟩ := t5.get hj
  rw [g1] at t1
  cases t8 with
  | @cons w ws _ _ hw hws =>
    obtain ⟨a1, a2⟩ := lots_put (ds := ds) s1 e1 g1 t2 t3 t4 t5 t6 hws
    refine ⟨p, _, _, .ref q0, rfl, rfl, SqL.of t4, atI_ref t6, .inl ⟨rfl, _, SqL.of t7⟩, q0, _, 0, 0, w, rfl, rfl, t7, by omega, by omega, ?_, rfl, ?_⟩
    · have z := seqIndex_of (k := (0 : Int)) (n := (w :: ws).length) (by omega) (by simp <;> omega)
      rw [z] <;> rfl
    · exact q _ _ fp1 _ w (.dat d2) [] (f1.trans a1) a2 ⟨hw, rfl⟩ k2
theorem LotsOk.fresh {K : PySem.W.Frag} {F H : Hp} : ∀ {qs : List Addr}, (∀ q ∈ qs, H q = some (.lst [])) → LotsOk K F H qs (List.replicate qs.length [])
  | [], _ => trivial
  | q :: qs, h => ⟨⟨[], h q (by simp), .nil⟩, LotsOk.fresh fun a ha => h a (List.mem_cons_of_mem _ ha)⟩
/-- [[] for .. in ..] -/
theorem je_lcLots {scope : Scope} (own : List (Str × Nat)) (j : Nat) {p5 : Pos} (h : JI X tg iter ρ fun ρ1 n f => n ≤ 1000 ∧ j < ρ1.length ∧ (∀ d, wipeE (setAll (wipeE ρ1 (own.map (·.2))) [j] [Cell.dat d]) (own.map (·.2)) = wipeE ρ1 (own.map (·.2))) ∧ ∀ p, k (wipeE ρ1 (own.map (·.2))) (.new (.lots p (List.replicate n []))))
    (hj : j ∈ own.map (·.2)) (ht : TgOk X scope tg [j])
    (hc : X.calm = true) (hN : X.N.Nodup) (ok : BlkOk X.N X.env.scope scope own) (hs : ∀ x, foldedSetIterable iter X.env x = pure x) : JE X (.ListComp (.List [] p5) [⟨tg, iter, [], 0⟩] scope pos) ρ k := by
  intro F H σ fp Q s q
  refine ofE (pe_lc hc hN meI ok meBG (meBC (cond := none)) meBE hs) ?_
  refine h F H σ fp _ s fun F1 H1 fp1 ρ1 n f J G Y f1 s1 w hG hY k1 => ?_
  obtain ⟨hn, hjl, hw, hd⟩ := k1
  intro D hD
  have fD := s1.fresh hD
  have hjs : ∀ i ∈ [j], i ∈ own.map (·.2) := fun i hi => by
    obtain rfl : i = j := by simpa using hi
    exact hj
  refine lc_it w (fun i H' => ∃ F' fp' qs, Fr F1 H1 fp1 F' H' fp' (D :: qs) ∧ St X.K F' H' σ (wipeE ρ1 (own.map (·.2))) fp' ∧ (∀ a ∈ D :: qs, F' a = none ∧ ∀ j, a ∉ fp' j) ∧ (D :: qs).Nodup ∧ H' D = some (.lst (qs.map V.ref)) ∧ (∀ a ∈ qs, H' a = some (.lst [])) ∧ qs.length = i)
    ⟨F1, fp1, [], Fr.made s1 hD [D] (by simp), (s1.made hD).forget, fun a ha => ?_, by simp, upd_same, by simp, rfl⟩ (fun i H' _ ⟨F', fp', qs, g1, g2, _⟩ => hG F' H' g1.ex g2.ex) ?_ ?_
  · obtain rfl : a = D := by simpa using ha
    exact ⟨fD.1, fD.2⟩
  · rintro i x H2 H3 hi ⟨F2, fp2, qs, g1, g2, g3, g4, g5, g6, g7⟩ y
    obtain ⟨F3, y1, y2, y3⟩ := hY i F2 H2 σ _ fp2 x H3 hi g1.ex g2 y
    have dm : ∀ a ∈ D :: qs, H2 a ≠ none := fun a ha => by
      rcases List.mem_cons.mp ha with z | z
      · rw [z, g5]; simp
      · rw [g6 a z]; simp
    have o3 : ∀ a ∈ D :: qs, F3 a = none ∧ H3 a = H2 a ∧ (∀ j, a ∉ fp2 j) := fun a ha => by
      obtain ⟨d1, d2, d3, _⟩ := y1.old a (g3 a ha).1 (dm a ha) (g3 a ha).2
      exact ⟨d1, d2, d3⟩
    refine ht X.K x (f i) [f i] _ F3 H3 _ rfl y2.ex y3 (.one j _) fun xs hxs => ⟨wipe_setAll hjs, ?_⟩
    obtain ⟨fp4, s4, f4⟩ := St.setAll (is := [j]) (F0 := F3) (H0 := H3) (fp0 := fp2) y2.wiped2 Fr.refl (oks_dat hxs) rfl (fun i hi => by
      obtain rfl : i = j := by simpa using hi
      rw [wipeE_len]; exact hjl)
    have o4 : ∀ a ∈ D :: qs, ∀ j, a ∉ fp4 j := fun a ha => by
      obtain ⟨d1, d2, d3⟩ := o3 a ha
      exact (f4.old a d1 (by rw [d2]; exact dm a ha) d3).2.2.1
    refine yes_go ?_
    rw [if_pos rfl]
    intro s0 H0 C cl fpx
    refine ofE (pe_lst pa_nil) ⟨small_line (by simp), fun t ht => ?_⟩
    have nt : ∀ a ∈ D :: qs, a ≠ t := fun a ha z => by
      obtain ⟨d1, d2, d3⟩ := o3 a ha
      exact dm a ha (by rw [← d2, z]; exact ht)
    have ft := s4.fresh ht
    refine ⟨qs.map V.ref, by rw [upd_ne (nt D (by simp)), (o3 D (by simp)).2.1, g5], Nat.lt_of_le_of_lt (show (qs.map V.ref).length ≤ 1000 by rw [List.length_map]; omega) (by decide), F3, (fun i => if i ∈ own.map (·.2) then [] else fp4 i), qs ++ [t], ?_⟩
    have sb := St.back (σ := σ) (ρ := ρ1) (s4.made (o := .lst []) ht) (wipe_setAll hjs) (hw (f i))
    have fr : Fr F1 H1 fp1 F3 H3 fp4 (D :: qs) := by
      have z := (g1.trans y1).trans f4
      refine ⟨z.ex, fun a h1 h2 h3 => ?_, z.dom⟩
      obtain ⟨p1, p2, p3, _⟩ := z.old a h1 h2 h3
      obtain ⟨_, _, _, p4⟩ := g1.old a h1 h2 h3
      exact ⟨p1, p2, p3, p4⟩
    have nDt : t ≠ D := Ne.symm (nt D (by simp))
    have hA : ∀ a, H3 a ≠ none → a ≠ t := fun a h z => h (z ▸ ht)
    refine ⟨⟨fr.ex, fun a h1 h2 h3 => ?_, fun a h => ?_⟩, ?_, fun a ha => ?_, ?_, ?_, fun a ha => ?_, by rw [List.length_append, List.length_singleton, g7]⟩
    · obtain ⟨p1, p2, p3, p4⟩ := fr.old a h1 h2 h3
      have n1 : a ≠ D := fun z => p4 (by simp [z])
      have n2 := hA a (fr.dom a h2)
      rw [upd_ne n1, upd_ne n2]
      refine ⟨p1, p2, fun i => ?_, fun z => ?_⟩
      · split
        · simp
        · exact p3 i
      · have : a ∈ D :: qs ∨ a = t := by
          rcases List.mem_cons.mp z with z | z
          · exact .inl (by simp [z])
          · rcases List.mem_append.mp z with z | z
            · exact .inl (List.mem_cons_of_mem _ z)
            · exact .inr (by simpa using z)
        rcases this with z | z
        · exact p4 z
        · exact n2 z
    · by_cases n1 : a = D
      · rw [n1, upd_same]; simp
      · rw [upd_ne n1, upd_ne (hA a (fr.dom a h))]
        exact fr.dom a h
    · refine ⟨Same.mut sb.ex (o3 D (by simp)).1, sb.len, fun i c hc => ?_, fun i a ha => ?_, sb.sep⟩
      · obtain ⟨u, h1, h2⟩ := sb.cells i c hc
        refine ⟨u, h1, h2.fr (Same.refl _) fun a ha => upd_ne fun z => ?_⟩
        split at ha
        · simp at ha
        · exact o4 D (by simp) i (z ▸ ha)
      · have ha' := sb.out i a ha
        have na : a ≠ D := fun z => by
          rw [z] at ha
          split at ha
          · simp at ha
          · exact o4 D (by simp) i ha
        rw [upd_ne na]
        exact ha'
    · have : a ∈ D :: qs ∨ a = t := by
        rcases List.mem_cons.mp ha with z | z
        · exact .inl (by simp [z])
        · rcases List.mem_append.mp z with z | z
          · exact .inl (List.mem_cons_of_mem _ z)
          · exact .inr (by simpa using z)
      rcases this with z | z
      · refine ⟨(o3 a z).1, fun i => ?_⟩
        try dsimp only
        split
        · simp
        · exact o4 a z i
      · subst z
        refine ⟨ft.1, fun i => ?_⟩
        try dsimp only
        split
        · simp
        · exact ft.2 i
    · have nd := List.nodup_cons.mp g4
      refine List.nodup_cons.mpr ⟨fun z => ?_, ?_⟩
      · rcases List.mem_append.mp z with z | z
        · exact nd.1 z
        · exact nt D (by simp) (by simpa using z)
      · refine List.nodup_append.mpr ⟨nd.2, by simp, fun a ha b hb => ?_⟩
        obtain rfl : b = t := by simpa using hb
        exact nt a (List.mem_cons_of_mem _ ha)
    · rw [upd_same, List.map_append]
      rfl
    · rcases List.mem_append.mp ha with z | z
      · have n1 : a ≠ D := fun w => (List.nodup_cons.mp g4).1 (w ▸ z)
        rw [upd_ne n1, upd_ne (nt a (List.mem_cons_of_mem _ z)), (o3 a (List.mem_cons_of_mem _ z)).2.1]
        exact g6 a z
      · obtain rfl : a = t := by simpa using z
        rw [upd_ne nDt, upd_same]
  · rintro H2 ⟨F2, fp2, qs, g1, g2, g3, g4, g5, g6, g7⟩
    have z := LotsOk.fresh (K := X.K) (F := F2) g6
    rw [g7] at z
    refine q F2 H2 fp2 _ (.ref D) (.new (.lots D (List.replicate n []))) (D :: qs) (f1.trans g1) g2 ⟨⟨rfl, qs, rfl, g4, g5, z⟩, fun a ha => ⟨(g3 a ha).1, ?_, (g3 a ha).2⟩⟩ (hd D)
    rcases List.mem_cons.mp ha with w | w
    · rw [w, g5]; simp
    · rw [g6 a w]; simp
end
end TW

namespace TW
open PySem PySem.Spec PyProof.Rows L2
section
variable {X : Cx} {e a b c o : Expr} {es : List Expr} {ρ : En} {k : En → Bool → Prop} {pos : Pos}
/-! ## comparisons as tests -/
/-- the truth of a result -/
abbrev tr_ (k : En → Bool → Prop) : En → Res → Prop := fun ρ r => match r with
  | .dat (.bool t) => k ρ t
  | _ => False
theorem jt_cmp {op : CmpOp} {r : R2} (ho : OpR X (compareOp op) r) (hm : behindInMarks op b = false) (h : JE X a ρ (asD fun ρ1 d1 => JE X b ρ1 (asD fun ρ2 d2 => Bin X.K r d1 d2 (tr_ k ρ2)))) : JT X (.Compare a [op] [b] pos) ρ k := by
  intro F H σ fp Q s q
  refine ofT (pt_cmpR ho meE meE hm) ?_
  show tOp r (tE X a) (tE X b) σ H fun x H' => ∃ t, x = .bl t ∧ Q t H'
  refine bin_tOp (k := tr_ k) h s fun F' H' fp' ρ' v r fn f s' ro kr => ?_
  cases r with
  | dat d =>
    cases d with
    | bool t =>
      obtain ⟨r1, r2⟩ := ro
      subst r2
      exact ⟨t, r1.blE, q F' H' fp' ρ' t f s' kr⟩
    | _ => exact kr.elim
  | _ => exact kr.elim
theorem jt_cmp2 {op : CmpOp} {r : R2} (ho : OpR X (compareOp op) r) {W : PyData → PyData → (Res → Prop) → Prop} (hw : ∀ d1 d2 kk, W d1 d2 kk → Bin X.K r d1 d2 kk) (hm : behindInMarks op b = false)
    (h : JE X a ρ (asD fun ρ1 d1 => JE X b ρ1 (asD fun ρ2 d2 => W d1 d2 (tr_ k ρ2)))) : JT X (.Compare a [op] [b] pos) ρ k :=
  jt_cmp ho hm (h.mono fun _ _ z => asD_mono (fun _ _ z => z.mono fun _ _ z => asD_mono (fun _ _ z => hw _ _ _ z) z) z)
abbrev IntT (g : Int → Int → Bool) : PyData → PyData → (Bool → Prop) → Prop := fun d1 d2 kk => ∃ i j, d1 = .int i ∧ d2 = .int j ∧ kk (g i j)
theorem jt_lt (h : JE X a ρ (asD fun ρ1 d1 => JE X b ρ1 (asD fun ρ2 d2 => IntT (fun i j => decide (i < j)) d1 d2 (k ρ2)))) (hm : behindInMarks .Lt b = false) : JT X (.Compare a [.Lt] [b] pos) ρ k := jt_cmp2 op_lt (W := fun d1 d2 kk => ∃ i j, d1 = .int i ∧ d2 = .int j ∧ kk (.dat (.bool (decide (i < j))))) (fun _ _ _ ⟨i, j, e1, e2, z⟩ => by subst e1 e2; exact bin_B0 (g := fun i j => decide (i < j)) z) hm h
theorem jt_gt (h : JE X a ρ (asD fun ρ1 d1 => JE X b ρ1 (asD fun ρ2 d2 => IntT (fun i j => decide (j < i)) d1 d2 (k ρ2)))) (hm : behindInMarks .Gt b = false) : JT X (.Compare a [.Gt] [b] pos) ρ k := jt_cmp2 op_gt (W := fun d1 d2 kk => ∃ i j, d1 = .int i ∧ d2 = .int j ∧ kk (.dat (.bool (decide (j < i))))) (fun _ _ _ ⟨i, j, e1, e2, z⟩ => by subst e1 e2; exact bin_B0 (g := fun i j => decide (j < i)) z) hm h
theorem jt_ge (h : JE X a ρ (asD fun ρ1 d1 => JE X b ρ1 (asD fun ρ2 d2 => IntT (fun i j => decide (j ≤ i)) d1 d2 (k ρ2)))) (hm : behindInMarks .GtE b = false) : JT X (.Compare a [.GtE] [b] pos) ρ k := jt_cmp2 op_ge (W := fun d1 d2 kk => ∃ i j, d1 = .int i ∧ d2 = .int j ∧ kk (.dat (.bool (decide (j ≤ i))))) (fun _ _ _ ⟨i, j, e1, e2, z⟩ => by subst e1 e2; exact bin_B0 (g := fun i j => decide (j ≤ i)) z) hm h
/-- == and != of plain data -/
abbrev EqT : PyData → PyData → (Bool → Prop) → Prop := fun d1 d2 kk => (∃ d, SeqAt.shaped d = true ∧ d1 = d ∧ d2 = d ∧ kk true) ∨ (Cm d1 ∧ Cm d2 ∧ ∀ t : Bool, (t = true ↔ d1 = d2) → kk t)
abbrev NeT : PyData → PyData → (Bool → Prop) → Prop := fun d1 d2 kk => (∃ d, SeqAt.shaped d = true ∧ d1 = d ∧ d2 = d ∧ kk false) ∨ (Cm d1 ∧ Cm d2 ∧ ∀ t : Bool, (t = true ↔ d1 ≠ d2) → kk t)
theorem jt_eq (hu : X.A.units + 64 < cLine) (h : JE X a ρ (asD fun ρ1 d1 => JE X b ρ1 (asD fun ρ2 d2 => EqT d1 d2 (k ρ2)))) (hm : behindInMarks .Eq b = false) : JT X (.Compare a [.Eq] [b] pos) ρ k := jt_cmp2 (op_eqD hu) (W := EqK) (fun d1 d2 kk z => by
  rcases z with ⟨d, h1, h2, h3, z⟩ | ⟨h1, h2, z⟩
  · exact bin_eqS h1 h2 h3 z
  · exact bin_eq h1 h2 z) hm h
theorem jt_ne (hu : X.A.units + 64 < cLine) (h : JE X a ρ (asD fun ρ1 d1 => JE X b ρ1 (asD fun ρ2 d2 => NeT d1 d2 (k ρ2)))) (hm : behindInMarks .NotEq b = false) : JT X (.Compare a [.NotEq] [b] pos) ρ k := jt_cmp2 (op_neD hu) (W := NeK) (fun d1 d2 kk z => by
  rcases z with ⟨d, h1, h2, h3, z⟩ | ⟨h1, h2, z⟩
  · exact bin_neS h1 h2 h3 z
  · exact bin_ne h1 h2 z) hm h
theorem jt_notN {p2 : Pos} {j : Nat} (h : JE X a ρ (asD fun ρ1 d1 => (d1 = .none → k ρ1 false) ∧ (d1 ≠ .none → k ρ1 true))) (hm : behindInMarks .IsNot (.Constant .none j p2) = false) : JT X (.Compare a [.IsNot] [.Constant .none j p2] pos) ρ k := by
  intro F H σ fp Q s q
  refine ofT (pt_cmpR op_notN meE pe_non hm) ?_
  refine h.dat s fun F1 H1 fp1 ρ1 v d f1 s1 o1 k1 => ?_
  refine ⟨rfl, ?_⟩
  by_cases hd : d = .none
  · subst hd
    cases o1.nonE
    exact ⟨false, rfl, q F1 H1 fp1 ρ1 false f1 s1 (k1.1 rfl)⟩
  · have hv : v ≠ .non := fun z => by
      subst z
      cases o1
      exact hd rfl
    have e : decide (v = V.non) = false := decide_eq_false hv
    exact ⟨true, by rw [e]; rfl, q F1 H1 fp1 ρ1 true f1 s1 (k1.2 hd)⟩
theorem jt_inS (h : JE X a ρ (asD fun ρ1 d1 => JE X b ρ1 (asD fun ρ2 d2 => ∃ (i : Int) (ns : List Int), d1 = .int i ∧ d2 = .tuple (ns.map PyData.int) ∧ ∀ t : Bool, (t = true ↔ i ∈ ns) → k ρ2 t))) (hm : behindInMarks .In b = false) : JT X (.Compare a [.In] [b] pos) ρ k :=
  jt_cmp2 op_in_seq (W := fun d1 d2 kk => ∃ (i : Int) (ns : List Int), d1 = .int i ∧ d2 = .tuple (ns.map PyData.int) ∧ ∀ t : Bool, (t = true ↔ i ∈ ns) → kk (.dat (.bool t))) (fun d1 d2 kk ⟨i, ns, e1, e2, z⟩ => by
    subst e1 e2
    intro F H σ ρ fp v1 v2 Q s r1 r2 q
    cases r1.intE
    obtain ⟨p2, us, rfl, h3, h4⟩ := r2.tupE
    cases DpAll.ofInts h4
    exact ⟨p2, _, rfl, .inr (Same.seqT s.ex h3), rfl, flat_ints ns, q F H fp _ (.dat _) [] Fr.refl s ⟨.bl _, rfl⟩ (z _ (inV_int ns))⟩) hm h
theorem jt_leT (hu : X.A.units < cLine) (h : JE X a ρ (asD fun ρ1 d1 => JE X b ρ1 (asD fun ρ2 d2 => ∃ ns ms : List Int, d1 = .tuple (ns.map PyData.int) ∧ d2 = .tuple (ms.map PyData.int) ∧
    k ρ2 (Ob.lexAt (fun j => decide (ns.getD j 0 = ms.getD j 0)) (fun j => decide (ns.getD j 0 ≤ ms.getD j 0)) (decide (ns.length ≤ ms.length)) 0 (min ns.length ms.length))))) (hm : behindInMarks .LtE b = false) : JT X (.Compare a [.LtE] [b] pos) ρ k :=
  jt_cmp2 (op_leT hu) (W := fun d1 d2 kk => ∃ ns ms : List Int, d1 = .tuple (ns.map PyData.int) ∧ d2 = .tuple (ms.map PyData.int) ∧
    kk (.dat (.bool (Ob.lexAt (fun j => decide (ns.getD j 0 = ms.getD j 0)) (fun j => decide (ns.getD j 0 ≤ ms.getD j 0)) (decide (ns.length ≤ ms.length)) 0 (min ns.length ms.length))))) (fun d1 d2 kk ⟨ns, ms, e1, e2, z⟩ => by
    subst e1 e2
    intro F H σ ρ fp v1 v2 Q s r1 r2 q
    obtain ⟨p1, vs, rfl, h1, h2⟩ := r1.tupE
    obtain ⟨p2, us, rfl, h3, h4⟩ := r2.tupE
    cases DpAll.ofInts h2
    cases DpAll.ofInts h4
    exact ⟨p1, p2, ns, ms, rfl, rfl, Same.seqT s.ex h1, Same.seqT s.ex h3, q F H fp _ (.dat _) [] Fr.refl s ⟨.bl _, rfl⟩ z⟩) hm h
/-- lots[e] != [] as a test -/
theorem jt_lotsNe (hu : X.A.units + 64 < cLine) (i : Nat) {x : Str} {p2 p4 p5 : Pos} {p : Addr} {xs : List (List PyData)} (hN : X.N[i]? = some x) (hv : Vis X.env.scope x) (hd : (x == ("__debug__" : Str)) = false) (hcd : (x == ("__classdict__" : Str)) = false)
    (hρ : ρ[i]? = some (some (.lots p xs))) (h : JE X e ρ (asD fun ρ1 d => ∃ (j : Nat) (ds : List PyData), ρ1[i]? = some (some (.lots p xs)) ∧ d = .int j ∧ xs[j]? = some ds ∧ Cm (.list ds) ∧ ∀ t : Bool, (t = true ↔ ds ≠ []) → k ρ1 t)) (hs : PlainIx e) (hm : behindInMarks .NotEq (.List [] p5) = false) :
    JT X (.Compare (.Subscript (.Name x p2) e p4) [.NotEq] [.List [] p5] pos) ρ k := by
  intro F H σ fp Q s q
  refine ofT (pt_cmpR (op_neD hu) (pe_ix ix_list (pe_var hN hv hd hcd) meE hs) (pe_lst pa_nil) hm) ?_
  obtain ⟨qs, g1, _⟩ := lots_at s hρ
  refine ⟨_, g1, ?_⟩
  refine h.dat s fun F1 H1 fp1 ρ1 v d f1 s1 o1 k1 => ?_
  obtain ⟨j, ds, e1, rfl, e2, cm, k2⟩ := k1
  cases o1.intE
  obtain ⟨qs, t1, t2, t3, t4, t5⟩ := lots_at s1 e1
  obtain ⟨q0, vs, t6, t7, t8⟩ := t5.get e2
  refine ⟨p, _, _, .ref q0, rfl, rfl, SqL.of t4, atI_ref t6, small_line (by simp), fun z hz => ?_⟩
  have s2 := s1.made (o := .lst []) hz
  have nt : q0 ≠ z := fun w => by rw [w, hz] at t7; cases t7
  refine ⟨.list ds, .list [], .lst (SqL.of (by rw [upd_ne nt]; exact t7)) (DpAll_ex s2.ex t8), .lst (SqL.of upd_same) .nil, cm.shaped, (cm_ints []).shaped, ?_⟩
  have z := eqv_iff (.list ds) (.list []) cm.1 (cm_ints []).1
  refine ⟨_, rfl, q F1 _ fp1 ρ1 _ (f1.trans (Fr.made s1 hz [] (by simp))) s2 (k2 _ ?_)⟩
  cases e : PyData.eqv (.list ds) (.list []) with
  | true =>
    have := z.mp e
    simp at this
    simp [this]
  | false =>
    refine ⟨fun _ w => ?_, fun _ => rfl⟩
    rw [z.mpr (by rw [w])] at e
    cases e
theorem jt_polNe (hu : X.A.units + 64 < cLine) (i : Nat) {x : Str} {p2 p3 p4 p5 : Pos} {j : Nat} {p : Addr} {a b : Int} {ns : List Int} (hN : X.N[i]? = some x) (hv : Vis X.env.scope x) (hd : (x == ("__debug__" : Str)) = false) (hcd : (x == ("__classdict__" : Str)) = false)
    (hρ : ρ[i]? = some (some (.pol p a b ns))) (k0 : ∀ t : Bool, (t = true ↔ ns ≠ []) → k ρ t) (hs : PlainIx (.Constant (.int 2) j p3)) (hm : behindInMarks .NotEq (.List [] p5) = false) :
    JT X (.Compare (.Subscript (.Name x p2) (.Constant (.int 2) j p3) p4) [.NotEq] [.List [] p5] pos) ρ k := by
  intro F H σ fp Q s q
  refine ofT (pt_cmpR (op_neD hu) (pe_ix ix_list (pe_var hN hv hd hcd) pe_int hs) (pe_lst pa_nil) hm) ?_
  obtain ⟨t, g1, g2, g3, g4, g5⟩ := pol_at s hρ
  refine ⟨_, g1, p, _, 2, .ref t, rfl, rfl, SqL.of g4, rfl, small_line (by simp), fun z hz => ?_⟩
  have s1 := s.made (o := .lst []) hz
  have nt : t ≠ z := fun w => by rw [w, hz] at g5; cases g5
  refine ⟨.list (ns.map PyData.int), .list [], .lst (SqL.of (by rw [upd_ne nt]; exact g5)) (DpAll.ints ns), .lst (SqL.of upd_same) .nil, (cm_ints ns).shaped, (cm_ints []).shaped, ?_⟩
  have z := eqv_iff (.list (ns.map PyData.int)) (.list []) (cm_ints ns).1 (cm_ints []).1
  refine ⟨_, rfl, q F _ fp ρ _ (Fr.made s hz [] (by simp)) s1 (k0 _ ?_)⟩
  cases e : PyData.eqv (.list (ns.map PyData.int)) (.list []) with
  | true =>
    have := z.mp e
    simp at this
    simp [this]
  | false =>
    refine ⟨fun _ w => ?_, fun _ => rfl⟩
    rw [z.mpr (by rw [w]; rfl)] at e
    cases e
end
end TW

namespace TW
open PySem PySem.Spec PyProof.Rows L2
section
variable (P : Program) (w : World) (K : PySem.W.Frag) (mg : Str → Option Value) (base : Heap)
/-- the class's methods: where they stand -/
def GM (m qual : Str) (st : Stmt) : Prop := ∃ f fd, Fun K m qual st f fd ∧ Meth K (engC K) m f
def GI (st : Stmt) : Prop := ∃ f fd, Fun K "__init__" "Engine.__init__" st f fd ∧ Mk K (engC K) f ∧ mg "Engine" = some (.ref (engC K))
def GS (m qual : Str) (st : Stmt) : Prop := ∃ q g fd mc rest, ClX.CRead K (engC K) mc ∧ PySem.W.findCls K (.ref (engC K)) mc m = some (.get (.builtin "staticmethod.__get__") (.ref q) .none (.ref (engC K))) ∧ PySem.W.recIn K q "staticmethod" = some (.ref g :: rest) ∧
  PySem.W.keepIn K (.ref g) = true ∧ Fun K m qual st g fd ∧ mg "Engine" = some (.ref (engC K))
/-- .. and what they promise -/
structure MetOk (n : Nat) (m : Str) (ps : List Str) (S : Spec) : Prop where
  ex : ∃ f fd, FnOk P w K mg base CX0 n f fd ps (spOf K S) ∧ Meth K (engC K) m f ∧ Binds K fd ps []
structure MkOk (n : Nat) (ps : List Str) (S : Spec) : Prop where
  ex : ∃ f fd, FnOk P w K mg base CX0 n f fd ps (spOf K S) ∧ Mk K (engC K) f ∧ mg "Engine" = some (.ref (engC K)) ∧ Binds K fd ps []
structure StaOk (n : Nat) (m : Str) (ps : List Str) (S : Spec) : Prop where
  ex : ∃ q g fd mc rest, ClX.CRead K (engC K) mc ∧ PySem.W.findCls K (.ref (engC K)) mc m = some (.get (.builtin "staticmethod.__get__") (.ref q) .none (.ref (engC K))) ∧ PySem.W.recIn K q "staticmethod" = some (.ref g :: rest) ∧
    PySem.W.keepIn K (.ref g) = true ∧ FnOk P w K mg base CX0 n g fd ps (spOf K S) ∧ mg "Engine" = some (.ref (engC K)) ∧ Binds K fd ps []
end
section
variable {P : Program} {w : World} {K : PySem.W.Frag} {mg : Str → Option Value} {base : Heap}
theorem metD {x qual : Str} {st : Stmt} {N ps : List Str} {k : Nat} {S : Spec} (g : GM K x qual st) (Sc : FnScope N ps (defScope st)) (hps : ps.length ≤ N.length)
    (hb : ∀ (kV doc pm : Value) (an : Option Addr) (cdv ct : Value) (us : List Value), us.length = ps.length → bindArgs (PySem.W.fnOf x qual (defArgs st) (defBody st) (defScope st) .none kV doc pm an cdv ct) ⟨us, []⟩ = pure (ps.zip us)) (hl : ∀ cs R, S cs R → cs.length = ps.length)
    (body : ∀ (f : Addr) (cdv : Value) (A : Around) (outer : List Env) (s : Shared) (H : Hp) (E : XK) (cs : List Cell) (R : List Cell → Res → Prop), Room k (A.deeper (envOfC qual (defScope st) s.heap.objs.size f cdv)) → S cs R →
      JSs (cxOf CX0 P w K mg base N qual (defScope st) f cdv A outer s H E).nox (defBody st) (cs.map some ++ List.replicate (N.length - ps.length) none) (endOf cs R)) : MetOk P w K mg base (k + 1) x ps S := by
  obtain ⟨f, fd, F, hm⟩ := g
  exact ⟨f, fd, def_ok F Sc hps hl (fun cdv A outer s H E cs R hr hS => body _ cdv A outer s H E cs R hr hS), hm, F.binds hb⟩
theorem iniD {st : Stmt} {N ps : List Str} {k : Nat} {S : Spec} (g : GI K mg st) (Sc : FnScope N ps (defScope st)) (hps : ps.length ≤ N.length)
    (hb : ∀ (kV doc pm : Value) (an : Option Addr) (cdv ct : Value) (us : List Value), us.length = ps.length → bindArgs (PySem.W.fnOf "__init__" "Engine.__init__" (defArgs st) (defBody st) (defScope st) .none kV doc pm an cdv ct) ⟨us, []⟩ = pure (ps.zip us)) (hl : ∀ cs R, S cs R → cs.length = ps.length)
    (body : ∀ (f : Addr) (cdv : Value) (A : Around) (outer : List Env) (s : Shared) (H : Hp) (E : XK) (cs : List Cell) (R : List Cell → Res → Prop), Room k (A.deeper (envOfC "Engine.__init__" (defScope st) s.heap.objs.size f cdv)) → S cs R →
      JSs (cxOf CX0 P w K mg base N "Engine.__init__" (defScope st) f cdv A outer s H E).nox (defBody st) (cs.map some ++ List.replicate (N.length - ps.length) none) (endOf cs R)) : MkOk P w K mg base (k + 1) ps S := by
  obtain ⟨f, fd, F, hm, hg⟩ := g
  exact ⟨f, fd, def_ok F Sc hps hl (fun cdv A outer s H E cs R hr hS => body _ cdv A outer s H E cs R hr hS), hm, hg, F.binds hb⟩
theorem staD {x qual : Str} {st : Stmt} {N ps : List Str} {k : Nat} {S : Spec} (g : GS K mg x qual st) (Sc : FnScope N ps (defScope st)) (hps : ps.length ≤ N.length)
    (hb : ∀ (kV doc pm : Value) (an : Option Addr) (cdv ct : Value) (us : List Value), us.length = ps.length → bindArgs (PySem.W.fnOf x qual (defArgs st) (defBody st) (defScope st) .none kV doc pm an cdv ct) ⟨us, []⟩ = pure (ps.zip us)) (hl : ∀ cs R, S cs R → cs.length = ps.length)
    (body : ∀ (f : Addr) (cdv : Value) (A : Around) (outer : List Env) (s : Shared) (H : Hp) (E : XK) (cs : List Cell) (R : List Cell → Res → Prop), Room k (A.deeper (envOfC qual (defScope st) s.heap.objs.size f cdv)) → S cs R →
      JSs (cxOf CX0 P w K mg base N qual (defScope st) f cdv A outer s H E).nox (defBody st) (cs.map some ++ List.replicate (N.length - ps.length) none) (endOf cs R)) : StaOk P w K mg base (k + 1) x ps S := by
  obtain ⟨q, g, fd, mc, rest, r, e1, e2, e3, F, hg⟩ := g
  exact ⟨q, g, fd, mc, rest, r, e1, e2, e3, def_ok F Sc hps hl (fun cdv A outer s H E cs R hr hS => body _ cdv A outer s H E cs R hr hS), hg, F.binds hb⟩
end
section
variable {X : Cx} {e : Expr} {es : List Expr} {ρ : En} {k : En → Res → Prop} {pos : Pos}
theorem je_methD (i : Nat) {x m : Str} {p2 apos : Pos} {p : Addr} {fs : List (Str × PyData)} {pl : Sem Bool} {n : Nat} {ps : List Str} {S : Spec} (M : MetOk X.prog X.w X.K X.mg X.base n m ps S) (cl : Cls X.K (engC X.K)) (hr : Room n X.A)
    (hρ : ρ[i]? = some (some (.ins p fs))) (hf : fs.lookup m = none) (h : JA X (e :: es) ρ fun ρ1 rs => CallK S k ρ1 (.cel i :: rs))
    (hN : X.N[i]? = some x) (hv : Vis X.env.scope x) (hd : (x == ("__debug__" : Str)) = false) (hcd : (x == ("__classdict__" : Str)) = false)
    (hst : starEach (e :: es) X.env = (false, eval e X.env) :: starEach es X.env) (hpl : (backTo pos (starEach es X.env)).any (·.1) = false)
    (ht : eval (.Call (.Attribute (.Name x p2) m apos) (e :: es) [] pos) X.env = (do
      let ov ← eval (.Name x p2) X.env
      standAt apos.atName
      let (f, first) ← holding [ov] (getMethod ov m pl)
      callWith pos f first (backTo pos (starEach (e :: es) X.env)) (backToKw pos (keywordEach [] X.env)))) : JE X (.Call (.Attribute (.Name x p2) m apos) (e :: es) [] pos) ρ k := by
  obtain ⟨f, fd, G, hm, hb⟩ := M.ex
  exact je_meth i cl hm G hr hb hρ hf h hN hv hd hcd hst hpl ht
theorem je_meth0D (i : Nat) {x m : Str} {p2 apos : Pos} {p : Addr} {fs : List (Str × PyData)} {pl : Sem Bool} {n : Nat} {ps : List Str} {S : Spec} (M : MetOk X.prog X.w X.K X.mg X.base n m ps S) (cl : Cls X.K (engC X.K)) (hr : Room n X.A)
    (hρ : ρ[i]? = some (some (.ins p fs))) (hf : fs.lookup m = none) (h : CallK S k ρ [.cel i])
    (hN : X.N[i]? = some x) (hv : Vis X.env.scope x) (hd : (x == ("__debug__" : Str)) = false) (hcd : (x == ("__classdict__" : Str)) = false)
    (ht : eval (.Call (.Attribute (.Name x p2) m apos) [] [] pos) X.env = (do
      let ov ← eval (.Name x p2) X.env
      standAt apos.atName
      let (f, first) ← holding [ov] (getMethod ov m pl)
      callWith pos f first (backTo pos (starEach [] X.env)) (backToKw pos (keywordEach [] X.env)))) : JE X (.Call (.Attribute (.Name x p2) m apos) [] [] pos) ρ k := by
  obtain ⟨f, fd, G, hm, hb⟩ := M.ex
  exact je_meth0 i cl hm G hr hb hρ hf h hN hv hd hcd ht
theorem je_makeD {p : Pos} {n : Nat} {ps : List Str} {S : Spec} (M : MkOk X.prog X.w X.K X.mg X.base n ps S) (hr : Room (n + 1) X.A)
    (h : JA X (e :: es) ρ (MakeK S k)) (hg : Gl X "Engine") (he : starEach (e :: es) X.env = (false, eval e X.env) :: starEach es X.env) (hpl : (backTo pos (starEach es X.env)).any (·.1) = false) : JE X (.Call (.Name "Engine" p) (e :: es) [] pos) ρ k := by
  obtain ⟨f, fd, G, hm, hg2, hb⟩ := M.ex
  exact je_make hm G hr hg2 hb h hg (by decide) he hpl
theorem je_staticD {m : Str} {p2 apos : Pos} {pl : Sem Bool} {n : Nat} {ps : List Str} {S : Spec} (M : StaOk X.prog X.w X.K X.mg X.base n m ps S) (hr : Room n X.A) (h : JA X (e :: es) ρ (CallK S k)) (hg : Gl X "Engine")
    (hst : starEach (e :: es) X.env = (false, eval e X.env) :: starEach es X.env) (hpl : (backTo pos (starEach es X.env)).any (·.1) = false)
    (ht : eval (.Call (.Attribute (.Name "Engine" p2) m apos) (e :: es) [] pos) X.env = (do
      let ov ← eval (.Name "Engine" p2) X.env
      standAt apos.atName
      let (f, first) ← holding [ov] (getMethod ov m pl)
      callWith pos f first (backTo pos (starEach (e :: es) X.env)) (backToKw pos (keywordEach [] X.env)))) : JE X (.Call (.Attribute (.Name "Engine" p2) m apos) (e :: es) [] pos) ρ k := by
  obtain ⟨q, g, fd, mc, rest, r, e1, e2, e3, G, hg2, hb⟩ := M.ex
  exact je_static hg2 r e1 e2 e3 G hr hb h hg (by decide) hst hpl ht
theorem isAt {a : Expr} {x : Str} (h : JE X (.Attribute a x pos) ρ k) : JE X (.Attribute a x pos) ρ k := h
theorem isMc {a : Expr} {x : Str} {p2 : Pos} {es : List Expr} {ks : List Keyword} (h : JE X (.Call (.Attribute a x p2) es ks pos) ρ k) : JE X (.Call (.Attribute a x p2) es ks pos) ρ k := h
theorem isAs {tg e : Expr} {p2 : Pos} {E : Po} {x : Str} (h : JS X (.Assign [.Attribute tg x p2] e pos) ρ E) : JS X (.Assign [.Attribute tg x p2] e pos) ρ E := h
theorem celND {rs : List Res} {i : Nat} (h : celIx rs = [i]) : (celIx rs).Nodup := by rw [h]; simp
theorem exAt {ρ : En} {i : Nat} {p : Addr} {fs : List (Str × PyData)} {P : Addr → List (Str × PyData) → Prop} (e : ρ[i]? = some (some (.ins p fs))) (l : Nat.ble (fs.length + 1) 100 = true) (h : P p fs) : ∃ p fs, ρ[i]? = some (some (.ins p fs)) ∧ fs.length < 100 ∧ P p fs := ⟨p, fs, e, Nat.le_of_ble_eq_true l, h⟩
theorem isN {es : List Expr} {kn : En → List Cell → Prop} (h : JN X es ρ kn) : JN X es ρ kn := h
theorem exIC {C : Int → Int → Prop} {g : Int → Int → Int} {i j : Int} {kk : Res → Prop} (c : C i j) (h : kk (.dat (.int (g i j)))) : IntC C g (.int i) (.int j) kk := ⟨i, j, rfl, rfl, c, h⟩
theorem exCs {cs : List Cell} {P : List Cell → Prop} (h : P cs) : P cs := h
theorem exN2 {c1 c2 : Cell} {i j : Nat} {ρ1 : En} {nx : En → Prop} (l1 : Nat.ble (i + 1) ρ1.length = true) (l2 : Nat.ble (j + 1) ρ1.length = true) (h : nx ((ρ1.set i (some c1)).set j (some c2))) :
    ∃ d1 d2, [c1, c2] = [d1, d2] ∧ i < ρ1.length ∧ j < ρ1.length ∧ nx ((ρ1.set i (some d1)).set j (some d2)) := ⟨c1, c2, rfl, Nat.le_of_ble_eq_true l1, Nat.le_of_ble_eq_true l2, h⟩
theorem exN3 {c1 c2 c3 : Cell} {i j l : Nat} {ρ1 : En} {nx : En → Prop} (l1 : Nat.ble (i + 1) ρ1.length = true) (l2 : Nat.ble (j + 1) ρ1.length = true) (l3 : Nat.ble (l + 1) ρ1.length = true) (h : nx (((ρ1.set i (some c1)).set j (some c2)).set l (some c3))) :
    ∃ d1 d2 d3, [c1, c2, c3] = [d1, d2, d3] ∧ i < ρ1.length ∧ j < ρ1.length ∧ l < ρ1.length ∧ nx (((ρ1.set i (some d1)).set j (some d2)).set l (some d3)) := ⟨c1, c2, c3, rfl, Nat.le_of_ble_eq_true l1, Nat.le_of_ble_eq_true l2, Nat.le_of_ble_eq_true l3, h⟩
theorem atI_last {α : Type} {f : α → PyData} {xs : List α} {x : α} : atI ((xs ++ [x]).map f) (-1) = some (f x) := by
  unfold atI ixN
  rw [if_neg (by omega), if_pos (by simp; omega)]
  show ((xs ++ [x]).map f)[(((((xs ++ [x]).map f).length : Nat) : Int) + -1).toNat]? = _
  rw [List.length_map, List.length_append, List.length_singleton, show (((xs.length + 1 : Nat) : Int) + -1).toNat = xs.length by omega, List.getElem?_map]
  simp
end
end TW

namespace TW
open PySem PySem.Spec PyProof.Rows L2
section
variable {X : Cx} {e a b : Expr} {es : List Expr} {ρ : En} {pos : Pos} {k : En → Bool → Prop}
theorem celND2 {rs : List Res} {i j : Nat} (h : celIx rs = [i, j]) (n : i ≠ j) : (celIx rs).Nodup := by
  rw [h]
  simp [n]
/-- x != [], x a list of the slot's own -/
theorem jt_ownNe (hu : X.A.units + 64 < cLine) (i : Nat) {x : Str} {p2 p5 : Pos} {p : Addr} {ds : List PyData} (hN : X.N[i]? = some x) (hv : Vis X.env.scope x) (hd : (x == ("__debug__" : Str)) = false) (hcd : (x == ("__classdict__" : Str)) = false)
    (hρ : ρ[i]? = some (some (.own p ds))) (k0 : Cm (.list ds) ∧ ∀ t : Bool, (t = true ↔ ds ≠ []) → k ρ t) (hm : behindInMarks .NotEq (.List [] p5) = false) :
    JT X (.Compare (.Name x p2) [.NotEq] [.List [] p5] pos) ρ k := by
  obtain ⟨cm, k0⟩ := k0
  intro F H σ fp Q s q
  refine ofT (pt_cmpR (op_neD hu) (pe_var hN hv hd hcd) (pe_lst pa_nil) hm) ?_
  obtain ⟨vs, g1, g2, g3, g4⟩ := own_at s hρ
  refine ⟨_, g1, small_line (by simp), fun z hz => ?_⟩
  have s1 := s.made (o := .lst []) hz
  have nt : p ≠ z := fun w => by rw [w, hz] at g3; cases g3
  refine ⟨.list ds, .list [], .lst (SqL.of (by rw [upd_ne nt]; exact g3)) (DpAll_ex s1.ex g4), .lst (SqL.of upd_same) .nil, cm.shaped, (cm_ints []).shaped, ?_⟩
  have z := eqv_iff (.list ds) (.list []) cm.1 (cm_ints []).1
  refine ⟨_, rfl, q F _ fp ρ _ (Fr.made s hz [] (by simp)) s1 (k0 _ ?_)⟩
  cases e : PyData.eqv (.list ds) (.list []) with
  | true =>
    have := z.mp e
    simp at this
    simp [this]
  | false =>
    refine ⟨fun _ w => ?_, fun _ => rfl⟩
    rw [z.mpr (by rw [w])] at e
    cases e
end
end TW

namespace TW
open PySem PySem.Spec PyProof.Rows L2
structure Yd where
  k : Nat
  l : Nat
  tr : List (Nat × Nat)
structure Sd where
  w : List Nat
  f : List (List Nat)
  s : List (List Nat)
  g : Nat
inductive Wd where
  | inn
  | over
  | out
  deriving DecidableEq
structure Mv where
  wd : Wd
  ix : Nat
def Wd.str : Wd → Str
  | .inn => "in"
  | .over => "over"
  | .out => "out"
abbrev dN (n : Nat) : PyData := .int (n : Int)
abbrev dL (xs : List Nat) : PyData := .tuple (xs.map dN)
abbrev dP (p : Nat × Nat) : PyData := .tuple [dN p.1, dN p.2]
abbrev dY (y : Yd) : PyData := .tuple [dN y.k, dN y.l, .tuple (y.tr.map dP)]
abbrev dS (s : Sd) : PyData := .tuple [dL s.w, .tuple (s.f.map dL), .tuple (s.s.map dL), dN s.g]
abbrev dM (m : Mv) : PyData := .tuple [.str m.wd.str, dN m.ix]
abbrev dJ (j : List Mv) : PyData := .tuple (j.map dM)
def lexLt (p q : Nat × Nat) : Prop := p.1 < q.1 ∨ (p.1 = q.1 ∧ p.2 < q.2)
structure YdOk (y : Yd) : Prop where
  k1 : 1 ≤ y.k
  k2 : y.k ≤ 12
  l1 : 1 ≤ y.l
  l2 : y.l ≤ 12
  len : y.tr.length ≤ 60
  rng : ∀ p ∈ y.tr, p.1 < y.k ∧ p.2 < y.l
  asc : y.tr.Pairwise lexLt
structure RowOk (r : List Nat) : Prop where
  len : r.length ≤ 400
  perm : r.Perm (List.range r.length)
structure StOk (y : Yd) (r : List Nat) (s : Sd) : Prop where
  wz : s.w.length ≤ r.length
  wr : s.w = r.drop (r.length - s.w.length)
  fl : s.f.length = y.k
  sl : s.s.length = y.l
  gz : s.g ≤ r.length
  perm : (List.range s.g ++ s.w ++ s.f.flatten ++ s.s.flatten).Perm (List.range r.length)
structure DealOk (y : Yd) (r d : List Nat) : Prop where
  len : d.length = r.length
  rng : ∀ t ∈ d, t < y.tr.length
/-! plainness -/
theorem dN_inj {a b : Nat} : dN a = dN b ↔ a = b := by
  simp only [dN, PyData.int.injEq]
  omega
theorem map_inj {α : Type} {f : α → PyData} (h : ∀ a b, f a = f b → a = b) : ∀ {xs ys : List α}, xs.map f = ys.map f → xs = ys
  | [], [], _ => rfl
  | [], _ :: _, e => by simp at e
  | _ :: _, [], e => by simp at e
  | x :: xs, y :: ys, e => by
    rw [List.map_cons, List.map_cons, List.cons.injEq] at e
    rw [h x y e.1, map_inj h e.2]
theorem dL_inj {a b : List Nat} (h : dL a = dL b) : a = b := map_inj (fun _ _ => dN_inj.mp) (PyData.tuple.inj h)
theorem dLs_inj {a b : List (List Nat)} (h : a.map dL = b.map dL) : a = b := map_inj (fun _ _ => dL_inj) h
theorem wd_inj {a b : Wd} (h : a.str = b.str) : a = b := by
  cases a <;> cases b <;> first | rfl | exact absurd h (by decide)
theorem dM_inj {a b : Mv} (h : dM a = dM b) : a = b := by
  obtain ⟨a, i⟩ := a
  obtain ⟨b, j⟩ := b
  have e := PyData.tuple.inj h
  simp only [List.cons.injEq, PyData.str.injEq, and_true] at e
  rw [wd_inj e.1, dN_inj.mp e.2]
theorem dJ_inj {a b : List Mv} (h : dJ a = dJ b) : a = b := map_inj (fun _ _ => dM_inj) (PyData.tuple.inj h)
theorem dS_inj {a b : Sd} (h : dS a = dS b) : a = b := by
  obtain ⟨w, f, s, g⟩ := a
  obtain ⟨w', f', s', g'⟩ := b
  have e := PyData.tuple.inj h
  simp only [List.cons.injEq, PyData.tuple.injEq, and_true] at e
  rw [map_inj (fun _ _ => dN_inj.mp) e.1, dLs_inj e.2.1, dLs_inj e.2.2.1, dN_inj.mp e.2.2.2]
theorem good_N (n : Nat) : good (dN n) = true := by simp only [dN, good]
theorem good_L (n : List Nat) : good (dL n) = true := by
  simp only [dL, good]
  exact goods_map good_N n
theorem good_Ls (n : List (List Nat)) : good (.tuple (n.map dL)) = true := by
  simp only [good]
  exact goods_map good_L n
theorem good_S (s : Sd) : good (dS s) = true := by
  have h1 := good_L s.w
  have h2 := good_Ls s.f
  have h3 := good_Ls s.s
  have h4 := good_N s.g
  unfold dS
  simp only [good, goods, Bool.and_true] at h1 h2 h3 h4 ⊢
  simp only [h1, h2, h3, Bool.and_self]
theorem good_M (m : Mv) : good (dM m) = true := by
  have h1 : PyData.strOk m.wd.str = true := by cases m.wd <;> decide +kernel
  unfold dM
  simp only [good, goods, h1, Bool.and_self]
theorem good_J (j : List Mv) : good (dJ j) = true := by
  simp only [dJ, good]
  exact goods_map good_M j
theorem dep_N (n : Nat) : (dN n).depth ≤ 1 := by simp [dN, PyData.depth]
theorem dep_L (n : List Nat) : (dL n).depth ≤ 2 := by
  simp only [dL, PyData.depth]
  have := depth_map dep_N n
  omega
theorem dep_Ls (n : List (List Nat)) : (PyData.tuple (n.map dL)).depth ≤ 3 := by
  simp only [PyData.depth]
  have := depth_map dep_L n
  omega
theorem dep_M (m : Mv) : (dM m).depth ≤ 2 := by
  simp [dM, PyData.depth, PyData.depthAll]
theorem dep_J (j : List Mv) : (dJ j).depth ≤ 3 := by
  simp only [dJ, PyData.depth]
  have := depth_map dep_M j
  omega
theorem dep_S (s : Sd) : (dS s).depth ≤ 4 := by
  have h1 := dep_L s.w
  have h2 := dep_Ls s.f
  have h3 := dep_Ls s.s
  have h4 := dep_N s.g
  simp only [dS, PyData.depth, PyData.depthAll] at h1 h2 h3 h4 ⊢
  omega
theorem cm_N (n : Nat) : Cm (dN n) := ⟨good_N n, by have := dep_N n; omega⟩
theorem cm_I (n : Int) : Cm (.int n) := ⟨by simp only [good], by simp [PyData.depth]⟩
theorem cm_L (n : List Nat) : Cm (dL n) := ⟨good_L n, by have := dep_L n; omega⟩
theorem cm_Ls (n : List (List Nat)) : Cm (.tuple (n.map dL)) := ⟨good_Ls n, by have := dep_Ls n; omega⟩
theorem cm_S (s : Sd) : Cm (dS s) := ⟨good_S s, by have := dep_S s; omega⟩
theorem cm_M (s : Mv) : Cm (dM s) := ⟨good_M s, by have := dep_M s; omega⟩
theorem cm_J (s : List Mv) : Cm (dJ s) := ⟨good_J s, by have := dep_J s; omega⟩
theorem cm_nil : Cm (.tuple []) := cm_J []
theorem cm_nilL : Cm (.list []) := cm_ints []
theorem cm_W (w : Wd) : Cm (.str w.str) := ⟨by simp only [good]; cases w <;> decide +kernel, by simp [PyData.depth]⟩
theorem cm_two {d e : PyData} (h1 : Cm d) (h2 : Cm e) (h3 : d.depth ≤ 60) (h4 : e.depth ≤ 60) : Cm (.tuple [d, e]) := by
  refine ⟨?_, ?_⟩
  · simp only [good, goods, h1.1, h2.1, Bool.and_self]
  · simp only [PyData.depth, PyData.depthAll]
    omega
theorem cm_JS (j : List Mv) (s : Sd) : Cm (.tuple [dJ j, dS s]) := cm_two (cm_J j) (cm_S s) (by have := dep_J j; omega) (by have := dep_S s; omega)
/-! reading -/
theorem atI_map {α : Type} {f : α → PyData} {xs : List α} {i : Nat} {x : α} (h : xs[i]? = some x) : atI (xs.map f) (i : Int) = some (f x) := by
  have hl : i < xs.length := (List.getElem?_eq_some_iff.mp h).1
  unfold atI ixN
  rw [if_pos (by omega), if_pos (by rw [List.length_map]; omega), Int.toNat_natCast]
  show (xs.map f)[i]? = _
  rw [List.getElem?_map, h]
  rfl
theorem cut_lo {xs : List PyData} {i : Nat} : cutD xs (some (i : Int)) none = xs.drop i := by
  unfold cutD
  rw [HT.sIx_nat, HT.sIx_none]
  rcases Nat.le_total i xs.length with h | h
  · rw [Nat.min_eq_left h]
    exact List.take_of_length_le (by rw [List.length_drop]; omega)
  · rw [Nat.min_eq_right h, List.drop_eq_nil_of_le h, List.drop_length]
    simp
theorem cut_hi {xs : List PyData} {i : Nat} : cutD xs none (some (i : Int)) = xs.take i := by
  unfold cutD
  rw [HT.sIx_nat, HT.sIx_none, List.drop_zero]
  rcases Nat.le_total i xs.length with h | h
  · rw [Nat.min_eq_left h]
    rfl
  · rw [Nat.min_eq_right h, List.take_of_length_le h]
    exact List.take_of_length_le (by omega)
theorem cut_last {xs : List PyData} : cutD xs none (some (-1)) = xs.dropLast := by
  unfold cutD
  rw [HT.sIx_none, List.drop_zero, List.dropLast_eq_take]
  have e : HT.sIx xs.length xs.length (some (-1)) = xs.length - 1 := by
    show (if (-1 : Int) < 0 then ((-1 : Int) + (xs.length : Int)).toNat else min (-1 : Int).toNat xs.length) = _
    rw [if_pos (by omega)]
    omega
  rw [e]
  rfl
theorem cut_loL {α : Type} {f : α → PyData} {xs : List α} {i : Nat} : cutD (xs.map f) (some (i : Int)) none = (xs.drop i).map f := by rw [cut_lo, List.map_drop]
theorem cut_hiL {α : Type} {f : α → PyData} {xs : List α} {i : Nat} : cutD (xs.map f) none (some (i : Int)) = (xs.take i).map f := by rw [cut_hi, List.map_take]
theorem cut_lastL {α : Type} {f : α → PyData} {xs : List α} : cutD (xs.map f) none (some (-1)) = (xs.dropLast).map f := by
  rw [cut_last, List.dropLast_eq_take, List.dropLast_eq_take, List.map_take, List.length_map]
theorem kit_ii : kitB "int" "int" = some true := by decide +kernel
theorem kit_ib : kitB "int" "bool" = some false := by decide +kernel
theorem kit_tt : kitB "tuple" "tuple" = some true := by decide +kernel
theorem kit_ss : kitB "str" "str" = some true := by decide +kernel
theorem kit_bb : kitB "bool" "bool" = some true := by decide +kernel
theorem cut_lo1 {α : Type} {f : α → PyData} {xs : List α} : cutD (xs.map f) (some 1) none = (xs.drop 1).map f := cut_loL (i := 1)
theorem cut_hi1 {α : Type} {f : α → PyData} {xs : List α} : cutD (xs.map f) none (some 1) = (xs.take 1).map f := cut_hiL (i := 1)
theorem cut_loS {α : Type} {f : α → PyData} {xs : List α} {i : Nat} : cutD (xs.map f) (some ((i : Int) + 1)) none = (xs.drop (i + 1)).map f := cut_loL (i := i + 1)
section
variable {α : Type} {f : α → PyData} {xs : List α} {i : Nat} {kk : Res → Prop}
theorem sl_hi (h : kk (.dat (.tuple ((xs.take i).map f)))) : SlK (.tuple (xs.map f)) none (some (i : Int)) kk := by
  show kk (.dat (.tuple (cutD (xs.map f) none (some (i : Int)))))
  rw [cut_hiL]
  exact h
theorem sl_lo (h : kk (.dat (.tuple ((xs.drop i).map f)))) : SlK (.tuple (xs.map f)) (some (i : Int)) none kk := by
  show kk (.dat (.tuple (cutD (xs.map f) (some (i : Int)) none)))
  rw [cut_loL]
  exact h
theorem sl_last (h : kk (.dat (.tuple (xs.dropLast.map f)))) : SlK (.tuple (xs.map f)) none (some (-1)) kk := by
  show kk (.dat (.tuple (cutD (xs.map f) none (some (-1)))))
  rw [cut_lastL]
  exact h
theorem sl_hiL (h : ∀ p, kk (.new (.own p ((xs.take i).map f)))) : SlK (.list (xs.map f)) none (some (i : Int)) kk := by
  show ∀ p, kk (.new (.own p (cutD (xs.map f) none (some (i : Int)))))
  rw [cut_hiL]
  exact h
theorem sl_loL (h : ∀ p, kk (.new (.own p ((xs.drop i).map f)))) : SlK (.list (xs.map f)) (some (i : Int)) none kk := by
  show ∀ p, kk (.new (.own p (cutD (xs.map f) (some (i : Int)) none)))
  rw [cut_loL]
  exact h
end
section
variable {X : Cx} {e a : Expr} {ρ : En} {k : En → Res → Prop} {pos p2 : Pos}
theorem asD_sl {k k' : En → PyData → Prop} (hk : ∀ ρ d, k ρ d → k' ρ d) {ρ : En} {r : Res} (h : asD k ρ r) : asD k' ρ r := asD_mono hk h
/-- a slice of a mapped tuple -/
theorem je_sLo (h : JE X e ρ (asD fun ρ1 d1 => JE X a ρ1 (asD fun ρ2 d2 => ∃ (α : Type) (f : α → PyData) (xs : List α) (n : Nat), d1 = .tuple (xs.map f) ∧ d2 = .int n ∧ k ρ2 (.dat (.tuple ((xs.drop n).map f)))))) : JE X (.Subscript e (.Slice (some a) none none p2) pos) ρ k :=
  je_slLo (h.mono fun _ _ z => asD_mono (fun _ _ z => z.mono fun _ _ z => asD_mono (fun _ _ ⟨_, _, _, _, e1, e2, q9⟩ => ⟨_, e2, by subst e1; exact sl_lo q9⟩) z) z)
theorem je_sHi (h : JE X e ρ (asD fun ρ1 d1 => JE X a ρ1 (asD fun ρ2 d2 => ∃ (α : Type) (f : α → PyData) (xs : List α) (n : Nat), d1 = .tuple (xs.map f) ∧ d2 = .int n ∧ k ρ2 (.dat (.tuple ((xs.take n).map f)))))) : JE X (.Subscript e (.Slice none (some a) none p2) pos) ρ k :=
  je_slHi (h.mono fun _ _ z => asD_mono (fun _ _ z => z.mono fun _ _ z => asD_mono (fun _ _ ⟨_, _, _, _, e1, e2, q9⟩ => ⟨_, e2, by subst e1; exact sl_hi q9⟩) z) z)
end
section
variable {X : Cx} {e a : Expr} {ρ : En} {k : En → Res → Prop} {pos p2 p3 p4 : Pos} {j : Nat}
theorem je_sLast (h : JE X e ρ (asD fun ρ1 d1 => ∃ (α : Type) (f : α → PyData) (xs : List α), d1 = .tuple (xs.map f) ∧ k ρ1 (.dat (.tuple (xs.dropLast.map f))))) : JE X (.Subscript e (.Slice none (some (.UnaryOp .USub (.Constant (.int 1) j p3) p4)) none p2) pos) ρ k :=
  je_slHi (h.mono fun _ _ z => asD_mono (fun _ _ ⟨_, _, _, e1, q9⟩ => je_neg (je_int ⟨_, rfl, _, rfl, by subst e1; exact sl_last q9⟩)) z)
end
section
variable {α : Type} {f : α → PyData} {xs : List α} {n : Nat} {P : (α : Type) → (α → PyData) → List α → Nat → Prop}
theorem exSlL {P : (α : Type) → (α → PyData) → List α → Prop} (h : P α f xs) : ∃ (α' : Type) (f' : α' → PyData) (xs' : List α'), PyData.tuple (xs.map f) = .tuple (xs'.map f') ∧ P α' f' xs' := ⟨α, f, xs, rfl, h⟩
theorem exSl1 (h : P α f xs 1) : ∃ (α' : Type) (f' : α' → PyData) (xs' : List α') (n' : Nat), PyData.tuple (xs.map f) = .tuple (xs'.map f') ∧ PyData.int 1 = .int n' ∧ P α' f' xs' n' := ⟨α, f, xs, 1, rfl, rfl, h⟩
theorem exSlN (h : P α f xs n) : ∃ (α' : Type) (f' : α' → PyData) (xs' : List α') (n' : Nat), PyData.tuple (xs.map f) = .tuple (xs'.map f') ∧ PyData.int n = .int n' ∧ P α' f' xs' n' := ⟨α, f, xs, n, rfl, rfl, h⟩
theorem exSlS (h : P α f xs (n + 1)) : ∃ (α' : Type) (f' : α' → PyData) (xs' : List α') (n' : Nat), PyData.tuple (xs.map f) = .tuple (xs'.map f') ∧ PyData.int ((n : Int) + 1) = .int n' ∧ P α' f' xs' n' := ⟨α, f, xs, n + 1, rfl, rfl, h⟩
theorem exSlE {i : Int} (e : i = n) (h : P α f xs n) : ∃ (α' : Type) (f' : α' → PyData) (xs' : List α') (n' : Nat), PyData.tuple (xs.map f) = .tuple (xs'.map f') ∧ PyData.int i = .int n' ∧ P α' f' xs' n' := ⟨α, f, xs, n, rfl, by rw [e], h⟩
end
theorem room1 {k : Nat} {A : Around} (r : Room k A) : A.units + 1 < cLine := by have := r.units; omega
/-! conditions -/
theorem okT {A B : Prop} (h : A) : (true = true → A) ∧ (true = false → B) := ⟨fun _ => h, fun z => Bool.noConfusion z⟩
theorem okF {A B : Prop} (h : B) : (false = true → A) ∧ (false = false → B) := ⟨fun z => Bool.noConfusion z, fun _ => h⟩
theorem okTe {A B : Prop} {b : Bool} (e : b = true) (h : A) : (b = true → A) ∧ (b = false → B) := by subst e; exact okT h
theorem okFe {A B : Prop} {b : Bool} (e : b = false) (h : B) : (b = true → A) ∧ (b = false → B) := by subst e; exact okF h
theorem okB {A B : Prop} {b : Bool} (h1 : b = true → A) (h2 : b = false → B) : (b = true → A) ∧ (b = false → B) := ⟨h1, h2⟩
theorem andLt {i n : Nat} {p : Prop} (h : Nat.ble (i + 1) n = true) (q : p) : i < n ∧ p := ⟨Nat.le_of_ble_eq_true h, q⟩
theorem exI {P : Int → Prop} {i : Int} (h : P i) : ∃ j, PyData.int i = PyData.int j ∧ P j := ⟨i, rfl, h⟩
theorem exT {P : List PyData → Prop} {i : List PyData} (h : P i) : ∃ j, PyData.tuple i = PyData.tuple j ∧ P j := ⟨i, rfl, h⟩
theorem exLs {P : List PyData → Prop} {i : List PyData} (h : P i) : ∃ j, PyData.list i = PyData.list j ∧ P j := ⟨i, rfl, h⟩
theorem celT {i : Nat} {P : Prop} (h : P) : (∀ xs, Res.cel i ≠ .dat (.tuple xs)) ∧ P := ⟨fun _ z => (by cases z), h⟩
theorem lisT {l : List PyData} {P : Prop} (h : P) : (∀ xs, Res.dat (.list l) ≠ .dat (.tuple xs)) ∧ P := ⟨fun _ z => (by cases z), h⟩
theorem exII {P : Int → Int → Prop} {i j : Int} (h : P i j) : ∃ i' j', PyData.int i = PyData.int i' ∧ PyData.int j = PyData.int j' ∧ P i' j' := ⟨i, j, rfl, rfl, h⟩
theorem exB {P : Bool → Prop} {i : Bool} (h : P i) : ∃ j, PyData.bool i = PyData.bool j ∧ P j := ⟨i, rfl, h⟩
theorem exS {P : List PyData → Prop} {ρ : En} {r : Res} {ds : List PyData} (e : seqR ρ r = some ds) (h : P ds) : ∃ ds, seqR ρ r = some ds ∧ P ds := ⟨ds, e, h⟩
theorem exD {P : List PyData → Prop} {rs : List Res} {ds : List PyData} (e : datsOf rs = some ds) (l : Nat.ble ds.length 100000 = true) (h : P ds) : ∃ ds, datsOf rs = some ds ∧ ds.length ≤ 100000 ∧ P ds := ⟨ds, e, Nat.le_of_ble_eq_true l, h⟩
theorem exC {P : List Cell → Prop} {ρ : En} {rs : List Res} {cs : List Cell} (e : derefs ρ rs = some cs) (l : (celIx rs).Nodup) (h : P cs) : ∃ cs, derefs ρ rs = some cs ∧ (celIx rs).Nodup ∧ P cs := ⟨cs, e, l, h⟩
theorem exX {P : Res → Prop} {ρ : En} {r : Res} {ds : List PyData} {i : Int} {d : PyData} (e : seqR ρ r = some ds) (q : atI ds i = some d) (h : P (.dat d)) : IxK ρ r (.int i) P := ⟨ds, i, d, e, rfl, q, h⟩
theorem jg_eq {X : Cx} {tg : Expr} {ρ : En} {d d' : PyData} {k : En → Prop} (e : d = d') (h : JG X tg ρ d' k) : JG X tg ρ d k := e ▸ h
/-! forms -/
section
variable {X : Cx} {e a b c o : Expr} {es vs : List Expr} {ρ : En} {k : En → Res → Prop} {ka : En → List Res → Prop} {kt : En → Bool → Prop} {pos p2 : Pos} {x : Str} {n : Nat} {ks : List Keyword} {op : Operator} {bo : BoolOp} {uo : UnaryOp} {cs : List CmpOp} {cn : Const}
theorem isNm (h : JE X (.Name x pos) ρ k) : JE X (.Name x pos) ρ k := h
theorem isCn (h : JE X (.Constant cn n pos) ρ k) : JE X (.Constant cn n pos) ρ k := h
theorem isCl (h : JE X (.Call o es ks pos) ρ k) : JE X (.Call o es ks pos) ρ k := h
theorem isSb (h : JE X (.Subscript a b pos) ρ k) : JE X (.Subscript a b pos) ρ k := h
theorem isOp (h : JE X (.BinOp a op b pos) ρ k) : JE X (.BinOp a op b pos) ρ k := h
theorem isCm (h : JE X (.Compare a cs es pos) ρ k) : JE X (.Compare a cs es pos) ρ k := h
theorem isBo (h : JE X (.BoolOp bo es pos) ρ k) : JE X (.BoolOp bo es pos) ρ k := h
theorem isE (h : JE X e ρ k) : JE X e ρ k := h
theorem isA (h : JA X es ρ ka) : JA X es ρ ka := h
theorem isT (h : JT X e ρ kt) : JT X e ρ kt := h
theorem isW (h : JW X e ρ kt) : JW X e ρ kt := h
theorem isSs {sts : List Stmt} {E : Po} (h : JSs X sts ρ E) : JSs X sts ρ E := h
theorem isS {st : Stmt} {E : Po} (h : JS X st ρ E) : JS X st ρ E := h
theorem isG {d : PyData} {kg : En → Prop} (h : JG X e ρ d kg) : JG X e ρ d kg := h
theorem isI {tg it : Expr} {ki : En → Nat → (Nat → PyData) → Prop} (h : JI X tg it ρ ki) : JI X tg it ρ ki := h
theorem isGs {ds : List PyData} {kg : En → Prop} (h : JGs X es ρ ds kg) : JGs X es ρ ds kg := h
end
end TW

namespace TW
open PySem PySem.Spec PyProof.Rows L2
/-- a name of the def: where it stands -/
structure NmOk (X : Cx) (i : Nat) (x : Str) : Prop where
  at_ : X.N[i]? = some x
  vis : Vis X.env.scope x
  db : (x == ("__debug__" : Str)) = false
  cd : (x == ("__classdict__" : Str)) = false
structure LcOk (X : Cx) (i : Nat) (x : Str) : Prop where
  at_ : X.N[i]? = some x
  loc : Loc X.env.scope x
  fn : X.fn x = true ∨ X.env.scope.names.lookup x = some .local
section
variable {X : Cx} {e a b c o : Expr} {es : List Expr} {st : Stmt} {sts : List Stmt} {ρ : En} {E : Po} {k : En → Res → Prop} {pos : Pos} {i : Nat} {x : Str}
theorem isIx {r : Res} {d : PyData} {kk : Res → Prop} (h : IxK ρ r d kk) : IxK ρ r d kk := h
theorem je_nameN {c : Cell} (n : NmOk X i x) (hρ : ρ[i]? = some (some c)) (k0 : k ρ (resOf i c)) : JE X (.Name x pos) ρ k := je_name i n.at_ hρ k0 n.vis n.db n.cd
theorem js_setN {pos' : Pos} (n : LcOk X i x) (hN : X.N.Nodup) (h : JE X e ρ (asN fun ρ1 c => i < ρ1.length ∧ E.nx (ρ1.set i (some c)))) (hs : swapsWith e (some (.Name x pos')) pos.line X.env = pure false) : JS X (.Assign [.Name x pos'] e pos) ρ E := js_set i h hN n.at_ n.loc hs n.fn
theorem jg_nameN {d : PyData} {kg : En → Prop} (n : LcOk X i x) (hN : X.N.Nodup) (hl : i < ρ.length) (k0 : kg (ρ.set i (some (.dat d)))) : JG X (.Name x pos) ρ d kg := jg_name i k0 hl hN n.at_ n.loc n.fn
theorem js_appendN {p2 apos cpos : Pos} {p0 : Addr} {ds0 : List PyData} (n : NmOk X i x) (hρ : ρ[i]? = some (some (.own p0 ds0))) (h : JE X e ρ (asD fun ρ1 d => ∃ p ds, ρ1[i]? = some (some (.own p ds)) ∧ ds.length < 100000 ∧ E.nx (ρ1.set i (some (.own p (ds ++ [d]))))))
    (hbase : attributeBase (.Name x p2) "append" X.env (eval (.Name x p2) X.env) = eval (.Name x p2) X.env)
    (hfew : ((backTo cpos (starEach (e :: []) X.env)).all (fun x => !x.1) && (backToKw cpos (keywordEach [] X.env)).all (fun x => x.1.isSome) && decide ((e :: []).length + ([] : List Keyword).length + (if ([] : List Keyword).isEmpty then 0 else 1) < 30)) = true)
    (hline : (apos.endLine == cpos.line) = true) (hs : starEach (e :: []) X.env = (false, eval e X.env) :: starEach [] X.env) (hplain : (backTo cpos (starEach [] X.env)).any (·.1) = false)
    (hsw : swapsWith (.Call (.Attribute (.Name x p2) "append" apos) [e] [] cpos) none pos.line X.env = pure false) : JS X (.Expr (.Call (.Attribute (.Name x p2) "append" apos) [e] [] cpos) pos) ρ E := js_append i hρ h n.at_ n.vis n.db n.cd hbase hfew hline hs hplain hsw
theorem js_extendN {p2 apos cpos : Pos} {p0 : Addr} {ds0 : List PyData} (n : NmOk X i x) (hρ : ρ[i]? = some (some (.own p0 ds0))) (h : JE X e ρ (asD fun ρ1 d => ∃ p ds es, d = .tuple es ∧ ρ1[i]? = some (some (.own p ds)) ∧ ds.length + es.length ≤ 100000 ∧ E.nx (ρ1.set i (some (.own p (ds ++ es))))))
    (hbase : attributeBase (.Name x p2) "extend" X.env (eval (.Name x p2) X.env) = eval (.Name x p2) X.env)
    (hfew : ((backTo cpos (starEach (e :: []) X.env)).all (fun x => !x.1) && (backToKw cpos (keywordEach [] X.env)).all (fun x => x.1.isSome) && decide ((e :: []).length + ([] : List Keyword).length + (if ([] : List Keyword).isEmpty then 0 else 1) < 30)) = true)
    (hline : (apos.endLine == cpos.line) = true) (hs : starEach (e :: []) X.env = (false, eval e X.env) :: starEach [] X.env) (hplain : (backTo cpos (starEach [] X.env)).any (·.1) = false)
    (hsw : swapsWith (.Call (.Attribute (.Name x p2) "extend" apos) [e] [] cpos) none pos.line X.env = pure false) : JS X (.Expr (.Call (.Attribute (.Name x p2) "extend" apos) [e] [] cpos) pos) ρ E := js_extend i hρ h n.at_ n.vis n.db n.cd hbase hfew hline hs hplain hsw
end
end TW

namespace TW
open PySem PySem.Spec PyProof.Rows L2
def Sd.fr (s : Sd) (a : Nat) : List Nat := s.f.getD a []
def Sd.se (s : Sd) (b : Nat) : List Nat := s.s.getD b []
def Yd.tk (y : Yd) (t : Nat) : Nat × Nat := y.tr.getD t (0, 0)
def step (y : Yd) (s : Sd) (m : Mv) : Sd := match m.wd with
  | .inn => ⟨s.w.drop 1, s.f.set m.ix (s.fr m.ix ++ s.w.take 1), s.s, s.g⟩
  | .over => ⟨s.w, s.f.set (y.tk m.ix).1 ((s.fr (y.tk m.ix).1).drop 1), s.s.set (y.tk m.ix).2 (s.se (y.tk m.ix).2 ++ (s.fr (y.tk m.ix).1).take 1), s.g⟩
  | .out => ⟨s.w, s.f, s.s.set m.ix ((s.se m.ix).drop 1), s.g + 1⟩
def lim (y : Yd) : Wd → Nat
  | .inn => y.k
  | .over => y.tr.length
  | .out => y.l
/-- the move can be made -/
def Can (y : Yd) (s : Sd) (m : Mv) : Prop := m.ix < lim y m.wd ∧ match m.wd with
  | .inn => s.w ≠ []
  | .over => s.fr (y.tk m.ix).1 ≠ []
  | .out => ∃ xs, s.se m.ix = s.g :: xs
structure Shp (y : Yd) (s : Sd) : Prop where
  fl : s.f.length = y.k
  sl : s.s.length = y.l
  fz : ∀ l ∈ s.f, l.length ≤ 1000
  sz : ∀ l ∈ s.s, l.length ≤ 1000
theorem fr_at {y : Yd} {s : Sd} (h : Shp y s) {a : Nat} (ha : a < y.k) : s.f[a]? = some (s.fr a) ∧ (s.fr a).length ≤ 1000 := by
  have l : a < s.f.length := by rw [h.fl]; exact ha
  have e : s.f[a]? = some (s.fr a) := by
    unfold Sd.fr
    rw [List.getD_eq_getElem?_getD, List.getElem?_eq_getElem l]
    rfl
  exact ⟨e, h.fz _ (List.mem_of_getElem? e)⟩
theorem se_at {y : Yd} {s : Sd} (h : Shp y s) {a : Nat} (ha : a < y.l) : s.s[a]? = some (s.se a) ∧ (s.se a).length ≤ 1000 := by
  have l : a < s.s.length := by rw [h.sl]; exact ha
  have e : s.s[a]? = some (s.se a) := by
    unfold Sd.se
    rw [List.getD_eq_getElem?_getD, List.getElem?_eq_getElem l]
    rfl
  exact ⟨e, h.sz _ (List.mem_of_getElem? e)⟩
theorem tk_at {y : Yd} (h : YdOk y) {t : Nat} (ht : t < y.tr.length) : y.tr[t]? = some (y.tk t) ∧ (y.tk t).1 < y.k ∧ (y.tk t).2 < y.l := by
  have e : y.tr[t]? = some (y.tk t) := by
    unfold Yd.tk
    rw [List.getD_eq_getElem?_getD, List.getElem?_eq_getElem ht]
    rfl
  exact ⟨e, h.rng _ (List.mem_of_getElem? e)⟩
def tks (r d : List Nat) : List Nat := (r.zip d).foldl (fun acc p => acc.set p.1 p.2) (List.replicate r.length 0)
def behind (s : Sd) : List Nat := s.w ++ s.f.flatten
def overG (y : Yd) (tk : List Nat) (s : Sd) (t : Nat) : Bool := match s.fr (y.tk t).1 with
  | [] => false
  | h :: _ => decide (tk.getD h 0 = t) && (behind s).all fun w => !(decide (w < h) && decide ((y.tk (tk.getD w 0)).2 = (y.tk t).2))
structure TkOk (y : Yd) (tk : List Nat) (s : Sd) : Prop where
  rng : ∀ t ∈ tk, t < y.tr.length
  inn : ∀ x ∈ behind s, x < tk.length
  sz : (behind s).length ≤ 5000
def outG (s : Sd) (b : Nat) : Bool := match s.se b with
  | [] => false
  | h :: _ => decide (h = s.g)
def innG (y : Yd) (tk : List Nat) (s : Sd) : List Mv := match s.w with
  | [] => []
  | h :: _ => [⟨.inn, (y.tk (tk.getD h 0)).1⟩]
def greens (y : Yd) (tk : List Nat) (s : Sd) : List Mv := innG y tk s ++ ((List.range y.tr.length).filter (overG y tk s)).map (Mv.mk .over) ++ ((List.range y.l).filter (outG s)).map (Mv.mk .out)
theorem set_fold_len : ∀ (xs : List (Nat × Nat)) (acc : List Nat), (xs.foldl (fun acc p => acc.set p.1 p.2) acc).length = acc.length
  | [], _ => rfl
  | x :: xs, acc => by rw [List.foldl_cons, set_fold_len xs, List.length_set]
theorem tks_len (r d : List Nat) : (tks r d).length = r.length := by
  unfold tks
  rw [set_fold_len, List.length_replicate]
theorem fold_step {xs : List (Nat × Nat)} {acc : List Nat} {i : Nat} {p : Nat × Nat} (h : xs[i]? = some p) : (xs.take (i + 1)).foldl (fun acc p => acc.set p.1 p.2) acc = ((xs.take i).foldl (fun acc p => acc.set p.1 p.2) acc).set p.1 p.2 := by
  rw [List.take_add_one, h]
  simp [List.foldl_append]
theorem tk_in {y : Yd} {tk : List Nat} {s : Sd} (h : TkOk y tk s) {x : Nat} (hx : x ∈ behind s) : tk[x]? = some (tk.getD x 0) ∧ tk.getD x 0 < y.tr.length := by
  have l := h.inn x hx
  have e : tk[x]? = some (tk.getD x 0) := by
    rw [List.getD_eq_getElem?_getD, List.getElem?_eq_getElem l]
    rfl
  exact ⟨e, h.rng _ (List.mem_of_getElem? e)⟩
theorem filt_step {α : Type} {q : α → Bool} {xs : List α} {i : Nat} {x : α} (h : xs[i]? = some x) : (xs.take (i + 1)).filter q = (xs.take i).filter q ++ (if q x = true then [x] else []) := by
  rw [List.take_add_one, h, List.filter_append]
  simp [List.filter_cons]
theorem filt_no {α : Type} {q : α → Bool} {xs : List α} {i : Nat} {x : α} (h : xs[i]? = some x) (hq : q x = false) : (xs.take (i + 1)).filter q = (xs.take i).filter q := by
  rw [filt_step h, hq]
  simp
theorem filt_yes {α : Type} {q : α → Bool} {xs : List α} {i : Nat} {x : α} (h : xs[i]? = some x) (hq : q x = true) : (xs.take (i + 1)).filter q = (xs.take i).filter q ++ [x] := by
  rw [filt_step h, if_pos hq]
theorem filt_nil {α : Type} {q : α → Bool} {xs : List α} : decide (xs.filter q = []) = xs.all fun x => !q x := by
  rw [Bool.eq_iff_iff, decide_eq_true_eq, List.filter_eq_nil_iff, List.all_eq_true]
  exact ⟨fun h x hx => by rw [Bool.eq_false_iff.mpr (h x hx)]; rfl, fun h x hx z => by have := h x hx; rw [z] at this; cases this⟩
theorem cm_Nl (xs : List Nat) : Cm (.list (xs.map dN)) := by
  have h := cm_ints (xs.map fun i : Nat => (i : Int))
  rw [List.map_map] at h
  exact h
theorem nilL_iff {xs : List Nat} : PyData.list (xs.map dN) = .list [] ↔ xs = [] := by simp
theorem range_filt {q : Nat → Bool} {n : Nat} : (List.range (n + 1)).filter q = (List.range n).filter q ++ (if q n = true then [n] else []) := by
  rw [List.range_succ, List.filter_append]
  simp [List.filter_cons]
section
variable {X : Cx} {st : Stmt} {sts : List Stmt} {ρ : En} {E : Po}
theorem js_mid (M : En → Prop) (h : JS X st ρ { E with nx := M }) (h2 : ∀ ρ', M ρ' → JSs X sts ρ' E) : JSs X (st :: sts) ρ E :=
  js_cons fun F H σ fp D s o => h F H σ fp D s ⟨fun F' H' σ' fp' ρ' a b c => o.nx F' H' σ' fp' ρ' a b (h2 ρ' c), o.rt, o.bk, o.ct⟩
end
theorem at0 {α : Type} {f : α → PyData} {x : α} {xs : List α} : atI ((x :: xs).map f) 0 = some (f x) := atI_map (i := 0) (xs := x :: xs) rfl
theorem greens_le (y : Yd) (tk : List Nat) (s : Sd) : (innG y tk s).length ≤ 1 := by
  unfold innG
  split <;> simp

end TW
namespace TW
open PySem PySem.Spec PyProof.Rows L2
local macro_rules | `(tactic| walk_at "app") => `(tactic| first
  | refine js_appendN (by with_reducible assumption) (by rfl) ?_ rfl rfl rfl rfl rfl rfl
  | refine js_append 0 rfl ?_ rfl (by first | exact Or.inl rfl | exact Or.inr (Or.inl rfl) | exact Or.inr (Or.inr rfl)) (by decide) (by decide) rfl rfl rfl rfl rfl rfl
  | refine js_append 1 rfl ?_ rfl (by first | exact Or.inl rfl | exact Or.inr (Or.inl rfl) | exact Or.inr (Or.inr rfl)) (by decide) (by decide) rfl rfl rfl rfl rfl rfl
  | refine js_append 2 rfl ?_ rfl (by first | exact Or.inl rfl | exact Or.inr (Or.inl rfl) | exact Or.inr (Or.inr rfl)) (by decide) (by decide) rfl rfl rfl rfl rfl rfl
  | refine js_append 3 rfl ?_ rfl (by first | exact Or.inl rfl | exact Or.inr (Or.inl rfl) | exact Or.inr (Or.inr rfl)) (by decide) (by decide) rfl rfl rfl rfl rfl rfl
  | refine js_append 4 rfl ?_ rfl (by first | exact Or.inl rfl | exact Or.inr (Or.inl rfl) | exact Or.inr (Or.inr rfl)) (by decide) (by decide) rfl rfl rfl rfl rfl rfl
  | refine js_append 5 rfl ?_ rfl (by first | exact Or.inl rfl | exact Or.inr (Or.inl rfl) | exact Or.inr (Or.inr rfl)) (by decide) (by decide) rfl rfl rfl rfl rfl rfl
  | refine js_append 6 rfl ?_ rfl (by first | exact Or.inl rfl | exact Or.inr (Or.inl rfl) | exact Or.inr (Or.inr rfl)) (by decide) (by decide) rfl rfl rfl rfl rfl rfl
  | refine js_append 7 rfl ?_ rfl (by first | exact Or.inl rfl | exact Or.inr (Or.inl rfl) | exact Or.inr (Or.inr rfl)) (by decide) (by decide) rfl rfl rfl rfl rfl rfl
  | refine js_append 8 rfl ?_ rfl (by first | exact Or.inl rfl | exact Or.inr (Or.inl rfl) | exact Or.inr (Or.inr rfl)) (by decide) (by decide) rfl rfl rfl rfl rfl rfl
  | refine js_append 9 rfl ?_ rfl (by first | exact Or.inl rfl | exact Or.inr (Or.inl rfl) | exact Or.inr (Or.inr rfl)) (by decide) (by decide) rfl rfl rfl rfl rfl rfl
  | refine js_append 10 rfl ?_ rfl (by first | exact Or.inl rfl | exact Or.inr (Or.inl rfl) | exact Or.inr (Or.inr rfl)) (by decide) (by decide) rfl rfl rfl rfl rfl rfl
  | refine js_append 11 rfl ?_ rfl (by first | exact Or.inl rfl | exact Or.inr (Or.inl rfl) | exact Or.inr (Or.inr rfl)) (by decide) (by decide) rfl rfl rfl rfl rfl rfl
  | refine js_append 12 rfl ?_ rfl (by first | exact Or.inl rfl | exact Or.inr (Or.inl rfl) | exact Or.inr (Or.inr rfl)) (by decide) (by decide) rfl rfl rfl rfl rfl rfl
  | refine js_append 13 rfl ?_ rfl (by first | exact Or.inl rfl | exact Or.inr (Or.inl rfl) | exact Or.inr (Or.inr rfl)) (by decide) (by decide) rfl rfl rfl rfl rfl rfl)
local macro_rules | `(tactic| walk_at "ext") => `(tactic| first
  | refine js_extendN (by with_reducible assumption) (by rfl) ?_ rfl rfl rfl rfl rfl rfl
  | refine js_extend 0 rfl ?_ rfl (by first | exact Or.inl rfl | exact Or.inr (Or.inl rfl) | exact Or.inr (Or.inr rfl)) (by decide) (by decide) rfl rfl rfl rfl rfl rfl
  | refine js_extend 1 rfl ?_ rfl (by first | exact Or.inl rfl | exact Or.inr (Or.inl rfl) | exact Or.inr (Or.inr rfl)) (by decide) (by decide) rfl rfl rfl rfl rfl rfl
  | refine js_extend 2 rfl ?_ rfl (by first | exact Or.inl rfl | exact Or.inr (Or.inl rfl) | exact Or.inr (Or.inr rfl)) (by decide) (by decide) rfl rfl rfl rfl rfl rfl
  | refine js_extend 3 rfl ?_ rfl (by first | exact Or.inl rfl | exact Or.inr (Or.inl rfl) | exact Or.inr (Or.inr rfl)) (by decide) (by decide) rfl rfl rfl rfl rfl rfl
  | refine js_extend 4 rfl ?_ rfl (by first | exact Or.inl rfl | exact Or.inr (Or.inl rfl) | exact Or.inr (Or.inr rfl)) (by decide) (by decide) rfl rfl rfl rfl rfl rfl
  | refine js_extend 5 rfl ?_ rfl (by first | exact Or.inl rfl | exact Or.inr (Or.inl rfl) | exact Or.inr (Or.inr rfl)) (by decide) (by decide) rfl rfl rfl rfl rfl rfl
  | refine js_extend 6 rfl ?_ rfl (by first | exact Or.inl rfl | exact Or.inr (Or.inl rfl) | exact Or.inr (Or.inr rfl)) (by decide) (by decide) rfl rfl rfl rfl rfl rfl
  | refine js_extend 7 rfl ?_ rfl (by first | exact Or.inl rfl | exact Or.inr (Or.inl rfl) | exact Or.inr (Or.inr rfl)) (by decide) (by decide) rfl rfl rfl rfl rfl rfl
  | refine js_extend 8 rfl ?_ rfl (by first | exact Or.inl rfl | exact Or.inr (Or.inl rfl) | exact Or.inr (Or.inr rfl)) (by decide) (by decide) rfl rfl rfl rfl rfl rfl
  | refine js_extend 9 rfl ?_ rfl (by first | exact Or.inl rfl | exact Or.inr (Or.inl rfl) | exact Or.inr (Or.inr rfl)) (by decide) (by decide) rfl rfl rfl rfl rfl rfl
  | refine js_extend 10 rfl ?_ rfl (by first | exact Or.inl rfl | exact Or.inr (Or.inl rfl) | exact Or.inr (Or.inr rfl)) (by decide) (by decide) rfl rfl rfl rfl rfl rfl
  | refine js_extend 11 rfl ?_ rfl (by first | exact Or.inl rfl | exact Or.inr (Or.inl rfl) | exact Or.inr (Or.inr rfl)) (by decide) (by decide) rfl rfl rfl rfl rfl rfl
  | refine js_extend 12 rfl ?_ rfl (by first | exact Or.inl rfl | exact Or.inr (Or.inl rfl) | exact Or.inr (Or.inr rfl)) (by decide) (by decide) rfl rfl rfl rfl rfl rfl
  | refine js_extend 13 rfl ?_ rfl (by first | exact Or.inl rfl | exact Or.inr (Or.inl rfl) | exact Or.inr (Or.inr rfl)) (by decide) (by decide) rfl rfl rfl rfl rfl rfl)
local macro_rules | `(tactic| walk_at "blk") => `(tactic| exact ⟨rfl, of_decide_eq_true (by kernel_rfl), of_decide_eq_true (by kernel_rfl), of_decide_eq_true (by kernel_rfl), of_decide_eq_true (by kernel_rfl)⟩)
local macro_rules | `(tactic| walk_at "i") => `(tactic| first
  | refine ji_range (by assumption) ?_ rfl rfl
  | refine ji_enum (by assumption) ?_ rfl rfl
  | refine ji_zip (by assumption) ?_ rfl rfl rfl rfl)
local macro_rules | `(tactic| walk_at "om") => `(tactic| first | omega | (dsimp only; omega) | (simp; omega) | (simp <;> omega))
local macro_rules | `(tactic| walk_at "same") => `(tactic| refine Or.inl ⟨_, (by rfl), rfl, rfl, ?_⟩)
local macro_rules | `(tactic| walk_at "c") => `(tactic| first
  | refine andLt rfl ?_
  | refine exI ?_
  | refine exII ?_
  | refine exB ?_
  | refine exT ?_
  | refine exLs ?_
  | refine fun (p : Addr) => ?_
  | refine exS rfl ?_
  | refine exD rfl rfl ?_
  | refine exC rfl (by first | exact List.nodup_nil | exact List.nodup_singleton _) ?_
  | refine celT ?_
  | refine lisT ?_
  | refine exSlL ?_
  | refine exSl1 ?_
  | refine exSlN ?_
  | refine exSlS ?_
  | (refine isIx ?_; refine exX rfl (by first | exact atI_map (by assumption) | assumption | rfl) ?_))
local macro_rules | `(tactic| walk_at "ix") => `(tactic| refine exX rfl (by first | exact atI_map (by assumption) | assumption | rfl) ?_)
local macro_rules | `(tactic| walk_at "nm") => `(tactic| first
  | refine je_nameN (by with_reducible assumption) (by rfl) ?_
  | refine je_name 0 rfl rfl ?_ (by first | exact Or.inl rfl | exact Or.inr (Or.inl rfl) | exact Or.inr (Or.inr rfl)) (by decide) (by decide)
  | refine je_name 1 rfl rfl ?_ (by first | exact Or.inl rfl | exact Or.inr (Or.inl rfl) | exact Or.inr (Or.inr rfl)) (by decide) (by decide)
  | refine je_name 2 rfl rfl ?_ (by first | exact Or.inl rfl | exact Or.inr (Or.inl rfl) | exact Or.inr (Or.inr rfl)) (by decide) (by decide)
  | refine je_name 3 rfl rfl ?_ (by first | exact Or.inl rfl | exact Or.inr (Or.inl rfl) | exact Or.inr (Or.inr rfl)) (by decide) (by decide)
  | refine je_name 4 rfl rfl ?_ (by first | exact Or.inl rfl | exact Or.inr (Or.inl rfl) | exact Or.inr (Or.inr rfl)) (by decide) (by decide)
  | refine je_name 5 rfl rfl ?_ (by first | exact Or.inl rfl | exact Or.inr (Or.inl rfl) | exact Or.inr (Or.inr rfl)) (by decide) (by decide)
  | refine je_name 6 rfl rfl ?_ (by first | exact Or.inl rfl | exact Or.inr (Or.inl rfl) | exact Or.inr (Or.inr rfl)) (by decide) (by decide)
  | refine je_name 7 rfl rfl ?_ (by first | exact Or.inl rfl | exact Or.inr (Or.inl rfl) | exact Or.inr (Or.inr rfl)) (by decide) (by decide)
  | refine je_name 8 rfl rfl ?_ (by first | exact Or.inl rfl | exact Or.inr (Or.inl rfl) | exact Or.inr (Or.inr rfl)) (by decide) (by decide)
  | refine je_name 9 rfl rfl ?_ (by first | exact Or.inl rfl | exact Or.inr (Or.inl rfl) | exact Or.inr (Or.inr rfl)) (by decide) (by decide)
  | refine je_name 10 rfl rfl ?_ (by first | exact Or.inl rfl | exact Or.inr (Or.inl rfl) | exact Or.inr (Or.inr rfl)) (by decide) (by decide)
  | refine je_name 11 rfl rfl ?_ (by first | exact Or.inl rfl | exact Or.inr (Or.inl rfl) | exact Or.inr (Or.inr rfl)) (by decide) (by decide)
  | refine je_name 12 rfl rfl ?_ (by first | exact Or.inl rfl | exact Or.inr (Or.inl rfl) | exact Or.inr (Or.inr rfl)) (by decide) (by decide)
  | refine je_name 13 rfl rfl ?_ (by first | exact Or.inl rfl | exact Or.inr (Or.inl rfl) | exact Or.inr (Or.inr rfl)) (by decide) (by decide)
  | refine je_name 14 rfl rfl ?_ (by first | exact Or.inl rfl | exact Or.inr (Or.inl rfl) | exact Or.inr (Or.inr rfl)) (by decide) (by decide)
  | refine je_name 15 rfl rfl ?_ (by first | exact Or.inl rfl | exact Or.inr (Or.inl rfl) | exact Or.inr (Or.inr rfl)) (by decide) (by decide)
  | refine je_name 16 rfl rfl ?_ (by first | exact Or.inl rfl | exact Or.inr (Or.inl rfl) | exact Or.inr (Or.inr rfl)) (by decide) (by decide)
  | refine je_name 17 rfl rfl ?_ (by first | exact Or.inl rfl | exact Or.inr (Or.inl rfl) | exact Or.inr (Or.inr rfl)) (by decide) (by decide))
local macro_rules | `(tactic| walk_at "set") => `(tactic| first
  | refine js_setN (by with_reducible assumption) (by assumption) ?_ rfl
  | refine js_set 0 ?_ (by assumption) rfl (by first | exact Or.inl rfl | exact Or.inr rfl) rfl (by first | exact Or.inl rfl | exact Or.inr rfl)
  | refine js_set 1 ?_ (by assumption) rfl (by first | exact Or.inl rfl | exact Or.inr rfl) rfl (by first | exact Or.inl rfl | exact Or.inr rfl)
  | refine js_set 2 ?_ (by assumption) rfl (by first | exact Or.inl rfl | exact Or.inr rfl) rfl (by first | exact Or.inl rfl | exact Or.inr rfl)
  | refine js_set 3 ?_ (by assumption) rfl (by first | exact Or.inl rfl | exact Or.inr rfl) rfl (by first | exact Or.inl rfl | exact Or.inr rfl)
  | refine js_set 4 ?_ (by assumption) rfl (by first | exact Or.inl rfl | exact Or.inr rfl) rfl (by first | exact Or.inl rfl | exact Or.inr rfl)
  | refine js_set 5 ?_ (by assumption) rfl (by first | exact Or.inl rfl | exact Or.inr rfl) rfl (by first | exact Or.inl rfl | exact Or.inr rfl)
  | refine js_set 6 ?_ (by assumption) rfl (by first | exact Or.inl rfl | exact Or.inr rfl) rfl (by first | exact Or.inl rfl | exact Or.inr rfl)
  | refine js_set 7 ?_ (by assumption) rfl (by first | exact Or.inl rfl | exact Or.inr rfl) rfl (by first | exact Or.inl rfl | exact Or.inr rfl)
  | refine js_set 8 ?_ (by assumption) rfl (by first | exact Or.inl rfl | exact Or.inr rfl) rfl (by first | exact Or.inl rfl | exact Or.inr rfl)
  | refine js_set 9 ?_ (by assumption) rfl (by first | exact Or.inl rfl | exact Or.inr rfl) rfl (by first | exact Or.inl rfl | exact Or.inr rfl)
  | refine js_set 10 ?_ (by assumption) rfl (by first | exact Or.inl rfl | exact Or.inr rfl) rfl (by first | exact Or.inl rfl | exact Or.inr rfl)
  | refine js_set 11 ?_ (by assumption) rfl (by first | exact Or.inl rfl | exact Or.inr rfl) rfl (by first | exact Or.inl rfl | exact Or.inr rfl)
  | refine js_set 12 ?_ (by assumption) rfl (by first | exact Or.inl rfl | exact Or.inr rfl) rfl (by first | exact Or.inl rfl | exact Or.inr rfl)
  | refine js_set 13 ?_ (by assumption) rfl (by first | exact Or.inl rfl | exact Or.inr rfl) rfl (by first | exact Or.inl rfl | exact Or.inr rfl)
  | refine js_set 14 ?_ (by assumption) rfl (by first | exact Or.inl rfl | exact Or.inr rfl) rfl (by first | exact Or.inl rfl | exact Or.inr rfl)
  | refine js_set 15 ?_ (by assumption) rfl (by first | exact Or.inl rfl | exact Or.inr rfl) rfl (by first | exact Or.inl rfl | exact Or.inr rfl)
  | refine js_set 16 ?_ (by assumption) rfl (by first | exact Or.inl rfl | exact Or.inr rfl) rfl (by first | exact Or.inl rfl | exact Or.inr rfl)
  | refine js_set 17 ?_ (by assumption) rfl (by first | exact Or.inl rfl | exact Or.inr rfl) rfl (by first | exact Or.inl rfl | exact Or.inr rfl))
local macro_rules | `(tactic| walk_at "tgn") => `(tactic| first
  | refine jg_nameN (by with_reducible assumption) (by assumption) (Nat.le_of_ble_eq_true (by rfl)) ?_
  | refine jg_name 0 ?_ (Nat.le_of_ble_eq_true rfl) (by assumption) rfl (by first | exact Or.inl rfl | exact Or.inr rfl) (by first | exact Or.inl rfl | exact Or.inr rfl)
  | refine jg_name 1 ?_ (Nat.le_of_ble_eq_true rfl) (by assumption) rfl (by first | exact Or.inl rfl | exact Or.inr rfl) (by first | exact Or.inl rfl | exact Or.inr rfl)
  | refine jg_name 2 ?_ (Nat.le_of_ble_eq_true rfl) (by assumption) rfl (by first | exact Or.inl rfl | exact Or.inr rfl) (by first | exact Or.inl rfl | exact Or.inr rfl)
  | refine jg_name 3 ?_ (Nat.le_of_ble_eq_true rfl) (by assumption) rfl (by first | exact Or.inl rfl | exact Or.inr rfl) (by first | exact Or.inl rfl | exact Or.inr rfl)
  | refine jg_name 4 ?_ (Nat.le_of_ble_eq_true rfl) (by assumption) rfl (by first | exact Or.inl rfl | exact Or.inr rfl) (by first | exact Or.inl rfl | exact Or.inr rfl)
  | refine jg_name 5 ?_ (Nat.le_of_ble_eq_true rfl) (by assumption) rfl (by first | exact Or.inl rfl | exact Or.inr rfl) (by first | exact Or.inl rfl | exact Or.inr rfl)
  | refine jg_name 6 ?_ (Nat.le_of_ble_eq_true rfl) (by assumption) rfl (by first | exact Or.inl rfl | exact Or.inr rfl) (by first | exact Or.inl rfl | exact Or.inr rfl)
  | refine jg_name 7 ?_ (Nat.le_of_ble_eq_true rfl) (by assumption) rfl (by first | exact Or.inl rfl | exact Or.inr rfl) (by first | exact Or.inl rfl | exact Or.inr rfl)
  | refine jg_name 8 ?_ (Nat.le_of_ble_eq_true rfl) (by assumption) rfl (by first | exact Or.inl rfl | exact Or.inr rfl) (by first | exact Or.inl rfl | exact Or.inr rfl)
  | refine jg_name 9 ?_ (Nat.le_of_ble_eq_true rfl) (by assumption) rfl (by first | exact Or.inl rfl | exact Or.inr rfl) (by first | exact Or.inl rfl | exact Or.inr rfl)
  | refine jg_name 10 ?_ (Nat.le_of_ble_eq_true rfl) (by assumption) rfl (by first | exact Or.inl rfl | exact Or.inr rfl) (by first | exact Or.inl rfl | exact Or.inr rfl)
  | refine jg_name 11 ?_ (Nat.le_of_ble_eq_true rfl) (by assumption) rfl (by first | exact Or.inl rfl | exact Or.inr rfl) (by first | exact Or.inl rfl | exact Or.inr rfl)
  | refine jg_name 12 ?_ (Nat.le_of_ble_eq_true rfl) (by assumption) rfl (by first | exact Or.inl rfl | exact Or.inr rfl) (by first | exact Or.inl rfl | exact Or.inr rfl)
  | refine jg_name 13 ?_ (Nat.le_of_ble_eq_true rfl) (by assumption) rfl (by first | exact Or.inl rfl | exact Or.inr rfl) (by first | exact Or.inl rfl | exact Or.inr rfl)
  | refine jg_name 14 ?_ (Nat.le_of_ble_eq_true rfl) (by assumption) rfl (by first | exact Or.inl rfl | exact Or.inr rfl) (by first | exact Or.inl rfl | exact Or.inr rfl)
  | refine jg_name 15 ?_ (Nat.le_of_ble_eq_true rfl) (by assumption) rfl (by first | exact Or.inl rfl | exact Or.inr rfl) (by first | exact Or.inl rfl | exact Or.inr rfl)
  | refine jg_name 16 ?_ (Nat.le_of_ble_eq_true rfl) (by assumption) rfl (by first | exact Or.inl rfl | exact Or.inr rfl) (by first | exact Or.inl rfl | exact Or.inr rfl)
  | refine jg_name 17 ?_ (Nat.le_of_ble_eq_true rfl) (by assumption) rfl (by first | exact Or.inl rfl | exact Or.inr rfl) (by first | exact Or.inl rfl | exact Or.inr rfl))
local macro_rules | `(tactic| walk_at "call") => `(tactic| first
  | refine je_callD (by with_reducible assumption) (Room.mono (by assumption) (by decide)) ?_ rfl (by decide) rfl rfl
  | ((with_reducible refine je_len ?_ ?_ ?_ ?_); assumption; rotate_left; rfl; rfl)
  | ((with_reducible refine je_isiTup ?_ ?_ ?_ ?_ ?_ ?_ ?_ ?_); assumption; assumption; rotate_left; rfl; rfl; rfl; rfl; rfl)
  | ((with_reducible refine je_isiInt ?_ ?_ ?_ ?_ ?_ ?_ ?_ ?_); assumption; assumption; rotate_left; rfl; rfl; rfl; rfl; rfl)
  | ((with_reducible refine je_isiBool ?_ ?_ ?_ ?_ ?_ ?_ ?_ ?_); assumption; assumption; rotate_left; rfl; rfl; rfl; rfl; rfl)
  | ((with_reducible refine je_isiStr ?_ ?_ ?_ ?_ ?_ ?_ ?_ ?_); assumption; assumption; rotate_left; rfl; rfl; rfl; rfl; rfl)
  | ((with_reducible refine je_tuple ?_ ?_ ?_ ?_); assumption; rotate_left; rfl; rfl)
  | ((with_reducible refine je_toint ?_ ?_ ?_ ?_); assumption; rotate_left; rfl; rfl)
  | ((with_reducible refine je_listRg ?_ ?_ ?_ ?_ ?_ ?_ ?_ ?_); rfl; assumption; assumption; rotate_left; rfl; rfl; rfl; rfl)
  | ((with_reducible refine je_list ?_ ?_ ?_ ?_); assumption; rotate_left; rfl; rfl)
  | ((with_reducible refine je_sorted ?_ ?_ ?_ ?_); assumption; rotate_left; rfl; rfl)
  | ((with_reducible refine je_min ?_ ?_ ?_ ?_ ?_ ?_ ?_); rfl; assumption; rotate_left; rfl; rfl; rfl; rfl)
  | refine je_callD (by assumption) (Room.mono (by assumption) (by decide)) ?_ rfl (by decide) rfl rfl
  | refine je_len (by assumption) ?_ rfl rfl
  | refine je_isiTup (by assumption) (by assumption) ?_ rfl rfl rfl rfl rfl
  | refine je_isiInt (by assumption) (by assumption) ?_ rfl rfl rfl rfl rfl
  | refine je_isiBool (by assumption) (by assumption) ?_ rfl rfl rfl rfl rfl
  | refine je_isiStr (by assumption) (by assumption) ?_ rfl rfl rfl rfl rfl
  | refine je_tuple (by assumption) ?_ rfl rfl
  | refine je_toint (by assumption) ?_ rfl rfl
  | refine je_listRg rfl (by assumption) (by assumption) ?_ rfl rfl rfl rfl
  | refine je_list (by assumption) ?_ rfl rfl
  | refine je_sorted (by assumption) ?_ rfl rfl
  | refine je_min rfl (by assumption) ?_ rfl rfl rfl rfl)
local macro_rules | `(tactic| walk_at "e") => `(tactic| first
  | ((with_reducible refine isNm ?_); walk_at "nm")
  | ((with_reducible refine isCn ?_); first | with_reducible refine je_int ?_ | with_reducible refine je_str ?_ | with_reducible refine je_bl ?_ | with_reducible refine je_non ?_)
  | ((with_reducible refine isSb ?_); first | refine je_sLast ?_ | refine je_sLo ?_ | refine je_sHi ?_ | refine je_dget 1 (room1 (by assumption)) rfl (by first | exact Or.inl rfl | exact Or.inr (Or.inl rfl) | exact Or.inr (Or.inr rfl)) (by decide) (by decide) rfl ?_ (fun _ _ => rfl) | refine je_dget 2 (room1 (by assumption)) rfl (by first | exact Or.inl rfl | exact Or.inr (Or.inl rfl) | exact Or.inr (Or.inr rfl)) (by decide) (by decide) rfl ?_ (fun _ _ => rfl) | refine je_ix ?_ (fun _ _ => rfl))
  | ((with_reducible refine isCl ?_); walk_at "call")
  | with_reducible refine je_tup ?_
  | ((with_reducible refine isOp ?_); first | with_reducible refine je_add ?_ | with_reducible refine je_sub ?_ | with_reducible refine je_mul ?_ | with_reducible refine je_mod ?_ | with_reducible refine je_fdiv ?_ | with_reducible refine je_pow ?_)
  | ((with_reducible refine isCm ?_); first | ((with_reducible refine je_eq ?_ ?_ ?_); exact Room.units (by assumption); rotate_left; rfl) | ((with_reducible refine je_ne ?_ ?_ ?_); exact Room.units (by assumption); rotate_left; rfl) | ((with_reducible refine je_lt ?_ ?_); rotate_left; rfl) | ((with_reducible refine je_gt ?_ ?_); rotate_left; rfl) | ((with_reducible refine je_ge ?_ ?_); rotate_left; rfl) | ((with_reducible refine je_notN ?_ ?_); rotate_left; rfl))
  | ((with_reducible refine isBo ?_); first | with_reducible refine je_and ?_ | with_reducible refine je_or ?_ | with_reducible refine je_one ?_)
  | with_reducible refine je_not ?_
  | with_reducible refine je_if ?_
  | with_reducible refine je_lst ?_
  | with_reducible refine je_neg ?_)
local macro_rules | `(tactic| walk_at "a") => `(tactic| first
  | refine ja_cons ?_ rfl
  | refine ja_nil ?_)
local macro_rules | `(tactic| walk_at "t") => `(tactic| first
  | with_reducible refine jt_not ?_
  | with_reducible refine jt_bo ?_
  | ((with_reducible refine jt_eq ?_ ?_ ?_); exact Room.units (by assumption); rotate_left; rfl)
  | ((with_reducible refine jt_ne ?_ ?_ ?_); exact Room.units (by assumption); rotate_left; rfl)
  | ((with_reducible refine jt_lt ?_ ?_); rotate_left; rfl)
  | ((with_reducible refine jt_gt ?_ ?_); rotate_left; rfl)
  | ((with_reducible refine jt_ge ?_ ?_); rotate_left; rfl)
  | ((with_reducible refine jt_notN ?_ ?_); rotate_left; rfl)
  | refine jt_val ?_ (fun _ => rfl))
local macro_rules | `(tactic| walk_at "w") => `(tactic| first
  | with_reducible refine jw_and1 ?_
  | with_reducible refine jw_or1 ?_
  | with_reducible refine jw_and ?_
  | with_reducible refine jw_or ?_)
local macro_rules | `(tactic| walk_at "ss") => `(tactic| first
  | refine js_one ?_
  | refine js_cons ?_
  | refine js_nil ?_)
local macro_rules | `(tactic| walk_at "s") => `(tactic| first
  | with_reducible refine js_if ?_
  | with_reducible refine js_ret ?_
  | walk_at "set"
  | refine js_asg (tg := .Tuple _ _ _) ?_ rfl rfl rfl
  | refine js_for ?_ PassesOwn.never rfl (fun _ => rfl)
  | walk_at "app"
  | walk_at "ext"
  | refine js_expr ?_ rfl)
local macro_rules | `(tactic| walk_at "g") => `(tactic| first
  | refine jg_tup ?_ rfl rfl rfl
  | walk_at "tgn")
local macro_rules | `(tactic| walk_at "gs") => `(tactic| first
  | refine jgs_cons ?_ rfl
  | refine jgs_nil ?_)
local macro_rules | `(tactic| walk_at "x") => `(tactic| first
  | (refine isE ?_; walk_at "e")
  | (refine isA ?_; walk_at "a")
  | (refine isSs ?_; walk_at "ss")
  | (refine isS ?_; walk_at "s")
  | (refine isG ?_; walk_at "g")
  | (refine isGs ?_; walk_at "gs")
  | (refine isT ?_; walk_at "t")
  | (refine isW ?_; walk_at "w")
  | (refine isI ?_; walk_at "i")
  | walk_at "c")
local macro_rules | `(tactic| walk_at "bk") => `(tactic| repeat' (first | exact trivial | exact ⟨_, rfl, rfl⟩ | apply And.intro))
local macro_rules | `(tactic| walk_at "go") => `(tactic| repeat walk_at "x")

section
section
variable {P : Program} {w : World} {K : PySem.W.Frag} {mg : Str → Option Value} {base : Heap}
def S_is_whole : Spec := fun cs R => ∃ i lo hi : Int, cs = [.dat (.int i), .dat (.int lo), .dat (.int hi)] ∧ R cs (.dat (.bool (decide (lo ≤ i) && decide (i ≤ hi))))
theorem sc_is_whole : FnScope ["thing", "low", "high"] ["thing", "low", "high"] (defScope s_is_whole) := ⟨rfl, rfl, rfl, by decide +kernel, rfl, by decide +kernel, by decide +kernel⟩
theorem ok_is_whole (g : GD K mg "is_whole" s_is_whole) (m1 : mg "isinstance" = none) (m2 : mg "int" = none) (m3 : mg "bool" = none) : DefOk P w K mg base 1 "is_whole" ["thing", "low", "high"] S_is_whole := by
  refine defD g sc_is_whole (by decide) (fun _ _ _ _ _ _ us hl => match us, hl with | [_, _, _], _ => rfl) (fun cs R h => ?_) fun f_ cdv_ A outer s_ H E cs R hr h => ?_
  · obtain ⟨i, lo, hi, rfl, _⟩ := h
    rfl
  have hN : (["thing", "low", "high"] : List Str).Nodup := by decide +kernel
  have nm0 : NmOk (cxOf CX0 P w K mg base ["thing", "low", "high"] "is_whole" (defScope s_is_whole) f_ cdv_ A outer s_ H E).nox 0 "thing" := ⟨rfl, by first | exact Or.inl rfl | exact Or.inr (Or.inl rfl) | exact Or.inr (Or.inr rfl), by decide, by decide⟩
  have lc0 : LcOk (cxOf CX0 P w K mg base ["thing", "low", "high"] "is_whole" (defScope s_is_whole) f_ cdv_ A outer s_ H E).nox 0 "thing" := ⟨rfl, by first | exact Or.inl rfl | exact Or.inr rfl, by first | exact Or.inl rfl | exact Or.inr rfl⟩
  have nm1 : NmOk (cxOf CX0 P w K mg base ["thing", "low", "high"] "is_whole" (defScope s_is_whole) f_ cdv_ A outer s_ H E).nox 1 "low" := ⟨rfl, by first | exact Or.inl rfl | exact Or.inr (Or.inl rfl) | exact Or.inr (Or.inr rfl), by decide, by decide⟩
  have lc1 : LcOk (cxOf CX0 P w K mg base ["thing", "low", "high"] "is_whole" (defScope s_is_whole) f_ cdv_ A outer s_ H E).nox 1 "low" := ⟨rfl, by first | exact Or.inl rfl | exact Or.inr rfl, by first | exact Or.inl rfl | exact Or.inr rfl⟩
  have nm2 : NmOk (cxOf CX0 P w K mg base ["thing", "low", "high"] "is_whole" (defScope s_is_whole) f_ cdv_ A outer s_ H E).nox 2 "high" := ⟨rfl, by first | exact Or.inl rfl | exact Or.inr (Or.inl rfl) | exact Or.inr (Or.inr rfl), by decide, by decide⟩
  have lc2 : LcOk (cxOf CX0 P w K mg base ["thing", "low", "high"] "is_whole" (defScope s_is_whole) f_ cdv_ A outer s_ H E).nox 2 "high" := ⟨rfl, by first | exact Or.inl rfl | exact Or.inr rfl, by first | exact Or.inl rfl | exact Or.inr rfl⟩
  obtain ⟨i, lo, hi, rfl, hR⟩ := h
  walk_at "go"
  refine ⟨_, kit_ii, ?_⟩
  walk_at "go"
  refine okT ?_
  walk_at "go"
  refine ⟨_, kit_ib, ?_⟩
  walk_at "go"
  refine okT ?_
  refine je_one ?_
  refine je_chain (g := fun i j => decide (i ≤ j)) (g' := fun i j => decide (i ≤ j)) op_le op_le ?_ rfl
  walk_at "go"
  refine ⟨fun z => ?_, fun z => ?_⟩
  · walk_at "go"
    rw [z, Bool.true_and] at hR
    exact ⟨by walk_at "bk", hR⟩
  · rw [z, Bool.false_and] at hR
    exact ⟨by walk_at "bk", hR⟩
def S_is_number : Spec := fun cs R => ∃ i lo hi : Int, cs = [.dat (.int i), .dat (.int lo), .dat (.int hi)] ∧ R cs (.dat (.bool (decide (lo ≤ i) && decide (i ≤ hi))))
theorem sc_is_number : FnScope ["thing", "low", "high"] ["thing", "low", "high"] (defScope s_is_number) := ⟨rfl, rfl, rfl, by decide +kernel, rfl, by decide +kernel, by decide +kernel⟩
theorem ok_is_number (g : GD K mg "is_number" s_is_number) (m1 : mg "isinstance" = none) (m2 : mg "int" = none) (m3 : mg "bool" = none) : DefOk P w K mg base 1 "is_number" ["thing", "low", "high"] S_is_number := by
  refine defD g sc_is_number (by decide) (fun _ _ _ _ _ _ us hl => match us, hl with | [_, _, _], _ => rfl) (fun cs R h => ?_) fun f_ cdv_ A outer s_ H E cs R hr h => ?_
  · obtain ⟨i, lo, hi, rfl, _⟩ := h
    rfl
  have hN : (["thing", "low", "high"] : List Str).Nodup := by decide +kernel
  have nm0 : NmOk (cxOf CX0 P w K mg base ["thing", "low", "high"] "is_number" (defScope s_is_number) f_ cdv_ A outer s_ H E).nox 0 "thing" := ⟨rfl, by first | exact Or.inl rfl | exact Or.inr (Or.inl rfl) | exact Or.inr (Or.inr rfl), by decide, by decide⟩
  have lc0 : LcOk (cxOf CX0 P w K mg base ["thing", "low", "high"] "is_number" (defScope s_is_number) f_ cdv_ A outer s_ H E).nox 0 "thing" := ⟨rfl, by first | exact Or.inl rfl | exact Or.inr rfl, by first | exact Or.inl rfl | exact Or.inr rfl⟩
  have nm1 : NmOk (cxOf CX0 P w K mg base ["thing", "low", "high"] "is_number" (defScope s_is_number) f_ cdv_ A outer s_ H E).nox 1 "low" := ⟨rfl, by first | exact Or.inl rfl | exact Or.inr (Or.inl rfl) | exact Or.inr (Or.inr rfl), by decide, by decide⟩
  have lc1 : LcOk (cxOf CX0 P w K mg base ["thing", "low", "high"] "is_number" (defScope s_is_number) f_ cdv_ A outer s_ H E).nox 1 "low" := ⟨rfl, by first | exact Or.inl rfl | exact Or.inr rfl, by first | exact Or.inl rfl | exact Or.inr rfl⟩
  have nm2 : NmOk (cxOf CX0 P w K mg base ["thing", "low", "high"] "is_number" (defScope s_is_number) f_ cdv_ A outer s_ H E).nox 2 "high" := ⟨rfl, by first | exact Or.inl rfl | exact Or.inr (Or.inl rfl) | exact Or.inr (Or.inr rfl), by decide, by decide⟩
  have lc2 : LcOk (cxOf CX0 P w K mg base ["thing", "low", "high"] "is_number" (defScope s_is_number) f_ cdv_ A outer s_ H E).nox 2 "high" := ⟨rfl, by first | exact Or.inl rfl | exact Or.inr rfl, by first | exact Or.inl rfl | exact Or.inr rfl⟩
  obtain ⟨i, lo, hi, rfl, hR⟩ := h
  walk_at "go"
  refine ⟨_, kit_ii, ?_⟩
  walk_at "go"
  refine okT ?_
  walk_at "go"
  refine ⟨_, kit_ib, ?_⟩
  walk_at "go"
  refine okT ?_
  refine je_one ?_
  refine je_chain (g := fun i j => decide (i ≤ j)) (g' := fun i j => decide (i ≤ j)) op_le op_le ?_ rfl
  walk_at "go"
  refine ⟨fun z => ?_, fun z => ?_⟩
  · walk_at "go"
    rw [z, Bool.true_and] at hR
    exact ⟨by walk_at "bk", hR⟩
  · rw [z, Bool.false_and] at hR
    exact ⟨by walk_at "bk", hR⟩
def S_with_lane : Spec := fun cs R => ∃ (f : List (List Nat)) (a : Nat) (l : List Nat), cs = [.dat (.tuple (f.map dL)), .dat (dN a), .dat (dL l)] ∧ a < f.length ∧ f.length ≤ 1000 ∧ R cs (.dat (.tuple ((f.set a l).map dL)))
theorem sc_with_lane : FnScope ["lanes", "at", "lane"] ["lanes", "at", "lane"] (defScope s_with_lane) := ⟨rfl, rfl, rfl, by decide +kernel, rfl, by decide +kernel, by decide +kernel⟩
theorem ok_with_lane (g : GD K mg "with_lane" s_with_lane)  : DefOk P w K mg base 1 "with_lane" ["lanes", "at", "lane"] S_with_lane := by
  refine defD g sc_with_lane (by decide) (fun _ _ _ _ _ _ us hl => match us, hl with | [_, _, _], _ => rfl) (fun cs R h => ?_) fun f_ cdv_ A outer s_ H E cs R hr h => ?_
  · obtain ⟨f, a, l, rfl, _⟩ := h
    rfl
  have hN : (["lanes", "at", "lane"] : List Str).Nodup := by decide +kernel
  have nm0 : NmOk (cxOf CX0 P w K mg base ["lanes", "at", "lane"] "with_lane" (defScope s_with_lane) f_ cdv_ A outer s_ H E).nox 0 "lanes" := ⟨rfl, by first | exact Or.inl rfl | exact Or.inr (Or.inl rfl) | exact Or.inr (Or.inr rfl), by decide, by decide⟩
  have lc0 : LcOk (cxOf CX0 P w K mg base ["lanes", "at", "lane"] "with_lane" (defScope s_with_lane) f_ cdv_ A outer s_ H E).nox 0 "lanes" := ⟨rfl, by first | exact Or.inl rfl | exact Or.inr rfl, by first | exact Or.inl rfl | exact Or.inr rfl⟩
  have nm1 : NmOk (cxOf CX0 P w K mg base ["lanes", "at", "lane"] "with_lane" (defScope s_with_lane) f_ cdv_ A outer s_ H E).nox 1 "at" := ⟨rfl, by first | exact Or.inl rfl | exact Or.inr (Or.inl rfl) | exact Or.inr (Or.inr rfl), by decide, by decide⟩
  have lc1 : LcOk (cxOf CX0 P w K mg base ["lanes", "at", "lane"] "with_lane" (defScope s_with_lane) f_ cdv_ A outer s_ H E).nox 1 "at" := ⟨rfl, by first | exact Or.inl rfl | exact Or.inr rfl, by first | exact Or.inl rfl | exact Or.inr rfl⟩
  have nm2 : NmOk (cxOf CX0 P w K mg base ["lanes", "at", "lane"] "with_lane" (defScope s_with_lane) f_ cdv_ A outer s_ H E).nox 2 "lane" := ⟨rfl, by first | exact Or.inl rfl | exact Or.inr (Or.inl rfl) | exact Or.inr (Or.inr rfl), by decide, by decide⟩
  have lc2 : LcOk (cxOf CX0 P w K mg base ["lanes", "at", "lane"] "with_lane" (defScope s_with_lane) f_ cdv_ A outer s_ H E).nox 2 "lane" := ⟨rfl, by first | exact Or.inl rfl | exact Or.inr rfl, by first | exact Or.inl rfl | exact Or.inr rfl⟩
  obtain ⟨f, a, l, rfl, ha, hz, hR⟩ := h
  walk_at "go"
  refine ⟨by simp <;> omega, ?_⟩
  walk_at "go"
  refine ⟨by simp <;> omega, by walk_at "bk", ?_⟩
  have e : List.map dL (f.take a) ++ [dL l] ++ List.map dL (f.drop (a + 1)) = (f.set a l).map dL := by
    rw [List.set_eq_take_append_cons_drop, if_pos ha]
    simp
  rw [e]
  exact hR
theorem whole_yes {i lo hi : Int} {R : List Cell → Res → Prop} (h1 : lo ≤ i) (h2 : i ≤ hi) (h : R [.dat (.int i), .dat (.int lo), .dat (.int hi)] (.dat (.bool true))) : S_is_whole [.dat (.int i), .dat (.int lo), .dat (.int hi)] R := by
  refine ⟨i, lo, hi, rfl, ?_⟩
  rw [decide_eq_true h1, decide_eq_true h2]
  exact h
theorem number_yes {i lo hi : Int} {R : List Cell → Res → Prop} (h1 : lo ≤ i) (h2 : i ≤ hi) (h : R [.dat (.int i), .dat (.int lo), .dat (.int hi)] (.dat (.bool true))) : S_is_number [.dat (.int i), .dat (.int lo), .dat (.int hi)] R := by
  refine ⟨i, lo, hi, rfl, ?_⟩
  rw [decide_eq_true h1, decide_eq_true h2]
  exact h
theorem tEq {d e : PyData} {p : Prop} [Decidable p] {t : Bool} (ht : t = true ↔ d = e) (hp : d = e ↔ p) : t = decide p := by
  cases t with
  | true => exact (decide_eq_true (hp.mp (ht.mp rfl))).symm
  | false => exact (decide_eq_false fun z => Bool.noConfusion (ht.mpr (hp.mpr z))).symm
theorem tNe {d e : PyData} {p : Prop} [Decidable p] {t : Bool} (ht : t = true ↔ d ≠ e) (hp : d = e ↔ p) : t = !decide p := by
  by_cases z : p
  · rw [decide_eq_true z]
    cases t with
    | true => exact absurd (hp.mpr z) (ht.mp rfl)
    | false => rfl
  · rw [decide_eq_false z]
    exact ht.mpr fun w => z (hp.mp w)
theorem lex_no {p q : Nat × Nat} (h : lexLt q p) : Ob.lexAt (fun j => decide (([p.1, p.2] : List Int).getD j 0 = ([q.1, q.2] : List Int).getD j 0)) (fun j => decide (([p.1, p.2] : List Int).getD j 0 ≤ ([q.1, q.2] : List Int).getD j 0)) (decide (([p.1, p.2] : List Int).length ≤ ([q.1, q.2] : List Int).length)) 0 (min ([p.1, p.2] : List Int).length ([q.1, q.2] : List Int).length) = false := by
  show (if decide ((p.1 : Int) = q.1) = true then (if decide ((p.2 : Int) = q.2) = true then decide (2 ≤ 2) else decide ((p.2 : Int) ≤ q.2)) else decide ((p.1 : Int) ≤ q.1)) = false
  rcases h with h | ⟨h1, h2⟩
  · rw [if_neg (by simp; omega)]
    simp
    omega
  · rw [if_pos (by simp; omega), if_neg (by simp; omega)]
    simp
    omega
theorem asc_at {t : List (Nat × Nat)} (h : t.Pairwise lexLt) {j : Nat} {p q : Nat × Nat} (hq : t[j]? = some q) (hp : t[j + 1]? = some p) : lexLt q p := by
  obtain ⟨h1, e1⟩ := List.getElem?_eq_some_iff.mp hq
  obtain ⟨h2, e2⟩ := List.getElem?_eq_some_iff.mp hp
  have := List.pairwise_iff_getElem.mp h j (j + 1) h1 h2 (by omega)
  rw [e1, e2] at this
  exact this

end
end
section
section
variable {P : Program} {w : World} {K : PySem.W.Frag} {mg : Str → Option Value} {base : Heap}
def S_is_track : Spec := fun cs R => ∃ (p : Nat × Nat) (k l : Nat), cs = [.dat (dP p), .dat (dN k), .dat (dN l)] ∧ p.1 < k ∧ p.2 < l ∧ R cs (.dat (.bool true))
theorem sc_is_track : FnScope ["thing", "firsts", "seconds"] ["thing", "firsts", "seconds"] (defScope s_is_track) := ⟨rfl, rfl, rfl, by decide +kernel, rfl, by decide +kernel, by decide +kernel⟩
theorem ok_is_track (g : GD K mg "is_track" s_is_track) (m1 : mg "isinstance" = none) (m2 : mg "tuple" = none) (m3 : mg "len" = none) (D1 : DefOk P w K mg base 1 "is_whole" ["thing", "low", "high"] S_is_whole) : DefOk P w K mg base 2 "is_track" ["thing", "firsts", "seconds"] S_is_track := by
  refine defD g sc_is_track (by decide) (fun _ _ _ _ _ _ us hl => match us, hl with | [_, _, _], _ => rfl) (fun cs R h => ?_) fun f_ cdv_ A outer s_ H E cs R hr h => ?_
  · obtain ⟨p, k, l, rfl, _⟩ := h
    rfl
  have hN : (["thing", "firsts", "seconds"] : List Str).Nodup := by decide +kernel
  have nm0 : NmOk (cxOf CX0 P w K mg base ["thing", "firsts", "seconds"] "is_track" (defScope s_is_track) f_ cdv_ A outer s_ H E).nox 0 "thing" := ⟨rfl, by first | exact Or.inl rfl | exact Or.inr (Or.inl rfl) | exact Or.inr (Or.inr rfl), by decide, by decide⟩
  have lc0 : LcOk (cxOf CX0 P w K mg base ["thing", "firsts", "seconds"] "is_track" (defScope s_is_track) f_ cdv_ A outer s_ H E).nox 0 "thing" := ⟨rfl, by first | exact Or.inl rfl | exact Or.inr rfl, by first | exact Or.inl rfl | exact Or.inr rfl⟩
  have nm1 : NmOk (cxOf CX0 P w K mg base ["thing", "firsts", "seconds"] "is_track" (defScope s_is_track) f_ cdv_ A outer s_ H E).nox 1 "firsts" := ⟨rfl, by first | exact Or.inl rfl | exact Or.inr (Or.inl rfl) | exact Or.inr (Or.inr rfl), by decide, by decide⟩
  have lc1 : LcOk (cxOf CX0 P w K mg base ["thing", "firsts", "seconds"] "is_track" (defScope s_is_track) f_ cdv_ A outer s_ H E).nox 1 "firsts" := ⟨rfl, by first | exact Or.inl rfl | exact Or.inr rfl, by first | exact Or.inl rfl | exact Or.inr rfl⟩
  have nm2 : NmOk (cxOf CX0 P w K mg base ["thing", "firsts", "seconds"] "is_track" (defScope s_is_track) f_ cdv_ A outer s_ H E).nox 2 "seconds" := ⟨rfl, by first | exact Or.inl rfl | exact Or.inr (Or.inl rfl) | exact Or.inr (Or.inr rfl), by decide, by decide⟩
  have lc2 : LcOk (cxOf CX0 P w K mg base ["thing", "firsts", "seconds"] "is_track" (defScope s_is_track) f_ cdv_ A outer s_ H E).nox 2 "seconds" := ⟨rfl, by first | exact Or.inl rfl | exact Or.inr rfl, by first | exact Or.inl rfl | exact Or.inr rfl⟩
  have dD1 : DefOk (cxOf CX0 P w K mg base ["thing", "firsts", "seconds"] "is_track" (defScope s_is_track) f_ cdv_ A outer s_ H E).nox.prog (cxOf CX0 P w K mg base ["thing", "firsts", "seconds"] "is_track" (defScope s_is_track) f_ cdv_ A outer s_ H E).nox.w (cxOf CX0 P w K mg base ["thing", "firsts", "seconds"] "is_track" (defScope s_is_track) f_ cdv_ A outer s_ H E).nox.K (cxOf CX0 P w K mg base ["thing", "firsts", "seconds"] "is_track" (defScope s_is_track) f_ cdv_ A outer s_ H E).nox.mg (cxOf CX0 P w K mg base ["thing", "firsts", "seconds"] "is_track" (defScope s_is_track) f_ cdv_ A outer s_ H E).nox.base 1 "is_whole" ["thing", "low", "high"] S_is_whole := D1
  obtain ⟨p, k, l, rfl, hp, hq, hR⟩ := h
  walk_at "go"
  refine ⟨_, kit_tt, ?_⟩
  walk_at "go"
  refine okF ?_
  walk_at "go"
  walk_at "same"
  refine okF ?_
  walk_at "go"
  walk_at "go"
  refine whole_yes (by walk_at "om") (by walk_at "om") ?_
  walk_at "go"
  refine okT ?_
  walk_at "go"
  walk_at "go"
  refine whole_yes (by walk_at "om") (by walk_at "om") ?_
  exact ⟨by walk_at "bk", hR⟩
def S_first_wrong : Spec := fun cs R => ∃ y : Yd, cs = [.dat (dY y)] ∧ YdOk y ∧ R cs (.dat .none)
theorem sc_first_wrong : FnScope ["thing", "firsts", "seconds", "tracks", "at"] ["thing"] (defScope s_first_wrong) := ⟨rfl, rfl, rfl, by decide +kernel, rfl, by decide +kernel, by decide +kernel⟩
theorem ok_first_wrong (g : GD K mg "first_wrong" s_first_wrong) (m1 : mg "isinstance" = none) (m2 : mg "tuple" = none) (m3 : mg "len" = none) (m4 : mg "range" = none) (c1 : ∃ t, mg "MOST_LANES" = some (.int 12 t)) (c2 : ∃ t, mg "MOST_TRACKS" = some (.int 60 t)) (D1 : DefOk P w K mg base 1 "is_whole" ["thing", "low", "high"] S_is_whole) (D2 : DefOk P w K mg base 2 "is_track" ["thing", "firsts", "seconds"] S_is_track) : DefOk P w K mg base 3 "first_wrong" ["thing"] S_first_wrong := by
  refine defD g sc_first_wrong (by decide) (fun _ _ _ _ _ _ us hl => match us, hl with | [_], _ => rfl) (fun cs R h => ?_) fun f_ cdv_ A outer s_ H E cs R hr h => ?_
  · obtain ⟨y, rfl, _⟩ := h
    rfl
  have hN : (["thing", "firsts", "seconds", "tracks", "at"] : List Str).Nodup := by decide +kernel
  have nm0 : NmOk (cxOf CX0 P w K mg base ["thing", "firsts", "seconds", "tracks", "at"] "first_wrong" (defScope s_first_wrong) f_ cdv_ A outer s_ H E).nox 0 "thing" := ⟨rfl, by first | exact Or.inl rfl | exact Or.inr (Or.inl rfl) | exact Or.inr (Or.inr rfl), by decide, by decide⟩
  have lc0 : LcOk (cxOf CX0 P w K mg base ["thing", "firsts", "seconds", "tracks", "at"] "first_wrong" (defScope s_first_wrong) f_ cdv_ A outer s_ H E).nox 0 "thing" := ⟨rfl, by first | exact Or.inl rfl | exact Or.inr rfl, by first | exact Or.inl rfl | exact Or.inr rfl⟩
  have nm1 : NmOk (cxOf CX0 P w K mg base ["thing", "firsts", "seconds", "tracks", "at"] "first_wrong" (defScope s_first_wrong) f_ cdv_ A outer s_ H E).nox 1 "firsts" := ⟨rfl, by first | exact Or.inl rfl | exact Or.inr (Or.inl rfl) | exact Or.inr (Or.inr rfl), by decide, by decide⟩
  have lc1 : LcOk (cxOf CX0 P w K mg base ["thing", "firsts", "seconds", "tracks", "at"] "first_wrong" (defScope s_first_wrong) f_ cdv_ A outer s_ H E).nox 1 "firsts" := ⟨rfl, by first | exact Or.inl rfl | exact Or.inr rfl, by first | exact Or.inl rfl | exact Or.inr rfl⟩
  have nm2 : NmOk (cxOf CX0 P w K mg base ["thing", "firsts", "seconds", "tracks", "at"] "first_wrong" (defScope s_first_wrong) f_ cdv_ A outer s_ H E).nox 2 "seconds" := ⟨rfl, by first | exact Or.inl rfl | exact Or.inr (Or.inl rfl) | exact Or.inr (Or.inr rfl), by decide, by decide⟩
  have lc2 : LcOk (cxOf CX0 P w K mg base ["thing", "firsts", "seconds", "tracks", "at"] "first_wrong" (defScope s_first_wrong) f_ cdv_ A outer s_ H E).nox 2 "seconds" := ⟨rfl, by first | exact Or.inl rfl | exact Or.inr rfl, by first | exact Or.inl rfl | exact Or.inr rfl⟩
  have nm3 : NmOk (cxOf CX0 P w K mg base ["thing", "firsts", "seconds", "tracks", "at"] "first_wrong" (defScope s_first_wrong) f_ cdv_ A outer s_ H E).nox 3 "tracks" := ⟨rfl, by first | exact Or.inl rfl | exact Or.inr (Or.inl rfl) | exact Or.inr (Or.inr rfl), by decide, by decide⟩
  have lc3 : LcOk (cxOf CX0 P w K mg base ["thing", "firsts", "seconds", "tracks", "at"] "first_wrong" (defScope s_first_wrong) f_ cdv_ A outer s_ H E).nox 3 "tracks" := ⟨rfl, by first | exact Or.inl rfl | exact Or.inr rfl, by first | exact Or.inl rfl | exact Or.inr rfl⟩
  have nm4 : NmOk (cxOf CX0 P w K mg base ["thing", "firsts", "seconds", "tracks", "at"] "first_wrong" (defScope s_first_wrong) f_ cdv_ A outer s_ H E).nox 4 "at" := ⟨rfl, by first | exact Or.inl rfl | exact Or.inr (Or.inl rfl) | exact Or.inr (Or.inr rfl), by decide, by decide⟩
  have lc4 : LcOk (cxOf CX0 P w K mg base ["thing", "firsts", "seconds", "tracks", "at"] "first_wrong" (defScope s_first_wrong) f_ cdv_ A outer s_ H E).nox 4 "at" := ⟨rfl, by first | exact Or.inl rfl | exact Or.inr rfl, by first | exact Or.inl rfl | exact Or.inr rfl⟩
  have dD1 : DefOk (cxOf CX0 P w K mg base ["thing", "firsts", "seconds", "tracks", "at"] "first_wrong" (defScope s_first_wrong) f_ cdv_ A outer s_ H E).nox.prog (cxOf CX0 P w K mg base ["thing", "firsts", "seconds", "tracks", "at"] "first_wrong" (defScope s_first_wrong) f_ cdv_ A outer s_ H E).nox.w (cxOf CX0 P w K mg base ["thing", "firsts", "seconds", "tracks", "at"] "first_wrong" (defScope s_first_wrong) f_ cdv_ A outer s_ H E).nox.K (cxOf CX0 P w K mg base ["thing", "firsts", "seconds", "tracks", "at"] "first_wrong" (defScope s_first_wrong) f_ cdv_ A outer s_ H E).nox.mg (cxOf CX0 P w K mg base ["thing", "firsts", "seconds", "tracks", "at"] "first_wrong" (defScope s_first_wrong) f_ cdv_ A outer s_ H E).nox.base 1 "is_whole" ["thing", "low", "high"] S_is_whole := D1
  have dD2 : DefOk (cxOf CX0 P w K mg base ["thing", "firsts", "seconds", "tracks", "at"] "first_wrong" (defScope s_first_wrong) f_ cdv_ A outer s_ H E).nox.prog (cxOf CX0 P w K mg base ["thing", "firsts", "seconds", "tracks", "at"] "first_wrong" (defScope s_first_wrong) f_ cdv_ A outer s_ H E).nox.w (cxOf CX0 P w K mg base ["thing", "firsts", "seconds", "tracks", "at"] "first_wrong" (defScope s_first_wrong) f_ cdv_ A outer s_ H E).nox.K (cxOf CX0 P w K mg base ["thing", "firsts", "seconds", "tracks", "at"] "first_wrong" (defScope s_first_wrong) f_ cdv_ A outer s_ H E).nox.mg (cxOf CX0 P w K mg base ["thing", "firsts", "seconds", "tracks", "at"] "first_wrong" (defScope s_first_wrong) f_ cdv_ A outer s_ H E).nox.base 2 "is_track" ["thing", "firsts", "seconds"] S_is_track := D2
  obtain ⟨y, rfl, hy, hR⟩ := h
  have b1 := hy.k1
  have b2 := hy.k2
  have b3 := hy.l1
  have b4 := hy.l2
  have b5 := hy.len
  walk_at "go"
  refine ⟨_, kit_tt, ?_⟩
  walk_at "go"
  refine okF ?_
  walk_at "go"
  walk_at "same"
  refine okF ?_
  walk_at "go"
  refine je_globI c1 rfl ?_ (by decide)
  walk_at "go"
  refine whole_yes (by walk_at "om") (by walk_at "om") ?_
  walk_at "go"
  refine okF ?_
  walk_at "go"
  refine je_globI c1 rfl ?_ (by decide)
  walk_at "go"
  refine whole_yes (by walk_at "om") (by walk_at "om") ?_
  walk_at "go"
  refine okF ?_
  walk_at "go"
  refine ⟨_, kit_tt, ?_⟩
  walk_at "go"
  refine okF ?_
  walk_at "go"
  refine je_globI c2 rfl ?_ (by decide)
  walk_at "go"
  refine okFe (by simp; omega) ?_
  walk_at "go"
  refine ⟨y.tr.length, by rw [List.length_map], by omega, ?_⟩
  refine ⟨fun i ρ => ∃ c, ρ = [some (.dat (dY y)), some (.dat (dN y.k)), some (.dat (dN y.l)), some (.dat (.tuple (y.tr.map dP))), c], ⟨none, rfl⟩, fun i ρ2 hi hI => ?_, fun ρ2 hI => ?_⟩
  · obtain ⟨c, rfl⟩ := hI
    obtain ⟨p, hp⟩ : ∃ p, y.tr[i]? = some p := ⟨_, List.getElem?_eq_getElem hi⟩
    have hm := hy.rng p (List.mem_of_getElem? hp)
    walk_at "go"
    walk_at "go"
    refine ⟨p, y.k, y.l, rfl, hm.1, hm.2, ?_⟩
    walk_at "go"
    refine okF ?_
    walk_at "go"
    refine okB (fun z => ?_) (fun z => okF ?_)
    · have hi0 : 0 < i := by simp at z; omega
      obtain ⟨j, rfl⟩ : ∃ j, i = j + 1 := ⟨i - 1, by omega⟩
      obtain ⟨q, hq⟩ : ∃ q, y.tr[j]? = some q := ⟨_, List.getElem?_eq_getElem (by omega)⟩
      walk_at "go"
      refine jt_leT (Room.units0 (by assumption)) ?_ rfl
      walk_at "go"
      walk_at "go"
      refine exX rfl (d := dP q) (by show atI _ (((j + 1 : Nat) : Int) - 1) = _; rw [show ((j + 1 : Nat) : Int) - 1 = (j : Int) by omega]; exact atI_map hq) ?_
      refine ⟨[p.1, p.2], [q.1, q.2], rfl, rfl, ?_⟩
      refine okFe (lex_no (asc_at hy.asc hq hp)) ?_
      walk_at "go"
      exact ⟨_, rfl⟩
    · walk_at "go"
      exact ⟨_, rfl⟩
  · obtain ⟨c, rfl⟩ := hI
    walk_at "go"
    exact ⟨by walk_at "bk", hR⟩
def S_made_yard : Spec := fun cs R => ∃ y : Yd, cs = [.dat (dY y)] ∧ YdOk y ∧ R cs (.dat (dY y))
theorem sc_made_yard : FnScope ["thing", "wrong"] ["thing"] (defScope s_made_yard) := ⟨rfl, rfl, rfl, by decide +kernel, rfl, by decide +kernel, by decide +kernel⟩
theorem ok_made_yard (g : GD K mg "made_yard" s_made_yard) (D1 : DefOk P w K mg base 3 "first_wrong" ["thing"] S_first_wrong) : DefOk P w K mg base 4 "made_yard" ["thing"] S_made_yard := by
  refine defD g sc_made_yard (by decide) (fun _ _ _ _ _ _ us hl => match us, hl with | [_], _ => rfl) (fun cs R h => ?_) fun f_ cdv_ A outer s_ H E cs R hr h => ?_
  · obtain ⟨y, rfl, _⟩ := h
    rfl
  have hN : (["thing", "wrong"] : List Str).Nodup := by decide +kernel
  have nm0 : NmOk (cxOf CX0 P w K mg base ["thing", "wrong"] "made_yard" (defScope s_made_yard) f_ cdv_ A outer s_ H E).nox 0 "thing" := ⟨rfl, by first | exact Or.inl rfl | exact Or.inr (Or.inl rfl) | exact Or.inr (Or.inr rfl), by decide, by decide⟩
  have lc0 : LcOk (cxOf CX0 P w K mg base ["thing", "wrong"] "made_yard" (defScope s_made_yard) f_ cdv_ A outer s_ H E).nox 0 "thing" := ⟨rfl, by first | exact Or.inl rfl | exact Or.inr rfl, by first | exact Or.inl rfl | exact Or.inr rfl⟩
  have nm1 : NmOk (cxOf CX0 P w K mg base ["thing", "wrong"] "made_yard" (defScope s_made_yard) f_ cdv_ A outer s_ H E).nox 1 "wrong" := ⟨rfl, by first | exact Or.inl rfl | exact Or.inr (Or.inl rfl) | exact Or.inr (Or.inr rfl), by decide, by decide⟩
  have lc1 : LcOk (cxOf CX0 P w K mg base ["thing", "wrong"] "made_yard" (defScope s_made_yard) f_ cdv_ A outer s_ H E).nox 1 "wrong" := ⟨rfl, by first | exact Or.inl rfl | exact Or.inr rfl, by first | exact Or.inl rfl | exact Or.inr rfl⟩
  have dD1 : DefOk (cxOf CX0 P w K mg base ["thing", "wrong"] "made_yard" (defScope s_made_yard) f_ cdv_ A outer s_ H E).nox.prog (cxOf CX0 P w K mg base ["thing", "wrong"] "made_yard" (defScope s_made_yard) f_ cdv_ A outer s_ H E).nox.w (cxOf CX0 P w K mg base ["thing", "wrong"] "made_yard" (defScope s_made_yard) f_ cdv_ A outer s_ H E).nox.K (cxOf CX0 P w K mg base ["thing", "wrong"] "made_yard" (defScope s_made_yard) f_ cdv_ A outer s_ H E).nox.mg (cxOf CX0 P w K mg base ["thing", "wrong"] "made_yard" (defScope s_made_yard) f_ cdv_ A outer s_ H E).nox.base 3 "first_wrong" ["thing"] S_first_wrong := D1
  obtain ⟨y, rfl, hy, hR⟩ := h
  walk_at "go"
  refine ⟨y, rfl, hy, ?_⟩
  walk_at "go"
  refine ⟨fun _ => okF ?_, fun z => absurd rfl z⟩
  walk_at "go"
  exact ⟨by walk_at "bk", hR⟩

end
end
section
section
variable {P : Program} {w : World} {K : PySem.W.Frag} {mg : Str → Option Value} {base : Heap}
theorem row_get {r : List Nat} (h : RowOk r) {i w : Nat} (hw : r[i]? = some w) : w < r.length ∧ w ∉ r.take i := by
  have hl : i < r.length := (List.getElem?_eq_some_iff.mp hw).1
  have hm : w ∈ List.range r.length := h.perm.subset (List.mem_of_getElem? hw)
  refine ⟨by simpa using hm, fun z => ?_⟩
  have nd : r.Nodup := h.perm.nodup_iff.mpr List.nodup_range
  obtain ⟨j, hj, e⟩ := List.getElem_of_mem z
  rw [List.length_take] at hj
  rw [List.getElem_take] at e
  have e2 := (List.getElem?_eq_some_iff.mp hw).2
  exact (List.pairwise_iff_getElem.mp nd) j i (by omega) hl (by omega) (e.trans e2.symm)
theorem sl_loE {α : Type} {f : α → PyData} {xs : List α} {i : Int} {kk : Res → Prop} {n : Nat} (e : i = (n : Int)) (h : kk (.dat (.tuple ((xs.drop n).map f)))) : SlK (.tuple (xs.map f)) (some i) none kk := by
  subst e
  exact sl_lo h
theorem map_get {α : Type} {f : α → PyData} {xs : List α} {i : Nat} {x : α} (h : xs[i]? = some x) : (xs.map f).getD i .none = f x := by
  rw [List.getD_eq_getElem?_getD, List.getElem?_map, h]
  rfl
theorem tg1 {α : Type} {f : α → PyData} {xs : List α} {i j : Nat} {x : α} (h : xs[i]? = some x) : TgD [j] ((xs.map f).getD i .none) [f x] := by
  rw [map_get h]
  exact .one j _
def S_made_row : Spec := fun cs R => ∃ r : List Nat, cs = [.dat (dL r)] ∧ RowOk r ∧ R cs (.dat (dL r))
theorem sc_made_row : FnScope ["thing", "met", "index", "wagon"] ["thing"] (defScope s_made_row) := ⟨rfl, rfl, rfl, by decide +kernel, rfl, by decide +kernel, by decide +kernel⟩
theorem ok_made_row (g : GD K mg "made_row" s_made_row) (m1 : mg "isinstance" = none) (m2 : mg "tuple" = none) (m3 : mg "len" = none) (m4 : mg "enumerate" = none) (c1 : ∃ t, mg "MOST_WAGONS" = some (.int 400 t)) (D1 : DefOk P w K mg base 1 "is_whole" ["thing", "low", "high"] S_is_whole) : DefOk P w K mg base 2 "made_row" ["thing"] S_made_row := by
  refine defD g sc_made_row (by decide) (fun _ _ _ _ _ _ us hl => match us, hl with | [_], _ => rfl) (fun cs R h => ?_) fun f_ cdv_ A outer s_ H E cs R hr h => ?_
  · obtain ⟨r, rfl, _⟩ := h
    rfl
  have hN : (["thing", "met", "index", "wagon"] : List Str).Nodup := by decide +kernel
  have nm0 : NmOk (cxOf CX0 P w K mg base ["thing", "met", "index", "wagon"] "made_row" (defScope s_made_row) f_ cdv_ A outer s_ H E).nox 0 "thing" := ⟨rfl, by first | exact Or.inl rfl | exact Or.inr (Or.inl rfl) | exact Or.inr (Or.inr rfl), by decide, by decide⟩
  have lc0 : LcOk (cxOf CX0 P w K mg base ["thing", "met", "index", "wagon"] "made_row" (defScope s_made_row) f_ cdv_ A outer s_ H E).nox 0 "thing" := ⟨rfl, by first | exact Or.inl rfl | exact Or.inr rfl, by first | exact Or.inl rfl | exact Or.inr rfl⟩
  have nm1 : NmOk (cxOf CX0 P w K mg base ["thing", "met", "index", "wagon"] "made_row" (defScope s_made_row) f_ cdv_ A outer s_ H E).nox 1 "met" := ⟨rfl, by first | exact Or.inl rfl | exact Or.inr (Or.inl rfl) | exact Or.inr (Or.inr rfl), by decide, by decide⟩
  have lc1 : LcOk (cxOf CX0 P w K mg base ["thing", "met", "index", "wagon"] "made_row" (defScope s_made_row) f_ cdv_ A outer s_ H E).nox 1 "met" := ⟨rfl, by first | exact Or.inl rfl | exact Or.inr rfl, by first | exact Or.inl rfl | exact Or.inr rfl⟩
  have nm2 : NmOk (cxOf CX0 P w K mg base ["thing", "met", "index", "wagon"] "made_row" (defScope s_made_row) f_ cdv_ A outer s_ H E).nox 2 "index" := ⟨rfl, by first | exact Or.inl rfl | exact Or.inr (Or.inl rfl) | exact Or.inr (Or.inr rfl), by decide, by decide⟩
  have lc2 : LcOk (cxOf CX0 P w K mg base ["thing", "met", "index", "wagon"] "made_row" (defScope s_made_row) f_ cdv_ A outer s_ H E).nox 2 "index" := ⟨rfl, by first | exact Or.inl rfl | exact Or.inr rfl, by first | exact Or.inl rfl | exact Or.inr rfl⟩
  have nm3 : NmOk (cxOf CX0 P w K mg base ["thing", "met", "index", "wagon"] "made_row" (defScope s_made_row) f_ cdv_ A outer s_ H E).nox 3 "wagon" := ⟨rfl, by first | exact Or.inl rfl | exact Or.inr (Or.inl rfl) | exact Or.inr (Or.inr rfl), by decide, by decide⟩
  have lc3 : LcOk (cxOf CX0 P w K mg base ["thing", "met", "index", "wagon"] "made_row" (defScope s_made_row) f_ cdv_ A outer s_ H E).nox 3 "wagon" := ⟨rfl, by first | exact Or.inl rfl | exact Or.inr rfl, by first | exact Or.inl rfl | exact Or.inr rfl⟩
  have dD1 : DefOk (cxOf CX0 P w K mg base ["thing", "met", "index", "wagon"] "made_row" (defScope s_made_row) f_ cdv_ A outer s_ H E).nox.prog (cxOf CX0 P w K mg base ["thing", "met", "index", "wagon"] "made_row" (defScope s_made_row) f_ cdv_ A outer s_ H E).nox.w (cxOf CX0 P w K mg base ["thing", "met", "index", "wagon"] "made_row" (defScope s_made_row) f_ cdv_ A outer s_ H E).nox.K (cxOf CX0 P w K mg base ["thing", "met", "index", "wagon"] "made_row" (defScope s_made_row) f_ cdv_ A outer s_ H E).nox.mg (cxOf CX0 P w K mg base ["thing", "met", "index", "wagon"] "made_row" (defScope s_made_row) f_ cdv_ A outer s_ H E).nox.base 1 "is_whole" ["thing", "low", "high"] S_is_whole := D1
  obtain ⟨r, rfl, hy, hR⟩ := h
  have b1 := hy.len
  walk_at "go"
  refine ⟨_, kit_tt, ?_⟩
  walk_at "go"
  refine okF ?_
  walk_at "go"
  refine je_globI c1 rfl ?_ (by decide)
  walk_at "go"
  refine okFe (by simp; omega) ?_
  walk_at "x"
  walk_at "x"
  walk_at "x"
  refine je_repL ?_
  walk_at "go"
  refine ⟨_, _, rfl, ?_⟩
  walk_at "go"
  refine ⟨(r.map dN).length, rfl, rfl, by simp; omega, fun p => ?_⟩
  rw [List.length_map]
  walk_at "go"
  refine ⟨fun i ρ => ∃ (met : List Bool) (c1 c2 : Option Cell), ρ = [some (.dat (dL r)), some (.own p (met.map .bool)), c1, c2] ∧ met.length = r.length ∧ ∀ w, met[w]? = some true → w ∈ r.take i, ⟨List.replicate r.length false, none, none, by rw [List.map_replicate]; rfl, by simp, fun w hw => ?_⟩, fun i ρ2 hi hI => ?_, fun ρ2 hI => ?_⟩
  · rw [List.getElem?_replicate] at hw
    split at hw <;> cases hw
  · obtain ⟨met, c1, c2, rfl, hl, hm⟩ := hI
    rw [List.length_map] at hi
    obtain ⟨x, hx⟩ : ∃ x, r[i]? = some x := ⟨_, List.getElem?_eq_getElem hi⟩
    obtain ⟨hx1, hx2⟩ := row_get hy hx
    have hmx : met[x]? = some false := by
      have e := List.getElem?_eq_getElem (l := met) (i := x) (by omega)
      cases q : met[x] with
      | false => rw [e, q]
      | true => exact absurd (hm x (by rw [e, q])) hx2
    refine jg_eq (d' := .tuple [.int i, dN x]) (by dsimp only; rw [map_get hx]) ?_
    walk_at "go"
    refine whole_yes (by walk_at "om") (by simp; omega) ?_
    walk_at "go"
    refine okF ?_
    walk_at "go"
    walk_at "go"
    refine okF ?_
    walk_at "go"
    refine js_setitem 1 ?_ rfl (Or.inl rfl) (by decide) (by decide) (fun _ => rfl) rfl rfl rfl
    walk_at "go"
    refine ⟨_, _, rfl, ?_⟩
    walk_at "go"
    refine ⟨_, _, x, rfl, rfl, by rw [List.length_map]; omega, met.set x true, _, _, by rw [List.map_set]; rfl, by rw [List.length_set]; exact hl, fun w hw => ?_⟩
    rw [List.take_add_one, hx]
    rw [List.getElem?_set] at hw
    split at hw
    · rename_i e
      subst e
      simp
    · exact List.mem_append_left _ (hm w hw)
  · obtain ⟨met, c1, c2, rfl, hl, hm⟩ := hI
    walk_at "go"
    exact ⟨by walk_at "bk", hR⟩

end
end
section
section
variable {P : Program} {w : World} {K : PySem.W.Frag} {mg : Str → Option Value} {base : Heap}
def S_made_dealing : Spec := fun cs R => ∃ (y : Yd) (r d : List Nat), cs = [.dat (dY y), .dat (dL r), .dat (dL d)] ∧ YdOk y ∧ RowOk r ∧ DealOk y r d ∧ R cs (.dat (dL d))
theorem sc_made_dealing : FnScope ["yard", "row", "thing", "place", "track"] ["yard", "row", "thing"] (defScope s_made_dealing) := ⟨rfl, rfl, rfl, by decide +kernel, rfl, by decide +kernel, by decide +kernel⟩
theorem ok_made_dealing (g : GD K mg "made_dealing" s_made_dealing) (m1 : mg "isinstance" = none) (m2 : mg "tuple" = none) (m3 : mg "len" = none) (m4 : mg "enumerate" = none) (D1 : DefOk P w K mg base 1 "is_number" ["thing", "low", "high"] S_is_number) (D2 : DefOk P w K mg base 4 "made_yard" ["thing"] S_made_yard) (D3 : DefOk P w K mg base 2 "made_row" ["thing"] S_made_row) : DefOk P w K mg base 5 "made_dealing" ["yard", "row", "thing"] S_made_dealing := by
  refine defD g sc_made_dealing (by decide) (fun _ _ _ _ _ _ us hl => match us, hl with | [_, _, _], _ => rfl) (fun cs R h => ?_) fun f_ cdv_ A outer s_ H E cs R hr h => ?_
  · obtain ⟨y, r, d, rfl, _⟩ := h
    rfl
  have hN : (["yard", "row", "thing", "place", "track"] : List Str).Nodup := by decide +kernel
  have nm0 : NmOk (cxOf CX0 P w K mg base ["yard", "row", "thing", "place", "track"] "made_dealing" (defScope s_made_dealing) f_ cdv_ A outer s_ H E).nox 0 "yard" := ⟨rfl, by first | exact Or.inl rfl | exact Or.inr (Or.inl rfl) | exact Or.inr (Or.inr rfl), by decide, by decide⟩
  have lc0 : LcOk (cxOf CX0 P w K mg base ["yard", "row", "thing", "place", "track"] "made_dealing" (defScope s_made_dealing) f_ cdv_ A outer s_ H E).nox 0 "yard" := ⟨rfl, by first | exact Or.inl rfl | exact Or.inr rfl, by first | exact Or.inl rfl | exact Or.inr rfl⟩
  have nm1 : NmOk (cxOf CX0 P w K mg base ["yard", "row", "thing", "place", "track"] "made_dealing" (defScope s_made_dealing) f_ cdv_ A outer s_ H E).nox 1 "row" := ⟨rfl, by first | exact Or.inl rfl | exact Or.inr (Or.inl rfl) | exact Or.inr (Or.inr rfl), by decide, by decide⟩
  have lc1 : LcOk (cxOf CX0 P w K mg base ["yard", "row", "thing", "place", "track"] "made_dealing" (defScope s_made_dealing) f_ cdv_ A outer s_ H E).nox 1 "row" := ⟨rfl, by first | exact Or.inl rfl | exact Or.inr rfl, by first | exact Or.inl rfl | exact Or.inr rfl⟩
  have nm2 : NmOk (cxOf CX0 P w K mg base ["yard", "row", "thing", "place", "track"] "made_dealing" (defScope s_made_dealing) f_ cdv_ A outer s_ H E).nox 2 "thing" := ⟨rfl, by first | exact Or.inl rfl | exact Or.inr (Or.inl rfl) | exact Or.inr (Or.inr rfl), by decide, by decide⟩
  have lc2 : LcOk (cxOf CX0 P w K mg base ["yard", "row", "thing", "place", "track"] "made_dealing" (defScope s_made_dealing) f_ cdv_ A outer s_ H E).nox 2 "thing" := ⟨rfl, by first | exact Or.inl rfl | exact Or.inr rfl, by first | exact Or.inl rfl | exact Or.inr rfl⟩
  have nm3 : NmOk (cxOf CX0 P w K mg base ["yard", "row", "thing", "place", "track"] "made_dealing" (defScope s_made_dealing) f_ cdv_ A outer s_ H E).nox 3 "place" := ⟨rfl, by first | exact Or.inl rfl | exact Or.inr (Or.inl rfl) | exact Or.inr (Or.inr rfl), by decide, by decide⟩
  have lc3 : LcOk (cxOf CX0 P w K mg base ["yard", "row", "thing", "place", "track"] "made_dealing" (defScope s_made_dealing) f_ cdv_ A outer s_ H E).nox 3 "place" := ⟨rfl, by first | exact Or.inl rfl | exact Or.inr rfl, by first | exact Or.inl rfl | exact Or.inr rfl⟩
  have nm4 : NmOk (cxOf CX0 P w K mg base ["yard", "row", "thing", "place", "track"] "made_dealing" (defScope s_made_dealing) f_ cdv_ A outer s_ H E).nox 4 "track" := ⟨rfl, by first | exact Or.inl rfl | exact Or.inr (Or.inl rfl) | exact Or.inr (Or.inr rfl), by decide, by decide⟩
  have lc4 : LcOk (cxOf CX0 P w K mg base ["yard", "row", "thing", "place", "track"] "made_dealing" (defScope s_made_dealing) f_ cdv_ A outer s_ H E).nox 4 "track" := ⟨rfl, by first | exact Or.inl rfl | exact Or.inr rfl, by first | exact Or.inl rfl | exact Or.inr rfl⟩
  have dD1 : DefOk (cxOf CX0 P w K mg base ["yard", "row", "thing", "place", "track"] "made_dealing" (defScope s_made_dealing) f_ cdv_ A outer s_ H E).nox.prog (cxOf CX0 P w K mg base ["yard", "row", "thing", "place", "track"] "made_dealing" (defScope s_made_dealing) f_ cdv_ A outer s_ H E).nox.w (cxOf CX0 P w K mg base ["yard", "row", "thing", "place", "track"] "made_dealing" (defScope s_made_dealing) f_ cdv_ A outer s_ H E).nox.K (cxOf CX0 P w K mg base ["yard", "row", "thing", "place", "track"] "made_dealing" (defScope s_made_dealing) f_ cdv_ A outer s_ H E).nox.mg (cxOf CX0 P w K mg base ["yard", "row", "thing", "place", "track"] "made_dealing" (defScope s_made_dealing) f_ cdv_ A outer s_ H E).nox.base 1 "is_number" ["thing", "low", "high"] S_is_number := D1
  have dD2 : DefOk (cxOf CX0 P w K mg base ["yard", "row", "thing", "place", "track"] "made_dealing" (defScope s_made_dealing) f_ cdv_ A outer s_ H E).nox.prog (cxOf CX0 P w K mg base ["yard", "row", "thing", "place", "track"] "made_dealing" (defScope s_made_dealing) f_ cdv_ A outer s_ H E).nox.w (cxOf CX0 P w K mg base ["yard", "row", "thing", "place", "track"] "made_dealing" (defScope s_made_dealing) f_ cdv_ A outer s_ H E).nox.K (cxOf CX0 P w K mg base ["yard", "row", "thing", "place", "track"] "made_dealing" (defScope s_made_dealing) f_ cdv_ A outer s_ H E).nox.mg (cxOf CX0 P w K mg base ["yard", "row", "thing", "place", "track"] "made_dealing" (defScope s_made_dealing) f_ cdv_ A outer s_ H E).nox.base 4 "made_yard" ["thing"] S_made_yard := D2
  have dD3 : DefOk (cxOf CX0 P w K mg base ["yard", "row", "thing", "place", "track"] "made_dealing" (defScope s_made_dealing) f_ cdv_ A outer s_ H E).nox.prog (cxOf CX0 P w K mg base ["yard", "row", "thing", "place", "track"] "made_dealing" (defScope s_made_dealing) f_ cdv_ A outer s_ H E).nox.w (cxOf CX0 P w K mg base ["yard", "row", "thing", "place", "track"] "made_dealing" (defScope s_made_dealing) f_ cdv_ A outer s_ H E).nox.K (cxOf CX0 P w K mg base ["yard", "row", "thing", "place", "track"] "made_dealing" (defScope s_made_dealing) f_ cdv_ A outer s_ H E).nox.mg (cxOf CX0 P w K mg base ["yard", "row", "thing", "place", "track"] "made_dealing" (defScope s_made_dealing) f_ cdv_ A outer s_ H E).nox.base 2 "made_row" ["thing"] S_made_row := D3
  obtain ⟨y, r, d, rfl, hy, hr', hd, hR⟩ := h
  walk_at "go"
  refine ⟨y, rfl, hy, ?_⟩
  walk_at "go"
  refine ⟨r, rfl, hr', ?_⟩
  walk_at "go"
  refine ⟨_, kit_tt, ?_⟩
  walk_at "go"
  refine okF ?_
  walk_at "go"
  rw [List.length_map, List.length_map, hd.len]
  walk_at "same"
  refine okF ?_
  walk_at "go"
  refine ⟨fun i ρ => ∃ c1 c2, ρ = [some (.dat (dY y)), some (.dat (dL r)), some (.dat (dL d)), c1, c2], ⟨none, none, rfl⟩, fun i ρ2 hi hI => ?_, fun ρ2 hI => ?_⟩
  · obtain ⟨c1, c2, rfl⟩ := hI
    rw [List.length_map] at hi
    obtain ⟨x, hx⟩ : ∃ x, d[i]? = some x := ⟨_, List.getElem?_eq_getElem hi⟩
    have hx1 := hd.rng x (List.mem_of_getElem? hx)
    refine jg_eq (d' := .tuple [.int i, dN x]) (by dsimp only; rw [map_get hx]) ?_
    walk_at "go"
    walk_at "go"
    refine number_yes (by walk_at "om") (by simp; omega) ?_
    walk_at "go"
    refine okF ?_
    walk_at "go"
    exact ⟨_, _, rfl⟩
  · obtain ⟨c1, c2, rfl⟩ := hI
    walk_at "go"
    exact ⟨by walk_at "bk", hR⟩
def S_is_wagons : Spec := fun cs R => ∃ (l : List Nat) (n : Nat), cs = [.dat (dL l), .dat (dN n)] ∧ l.length ≤ 1000 ∧ (∀ x ∈ l, x < n) ∧ R cs (.dat (.bool true))
theorem sc_is_wagons : FnScope ["thing", "n", "wagon"] ["thing", "n"] (defScope s_is_wagons) := ⟨rfl, rfl, rfl, by decide +kernel, rfl, by decide +kernel, by decide +kernel⟩
theorem ok_is_wagons (g : GD K mg "is_wagons" s_is_wagons) (m1 : mg "isinstance" = none) (m2 : mg "tuple" = none) (D1 : DefOk P w K mg base 1 "is_whole" ["thing", "low", "high"] S_is_whole) : DefOk P w K mg base 2 "is_wagons" ["thing", "n"] S_is_wagons := by
  refine defD g sc_is_wagons (by decide) (fun _ _ _ _ _ _ us hl => match us, hl with | [_, _], _ => rfl) (fun cs R h => ?_) fun f_ cdv_ A outer s_ H E cs R hr h => ?_
  · obtain ⟨l, n, rfl, _⟩ := h
    rfl
  have hN : (["thing", "n", "wagon"] : List Str).Nodup := by decide +kernel
  have nm0 : NmOk (cxOf CX0 P w K mg base ["thing", "n", "wagon"] "is_wagons" (defScope s_is_wagons) f_ cdv_ A outer s_ H E).nox 0 "thing" := ⟨rfl, by first | exact Or.inl rfl | exact Or.inr (Or.inl rfl) | exact Or.inr (Or.inr rfl), by decide, by decide⟩
  have lc0 : LcOk (cxOf CX0 P w K mg base ["thing", "n", "wagon"] "is_wagons" (defScope s_is_wagons) f_ cdv_ A outer s_ H E).nox 0 "thing" := ⟨rfl, by first | exact Or.inl rfl | exact Or.inr rfl, by first | exact Or.inl rfl | exact Or.inr rfl⟩
  have nm1 : NmOk (cxOf CX0 P w K mg base ["thing", "n", "wagon"] "is_wagons" (defScope s_is_wagons) f_ cdv_ A outer s_ H E).nox 1 "n" := ⟨rfl, by first | exact Or.inl rfl | exact Or.inr (Or.inl rfl) | exact Or.inr (Or.inr rfl), by decide, by decide⟩
  have lc1 : LcOk (cxOf CX0 P w K mg base ["thing", "n", "wagon"] "is_wagons" (defScope s_is_wagons) f_ cdv_ A outer s_ H E).nox 1 "n" := ⟨rfl, by first | exact Or.inl rfl | exact Or.inr rfl, by first | exact Or.inl rfl | exact Or.inr rfl⟩
  have dD1 : DefOk (cxOf CX0 P w K mg base ["thing", "n", "wagon"] "is_wagons" (defScope s_is_wagons) f_ cdv_ A outer s_ H E).nox.prog (cxOf CX0 P w K mg base ["thing", "n", "wagon"] "is_wagons" (defScope s_is_wagons) f_ cdv_ A outer s_ H E).nox.w (cxOf CX0 P w K mg base ["thing", "n", "wagon"] "is_wagons" (defScope s_is_wagons) f_ cdv_ A outer s_ H E).nox.K (cxOf CX0 P w K mg base ["thing", "n", "wagon"] "is_wagons" (defScope s_is_wagons) f_ cdv_ A outer s_ H E).nox.mg (cxOf CX0 P w K mg base ["thing", "n", "wagon"] "is_wagons" (defScope s_is_wagons) f_ cdv_ A outer s_ H E).nox.base 1 "is_whole" ["thing", "low", "high"] S_is_whole := D1
  obtain ⟨l, n, rfl, hz, hl, hR⟩ := h
  walk_at "go"
  refine ⟨_, kit_tt, ?_⟩
  walk_at "go"
  refine okF ?_
  walk_at "go"
  refine je_lc1 [("wagon", 2)] [2] ?_ (by simp) (by simp) (tgok_name 2 fun s H C cl fp => pg_name (by assumption) rfl (Or.inl rfl)) rfl (by assumption) (by walk_at "blk") (fun _ => rfl)
  refine ji_tup ?_
  walk_at "go"
  refine ⟨fun i acc => acc = [], rfl, by rw [List.length_map]; omega, by simp, fun i acc hi hI => ?_, fun acc p hI => ?_⟩
  · subst hI
    rw [List.length_map] at hi
    obtain ⟨x, hx⟩ : ∃ x, l[i]? = some x := ⟨_, List.getElem?_eq_getElem hi⟩
    have hx1 := hl x (List.mem_of_getElem? hx)
    refine ⟨[dN x], tg1 hx, fun s H C cl fp => ?_⟩
    walk_at "go"
    refine whole_yes (by walk_at "om") (by walk_at "om") ?_
    walk_at "go"
    exact okF ⟨rfl, rfl⟩
  · subst hI
    walk_at "go"
    walk_at "same"
    exact ⟨by walk_at "bk", hR⟩
def S_is_lanes : Spec := fun cs R => ∃ (f : List (List Nat)) (m n : Nat), cs = [.dat (.tuple (f.map dL)), .dat (dN m), .dat (dN n)] ∧ f.length = m ∧ (∀ l ∈ f, l.length ≤ 1000 ∧ ∀ x ∈ l, x < n) ∧ R cs (.dat (.bool true))
theorem sc_is_lanes : FnScope ["thing", "many", "n", "lane"] ["thing", "many", "n"] (defScope s_is_lanes) := ⟨rfl, rfl, rfl, by decide +kernel, rfl, by decide +kernel, by decide +kernel⟩
theorem ok_is_lanes (g : GD K mg "is_lanes" s_is_lanes) (m1 : mg "isinstance" = none) (m2 : mg "tuple" = none) (m3 : mg "len" = none) (D1 : DefOk P w K mg base 2 "is_wagons" ["thing", "n"] S_is_wagons) : DefOk P w K mg base 3 "is_lanes" ["thing", "many", "n"] S_is_lanes := by
  refine defD g sc_is_lanes (by decide) (fun _ _ _ _ _ _ us hl => match us, hl with | [_, _, _], _ => rfl) (fun cs R h => ?_) fun f_ cdv_ A outer s_ H E cs R hr h => ?_
  · obtain ⟨f, m, n, rfl, _⟩ := h
    rfl
  have hN : (["thing", "many", "n", "lane"] : List Str).Nodup := by decide +kernel
  have nm0 : NmOk (cxOf CX0 P w K mg base ["thing", "many", "n", "lane"] "is_lanes" (defScope s_is_lanes) f_ cdv_ A outer s_ H E).nox 0 "thing" := ⟨rfl, by first | exact Or.inl rfl | exact Or.inr (Or.inl rfl) | exact Or.inr (Or.inr rfl), by decide, by decide⟩
  have lc0 : LcOk (cxOf CX0 P w K mg base ["thing", "many", "n", "lane"] "is_lanes" (defScope s_is_lanes) f_ cdv_ A outer s_ H E).nox 0 "thing" := ⟨rfl, by first | exact Or.inl rfl | exact Or.inr rfl, by first | exact Or.inl rfl | exact Or.inr rfl⟩
  have nm1 : NmOk (cxOf CX0 P w K mg base ["thing", "many", "n", "lane"] "is_lanes" (defScope s_is_lanes) f_ cdv_ A outer s_ H E).nox 1 "many" := ⟨rfl, by first | exact Or.inl rfl | exact Or.inr (Or.inl rfl) | exact Or.inr (Or.inr rfl), by decide, by decide⟩
  have lc1 : LcOk (cxOf CX0 P w K mg base ["thing", "many", "n", "lane"] "is_lanes" (defScope s_is_lanes) f_ cdv_ A outer s_ H E).nox 1 "many" := ⟨rfl, by first | exact Or.inl rfl | exact Or.inr rfl, by first | exact Or.inl rfl | exact Or.inr rfl⟩
  have nm2 : NmOk (cxOf CX0 P w K mg base ["thing", "many", "n", "lane"] "is_lanes" (defScope s_is_lanes) f_ cdv_ A outer s_ H E).nox 2 "n" := ⟨rfl, by first | exact Or.inl rfl | exact Or.inr (Or.inl rfl) | exact Or.inr (Or.inr rfl), by decide, by decide⟩
  have lc2 : LcOk (cxOf CX0 P w K mg base ["thing", "many", "n", "lane"] "is_lanes" (defScope s_is_lanes) f_ cdv_ A outer s_ H E).nox 2 "n" := ⟨rfl, by first | exact Or.inl rfl | exact Or.inr rfl, by first | exact Or.inl rfl | exact Or.inr rfl⟩
  have nm3 : NmOk (cxOf CX0 P w K mg base ["thing", "many", "n", "lane"] "is_lanes" (defScope s_is_lanes) f_ cdv_ A outer s_ H E).nox 3 "lane" := ⟨rfl, by first | exact Or.inl rfl | exact Or.inr (Or.inl rfl) | exact Or.inr (Or.inr rfl), by decide, by decide⟩
  have lc3 : LcOk (cxOf CX0 P w K mg base ["thing", "many", "n", "lane"] "is_lanes" (defScope s_is_lanes) f_ cdv_ A outer s_ H E).nox 3 "lane" := ⟨rfl, by first | exact Or.inl rfl | exact Or.inr rfl, by first | exact Or.inl rfl | exact Or.inr rfl⟩
  have dD1 : DefOk (cxOf CX0 P w K mg base ["thing", "many", "n", "lane"] "is_lanes" (defScope s_is_lanes) f_ cdv_ A outer s_ H E).nox.prog (cxOf CX0 P w K mg base ["thing", "many", "n", "lane"] "is_lanes" (defScope s_is_lanes) f_ cdv_ A outer s_ H E).nox.w (cxOf CX0 P w K mg base ["thing", "many", "n", "lane"] "is_lanes" (defScope s_is_lanes) f_ cdv_ A outer s_ H E).nox.K (cxOf CX0 P w K mg base ["thing", "many", "n", "lane"] "is_lanes" (defScope s_is_lanes) f_ cdv_ A outer s_ H E).nox.mg (cxOf CX0 P w K mg base ["thing", "many", "n", "lane"] "is_lanes" (defScope s_is_lanes) f_ cdv_ A outer s_ H E).nox.base 2 "is_wagons" ["thing", "n"] S_is_wagons := D1
  obtain ⟨f, m, n, rfl, rfl, hl, hR⟩ := h
  walk_at "go"
  refine ⟨_, kit_tt, ?_⟩
  walk_at "go"
  refine okF ?_
  walk_at "go"
  rw [List.length_map]
  walk_at "same"
  refine okF ?_
  walk_at "go"
  refine ji_tup ?_
  walk_at "go"
  refine ⟨fun i ρ => ∃ c1, ρ = [some (.dat (.tuple (f.map dL))), some (.dat (dN f.length)), some (.dat (dN n)), c1], ⟨none, rfl⟩, fun i ρ2 hi hI => ?_, fun ρ2 hI => ?_⟩
  · obtain ⟨c1, rfl⟩ := hI
    rw [List.length_map] at hi
    obtain ⟨x, hx⟩ : ∃ x, f[i]? = some x := ⟨_, List.getElem?_eq_getElem hi⟩
    have hx1 := hl x (List.mem_of_getElem? hx)
    refine jg_eq (d' := dL x) (by dsimp only; rw [map_get hx]) ?_
    walk_at "go"
    refine ⟨x, n, rfl, hx1.1, hx1.2, ?_⟩
    walk_at "go"
    refine okF ?_
    walk_at "go"
    exact ⟨_, rfl⟩
  · obtain ⟨c1, rfl⟩ := hI
    walk_at "go"
    exact ⟨by walk_at "bk", hR⟩

end
end
section
section
variable {P : Program} {w : World} {K : PySem.W.Frag} {mg : Str → Option Value} {base : Heap}
theorem flat_le {xs : List (List Nat)} {i : Nat} : ((xs.take i).flatten).length ≤ xs.flatten.length := by
  have e : xs.flatten = (xs.take i).flatten ++ (xs.drop i).flatten := by rw [← List.flatten_append, List.take_append_drop]
  rw [e, List.length_append]
  omega
theorem flat_step {xs : List (List Nat)} {i : Nat} {x : List Nat} (h : xs[i]? = some x) : (xs.take (i + 1)).flatten = (xs.take i).flatten ++ x := by
  rw [List.take_add_one, h]
  simp
def S_wagons_of : Spec := fun cs R => ∃ s : Sd, cs = [.dat (dS s)] ∧ s.g + s.w.length + s.f.flatten.length + s.s.flatten.length ≤ 5000 ∧ s.f.length + s.s.length ≤ 1000 ∧ ∀ p, R cs (.new (.own p ((List.range s.g ++ s.w ++ s.f.flatten ++ s.s.flatten).map dN)))
theorem sc_wagons_of : FnScope ["stand", "waiting", "firsts", "seconds", "gone", "found", "lane"] ["stand"] (defScope s_wagons_of) := ⟨rfl, rfl, rfl, by decide +kernel, rfl, by decide +kernel, by decide +kernel⟩
theorem ok_wagons_of (g : GD K mg "wagons_of" s_wagons_of) (m1 : mg "list" = none) (m2 : mg "range" = none) : DefOk P w K mg base 1 "wagons_of" ["stand"] S_wagons_of := by
  refine defD g sc_wagons_of (by decide) (fun _ _ _ _ _ _ us hl => match us, hl with | [_], _ => rfl) (fun cs R h => ?_) fun f_ cdv_ A outer s_ H E cs R hr h => ?_
  · obtain ⟨s, rfl, _⟩ := h
    rfl
  have hN : (["stand", "waiting", "firsts", "seconds", "gone", "found", "lane"] : List Str).Nodup := by decide +kernel
  have nm0 : NmOk (cxOf CX0 P w K mg base ["stand", "waiting", "firsts", "seconds", "gone", "found", "lane"] "wagons_of" (defScope s_wagons_of) f_ cdv_ A outer s_ H E).nox 0 "stand" := ⟨rfl, by first | exact Or.inl rfl | exact Or.inr (Or.inl rfl) | exact Or.inr (Or.inr rfl), by decide, by decide⟩
  have lc0 : LcOk (cxOf CX0 P w K mg base ["stand", "waiting", "firsts", "seconds", "gone", "found", "lane"] "wagons_of" (defScope s_wagons_of) f_ cdv_ A outer s_ H E).nox 0 "stand" := ⟨rfl, by first | exact Or.inl rfl | exact Or.inr rfl, by first | exact Or.inl rfl | exact Or.inr rfl⟩
  have nm1 : NmOk (cxOf CX0 P w K mg base ["stand", "waiting", "firsts", "seconds", "gone", "found", "lane"] "wagons_of" (defScope s_wagons_of) f_ cdv_ A outer s_ H E).nox 1 "waiting" := ⟨rfl, by first | exact Or.inl rfl | exact Or.inr (Or.inl rfl) | exact Or.inr (Or.inr rfl), by decide, by decide⟩
  have lc1 : LcOk (cxOf CX0 P w K mg base ["stand", "waiting", "firsts", "seconds", "gone", "found", "lane"] "wagons_of" (defScope s_wagons_of) f_ cdv_ A outer s_ H E).nox 1 "waiting" := ⟨rfl, by first | exact Or.inl rfl | exact Or.inr rfl, by first | exact Or.inl rfl | exact Or.inr rfl⟩
  have nm2 : NmOk (cxOf CX0 P w K mg base ["stand", "waiting", "firsts", "seconds", "gone", "found", "lane"] "wagons_of" (defScope s_wagons_of) f_ cdv_ A outer s_ H E).nox 2 "firsts" := ⟨rfl, by first | exact Or.inl rfl | exact Or.inr (Or.inl rfl) | exact Or.inr (Or.inr rfl), by decide, by decide⟩
  have lc2 : LcOk (cxOf CX0 P w K mg base ["stand", "waiting", "firsts", "seconds", "gone", "found", "lane"] "wagons_of" (defScope s_wagons_of) f_ cdv_ A outer s_ H E).nox 2 "firsts" := ⟨rfl, by first | exact Or.inl rfl | exact Or.inr rfl, by first | exact Or.inl rfl | exact Or.inr rfl⟩
  have nm3 : NmOk (cxOf CX0 P w K mg base ["stand", "waiting", "firsts", "seconds", "gone", "found", "lane"] "wagons_of" (defScope s_wagons_of) f_ cdv_ A outer s_ H E).nox 3 "seconds" := ⟨rfl, by first | exact Or.inl rfl | exact Or.inr (Or.inl rfl) | exact Or.inr (Or.inr rfl), by decide, by decide⟩
  have lc3 : LcOk (cxOf CX0 P w K mg base ["stand", "waiting", "firsts", "seconds", "gone", "found", "lane"] "wagons_of" (defScope s_wagons_of) f_ cdv_ A outer s_ H E).nox 3 "seconds" := ⟨rfl, by first | exact Or.inl rfl | exact Or.inr rfl, by first | exact Or.inl rfl | exact Or.inr rfl⟩
  have nm4 : NmOk (cxOf CX0 P w K mg base ["stand", "waiting", "firsts", "seconds", "gone", "found", "lane"] "wagons_of" (defScope s_wagons_of) f_ cdv_ A outer s_ H E).nox 4 "gone" := ⟨rfl, by first | exact Or.inl rfl | exact Or.inr (Or.inl rfl) | exact Or.inr (Or.inr rfl), by decide, by decide⟩
  have lc4 : LcOk (cxOf CX0 P w K mg base ["stand", "waiting", "firsts", "seconds", "gone", "found", "lane"] "wagons_of" (defScope s_wagons_of) f_ cdv_ A outer s_ H E).nox 4 "gone" := ⟨rfl, by first | exact Or.inl rfl | exact Or.inr rfl, by first | exact Or.inl rfl | exact Or.inr rfl⟩
  have nm5 : NmOk (cxOf CX0 P w K mg base ["stand", "waiting", "firsts", "seconds", "gone", "found", "lane"] "wagons_of" (defScope s_wagons_of) f_ cdv_ A outer s_ H E).nox 5 "found" := ⟨rfl, by first | exact Or.inl rfl | exact Or.inr (Or.inl rfl) | exact Or.inr (Or.inr rfl), by decide, by decide⟩
  have lc5 : LcOk (cxOf CX0 P w K mg base ["stand", "waiting", "firsts", "seconds", "gone", "found", "lane"] "wagons_of" (defScope s_wagons_of) f_ cdv_ A outer s_ H E).nox 5 "found" := ⟨rfl, by first | exact Or.inl rfl | exact Or.inr rfl, by first | exact Or.inl rfl | exact Or.inr rfl⟩
  have nm6 : NmOk (cxOf CX0 P w K mg base ["stand", "waiting", "firsts", "seconds", "gone", "found", "lane"] "wagons_of" (defScope s_wagons_of) f_ cdv_ A outer s_ H E).nox 6 "lane" := ⟨rfl, by first | exact Or.inl rfl | exact Or.inr (Or.inl rfl) | exact Or.inr (Or.inr rfl), by decide, by decide⟩
  have lc6 : LcOk (cxOf CX0 P w K mg base ["stand", "waiting", "firsts", "seconds", "gone", "found", "lane"] "wagons_of" (defScope s_wagons_of) f_ cdv_ A outer s_ H E).nox 6 "lane" := ⟨rfl, by first | exact Or.inl rfl | exact Or.inr rfl, by first | exact Or.inl rfl | exact Or.inr rfl⟩
  obtain ⟨s, rfl, hz, hz2, hR⟩ := h
  iterate 15 walk_at "x"
  refine je_catL ?_
  walk_at "go"
  refine ⟨s.g, rfl, by omega, fun q => ?_⟩
  walk_at "go"
  refine ⟨_, _, rfl, rfl, by simp; omega, fun p => ?_⟩
  walk_at "go"
  refine ji_tup ?_
  walk_at "go"
  refine ⟨by simp; omega, ?_⟩
  walk_at "go"
  rw [← List.map_append (f := dL)]
  have hfl : ((s.f ++ s.s).flatten).length = s.f.flatten.length + s.s.flatten.length := by rw [List.flatten_append, List.length_append]
  refine ⟨fun i ρ => ∃ c, ρ = [some (.dat (dS s)), some (.dat (dL s.w)), some (.dat (.tuple (s.f.map dL))), some (.dat (.tuple (s.s.map dL))), some (.dat (dN s.g)), some (.own p ((List.range s.g ++ s.w ++ ((s.f ++ s.s).take i).flatten).map dN)), c], ⟨none, by simp⟩, fun i ρ2 hi hI => ?_, fun ρ2 hI => ?_⟩
  · obtain ⟨c, rfl⟩ := hI
    rw [List.length_map] at hi
    obtain ⟨x, hx⟩ : ∃ x, (s.f ++ s.s)[i]? = some x := ⟨_, List.getElem?_eq_getElem hi⟩
    refine jg_eq (d' := dL x) (by dsimp only; rw [map_get hx]) ?_
    walk_at "go"
    have l1 := flat_le (xs := s.f ++ s.s) (i := i + 1)
    have l2 := flat_step hx
    rw [l2] at l1
    refine ⟨_, _, _, rfl, rfl, ?_, some (.dat (dL x)), ?_⟩
    · simp only [List.length_map, List.length_append, List.length_range] at l1 ⊢
      omega
    · show _ = _
      rw [l2]
      simp
  · obtain ⟨c, rfl⟩ := hI
    walk_at "go"
    refine ⟨by walk_at "bk", by simp, _, rfl, ?_⟩
    have hR' : ∀ l, l = List.range s.g ++ s.w ++ s.f.flatten ++ s.s.flatten → R [.dat (dS s)] (.new (.own p (l.map dN))) := fun l e => by rw [e]; exact hR p
    exact hR' _ (by rw [List.length_map, List.take_length]; simp)
def S_first_stand : Spec := fun cs R => ∃ (y : Yd) (r : List Nat), cs = [.dat (dY y), .dat (dL r)] ∧ 1 ≤ y.k ∧ y.k ≤ 12 ∧ 1 ≤ y.l ∧ y.l ≤ 12 ∧ R cs (.dat (dS ⟨r, List.replicate y.k [], List.replicate y.l [], 0⟩))
theorem sc_first_stand : FnScope ["yard", "row"] ["yard", "row"] (defScope s_first_stand) := ⟨rfl, rfl, rfl, by decide +kernel, rfl, by decide +kernel, by decide +kernel⟩
theorem ok_first_stand (g : GD K mg "first_stand" s_first_stand)  : DefOk P w K mg base 1 "first_stand" ["yard", "row"] S_first_stand := by
  refine defD g sc_first_stand (by decide) (fun _ _ _ _ _ _ us hl => match us, hl with | [_, _], _ => rfl) (fun cs R h => ?_) fun f_ cdv_ A outer s_ H E cs R hr h => ?_
  · obtain ⟨y, r, rfl, _⟩ := h
    rfl
  have hN : (["yard", "row"] : List Str).Nodup := by decide +kernel
  have nm0 : NmOk (cxOf CX0 P w K mg base ["yard", "row"] "first_stand" (defScope s_first_stand) f_ cdv_ A outer s_ H E).nox 0 "yard" := ⟨rfl, by first | exact Or.inl rfl | exact Or.inr (Or.inl rfl) | exact Or.inr (Or.inr rfl), by decide, by decide⟩
  have lc0 : LcOk (cxOf CX0 P w K mg base ["yard", "row"] "first_stand" (defScope s_first_stand) f_ cdv_ A outer s_ H E).nox 0 "yard" := ⟨rfl, by first | exact Or.inl rfl | exact Or.inr rfl, by first | exact Or.inl rfl | exact Or.inr rfl⟩
  have nm1 : NmOk (cxOf CX0 P w K mg base ["yard", "row"] "first_stand" (defScope s_first_stand) f_ cdv_ A outer s_ H E).nox 1 "row" := ⟨rfl, by first | exact Or.inl rfl | exact Or.inr (Or.inl rfl) | exact Or.inr (Or.inr rfl), by decide, by decide⟩
  have lc1 : LcOk (cxOf CX0 P w K mg base ["yard", "row"] "first_stand" (defScope s_first_stand) f_ cdv_ A outer s_ H E).nox 1 "row" := ⟨rfl, by first | exact Or.inl rfl | exact Or.inr rfl, by first | exact Or.inl rfl | exact Or.inr rfl⟩
  obtain ⟨y, r, rfl, h1, h2, h3, h4, hR⟩ := h
  iterate 6 walk_at "x"
  refine je_rep ?_
  walk_at "go"
  refine ⟨_, y.k, rfl, rfl, h1, by omega, ?_⟩
  walk_at "x"
  refine je_rep ?_
  walk_at "go"
  refine ⟨_, y.l, rfl, rfl, h3, by omega, ?_⟩
  walk_at "go"
  refine ⟨by walk_at "bk", ?_⟩
  unfold dS dL at hR
  simp only [List.map_replicate, List.map_nil] at hR
  exact hR

end
end
section
section
variable {P : Program} {w : World} {K : PySem.W.Frag} {mg : Str → Option Value} {base : Heap}
theorem nil_iff {xs : List Nat} : dL xs = .tuple [] ↔ xs = [] := by simp [dL]
def S_all_home : Spec := fun cs R => ∃ s : Sd, cs = [.dat (dS s)] ∧ s.f.length + s.s.length ≤ 1000 ∧ R cs (.dat (.bool (decide (s.w = [] ∧ (∀ l ∈ s.f, l = []) ∧ ∀ l ∈ s.s, l = []))))
theorem sc_all_home : FnScope ["stand", "waiting", "firsts", "seconds", "gone", "lane"] ["stand"] (defScope s_all_home) := ⟨rfl, rfl, rfl, by decide +kernel, rfl, by decide +kernel, by decide +kernel⟩
theorem ok_all_home (g : GD K mg "all_home" s_all_home)  : DefOk P w K mg base 1 "all_home" ["stand"] S_all_home := by
  refine defD g sc_all_home (by decide) (fun _ _ _ _ _ _ us hl => match us, hl with | [_], _ => rfl) (fun cs R h => ?_) fun f_ cdv_ A outer s_ H E cs R hr h => ?_
  · obtain ⟨s, rfl, _⟩ := h
    rfl
  have hN : (["stand", "waiting", "firsts", "seconds", "gone", "lane"] : List Str).Nodup := by decide +kernel
  have nm0 : NmOk (cxOf CX0 P w K mg base ["stand", "waiting", "firsts", "seconds", "gone", "lane"] "all_home" (defScope s_all_home) f_ cdv_ A outer s_ H E).nox 0 "stand" := ⟨rfl, by first | exact Or.inl rfl | exact Or.inr (Or.inl rfl) | exact Or.inr (Or.inr rfl), by decide, by decide⟩
  have lc0 : LcOk (cxOf CX0 P w K mg base ["stand", "waiting", "firsts", "seconds", "gone", "lane"] "all_home" (defScope s_all_home) f_ cdv_ A outer s_ H E).nox 0 "stand" := ⟨rfl, by first | exact Or.inl rfl | exact Or.inr rfl, by first | exact Or.inl rfl | exact Or.inr rfl⟩
  have nm1 : NmOk (cxOf CX0 P w K mg base ["stand", "waiting", "firsts", "seconds", "gone", "lane"] "all_home" (defScope s_all_home) f_ cdv_ A outer s_ H E).nox 1 "waiting" := ⟨rfl, by first | exact Or.inl rfl | exact Or.inr (Or.inl rfl) | exact Or.inr (Or.inr rfl), by decide, by decide⟩
  have lc1 : LcOk (cxOf CX0 P w K mg base ["stand", "waiting", "firsts", "seconds", "gone", "lane"] "all_home" (defScope s_all_home) f_ cdv_ A outer s_ H E).nox 1 "waiting" := ⟨rfl, by first | exact Or.inl rfl | exact Or.inr rfl, by first | exact Or.inl rfl | exact Or.inr rfl⟩
  have nm2 : NmOk (cxOf CX0 P w K mg base ["stand", "waiting", "firsts", "seconds", "gone", "lane"] "all_home" (defScope s_all_home) f_ cdv_ A outer s_ H E).nox 2 "firsts" := ⟨rfl, by first | exact Or.inl rfl | exact Or.inr (Or.inl rfl) | exact Or.inr (Or.inr rfl), by decide, by decide⟩
  have lc2 : LcOk (cxOf CX0 P w K mg base ["stand", "waiting", "firsts", "seconds", "gone", "lane"] "all_home" (defScope s_all_home) f_ cdv_ A outer s_ H E).nox 2 "firsts" := ⟨rfl, by first | exact Or.inl rfl | exact Or.inr rfl, by first | exact Or.inl rfl | exact Or.inr rfl⟩
  have nm3 : NmOk (cxOf CX0 P w K mg base ["stand", "waiting", "firsts", "seconds", "gone", "lane"] "all_home" (defScope s_all_home) f_ cdv_ A outer s_ H E).nox 3 "seconds" := ⟨rfl, by first | exact Or.inl rfl | exact Or.inr (Or.inl rfl) | exact Or.inr (Or.inr rfl), by decide, by decide⟩
  have lc3 : LcOk (cxOf CX0 P w K mg base ["stand", "waiting", "firsts", "seconds", "gone", "lane"] "all_home" (defScope s_all_home) f_ cdv_ A outer s_ H E).nox 3 "seconds" := ⟨rfl, by first | exact Or.inl rfl | exact Or.inr rfl, by first | exact Or.inl rfl | exact Or.inr rfl⟩
  have nm4 : NmOk (cxOf CX0 P w K mg base ["stand", "waiting", "firsts", "seconds", "gone", "lane"] "all_home" (defScope s_all_home) f_ cdv_ A outer s_ H E).nox 4 "gone" := ⟨rfl, by first | exact Or.inl rfl | exact Or.inr (Or.inl rfl) | exact Or.inr (Or.inr rfl), by decide, by decide⟩
  have lc4 : LcOk (cxOf CX0 P w K mg base ["stand", "waiting", "firsts", "seconds", "gone", "lane"] "all_home" (defScope s_all_home) f_ cdv_ A outer s_ H E).nox 4 "gone" := ⟨rfl, by first | exact Or.inl rfl | exact Or.inr rfl, by first | exact Or.inl rfl | exact Or.inr rfl⟩
  obtain ⟨s, rfl, hz, hR⟩ := h
  walk_at "go"
  refine Or.inr ⟨cm_L _, cm_nil, fun t ht => ?_⟩
  have e := tEq ht nil_iff
  walk_at "go"
  refine okB (fun z => ?_) (fun z => ?_)
  · rw [z] at e
    have hw : s.w = [] := of_decide_eq_true e.symm
    walk_at "go"
    refine je_lc1 [("lane", 5)] [5] ?_ (by simp) (by simp) (tgok_name 5 fun s H C cl fp => pg_name (by assumption) rfl (Or.inl rfl)) rfl (by assumption) (by walk_at "blk") (fun _ => rfl)
    refine ji_tup ?_
    walk_at "go"
    refine ⟨by simp; omega, ?_⟩
    walk_at "go"
    rw [← List.map_append (f := dL)]
    refine ⟨fun i acc => acc = ((((s.f ++ s.s).take i).filter (fun l => !decide (l = []))).map dL), rfl, by simp; omega, by simp, fun i acc hi hI => ?_, fun acc p hI => ?_⟩
    · rw [List.length_map] at hi
      obtain ⟨x, hx⟩ : ∃ x, (s.f ++ s.s)[i]? = some x := ⟨_, List.getElem?_eq_getElem hi⟩
      refine ⟨[dL x], tg1 hx, fun s H C cl fp => ?_⟩
      walk_at "go"
      refine Or.inr ⟨cm_L _, cm_nil, fun t ht => ?_⟩
      have e := tNe ht nil_iff
      refine okB (fun z s H C cl fp => ?_) (fun z => ?_)
      · walk_at "go"
        refine ⟨rfl, ?_⟩
        show _ = _
        rw [hI, List.take_add_one, hx, List.filter_append, List.map_append]
        rw [z] at e
        simp [← e]
      · refine ⟨rfl, ?_⟩
        show _ = _
        rw [hI, List.take_add_one, hx, List.filter_append, List.map_append]
        rw [z] at e
        simp [← e]
    · subst hI
      walk_at "go"
      rw [List.length_map, List.take_length]
      refine Or.inr ⟨⟨by simp only [good]; exact goods_map good_L _, by simp only [PyData.depth]; have := depth_map dep_L ((s.f ++ s.s).filter fun l => !decide (l = [])); omega⟩, cm_nilL, fun t ht => ?_⟩
      have e3 := tEq (p := (s.f ++ s.s).filter (fun l => !decide (l = [])) = []) ht (by simp [-List.filter_append])
      refine ⟨by walk_at "bk", ?_⟩
      rw [e3]
      have e4 : (s.w = [] ∧ (∀ l ∈ s.f, l = []) ∧ ∀ l ∈ s.s, l = []) ↔ (s.f ++ s.s).filter (fun l => !decide (l = [])) = [] := by
        simp [hw, List.filter_eq_nil_iff]
      rw [decide_eq_decide.mpr e4] at hR
      exact hR
  · rw [z] at e
    have hw : ¬s.w = [] := of_decide_eq_false e.symm
    refine ⟨by walk_at "bk", ?_⟩
    rw [decide_eq_false (fun q => hw q.1)] at hR
    exact hR

end
end
section
section
variable {P : Program} {w : World} {K : PySem.W.Frag} {mg : Str → Option Value} {base : Heap}
theorem sorted_uniq {a b : List Int} (h : a.Perm b) (h1 : a.Pairwise (· ≤ ·)) (h2 : b.Pairwise (· ≤ ·)) : a = b := h.eq_of_pairwise (fun _ _ _ _ h1 h2 => Int.le_antisymm h1 h2) h1 h2
theorem rangeI_sorted (n : Nat) : ((List.range n).map fun i : Nat => (i : Int)).Pairwise (· ≤ ·) := by
  rw [List.pairwise_map]
  exact (List.pairwise_lt_range (n := n)).imp fun h => by omega
theorem perm_mem {y : Yd} {r : List Nat} {s : Sd} (h : StOk y r s) {x : Nat} (hx : x ∈ s.w ∨ x ∈ s.f.flatten ∨ x ∈ s.s.flatten) : x < r.length := by
  have := h.perm.subset (a := x) (by
    rcases hx with hx | hx | hx
    · simp [hx]
    · exact List.mem_append_left _ (List.mem_append_right _ hx)
    · exact List.mem_append_right _ hx)
  simpa using this
theorem perm_len {y : Yd} {r : List Nat} {s : Sd} (h : StOk y r s) : s.g + s.w.length + s.f.flatten.length + s.s.flatten.length = r.length := by
  have := h.perm.length_eq
  simp only [List.length_append, List.length_range] at this
  exact this
theorem lane_le {f : List (List Nat)} {l : List Nat} (h : l ∈ f) : l.length ≤ f.flatten.length := (List.sublist_flatten_of_mem h).length_le
def S_is_right_stand : Spec := fun cs R => ∃ (y : Yd) (r : List Nat) (s : Sd), cs = [.dat (dY y), .dat (dL r), .dat (dS s)] ∧ YdOk y ∧ RowOk r ∧ StOk y r s ∧ R cs (.dat (.bool true))
theorem sc_is_right_stand : FnScope ["yard", "row", "thing", "n", "waiting", "firsts", "seconds", "gone"] ["yard", "row", "thing"] (defScope s_is_right_stand) := ⟨rfl, rfl, rfl, by decide +kernel, rfl, by decide +kernel, by decide +kernel⟩
theorem ok_is_right_stand (g : GD K mg "is_right_stand" s_is_right_stand) (m1 : mg "isinstance" = none) (m2 : mg "tuple" = none) (m3 : mg "len" = none) (m4 : mg "list" = none) (m5 : mg "range" = none) (m6 : mg "sorted" = none) (D1 : DefOk P w K mg base 1 "is_whole" ["thing", "low", "high"] S_is_whole) (D2 : DefOk P w K mg base 2 "is_wagons" ["thing", "n"] S_is_wagons) (D3 : DefOk P w K mg base 3 "is_lanes" ["thing", "many", "n"] S_is_lanes) (D4 : DefOk P w K mg base 1 "wagons_of" ["stand"] S_wagons_of) : DefOk P w K mg base 4 "is_right_stand" ["yard", "row", "thing"] S_is_right_stand := by
  refine defD g sc_is_right_stand (by decide) (fun _ _ _ _ _ _ us hl => match us, hl with | [_, _, _], _ => rfl) (fun cs R h => ?_) fun f_ cdv_ A outer s_ H E cs R hr h => ?_
  · obtain ⟨y, r, s, rfl, _⟩ := h
    rfl
  have hN : (["yard", "row", "thing", "n", "waiting", "firsts", "seconds", "gone"] : List Str).Nodup := by decide +kernel
  have nm0 : NmOk (cxOf CX0 P w K mg base ["yard", "row", "thing", "n", "waiting", "firsts", "seconds", "gone"] "is_right_stand" (defScope s_is_right_stand) f_ cdv_ A outer s_ H E).nox 0 "yard" := ⟨rfl, by first | exact Or.inl rfl | exact Or.inr (Or.inl rfl) | exact Or.inr (Or.inr rfl), by decide, by decide⟩
  have lc0 : LcOk (cxOf CX0 P w K mg base ["yard", "row", "thing", "n", "waiting", "firsts", "seconds", "gone"] "is_right_stand" (defScope s_is_right_stand) f_ cdv_ A outer s_ H E).nox 0 "yard" := ⟨rfl, by first | exact Or.inl rfl | exact Or.inr rfl, by first | exact Or.inl rfl | exact Or.inr rfl⟩
  have nm1 : NmOk (cxOf CX0 P w K mg base ["yard", "row", "thing", "n", "waiting", "firsts", "seconds", "gone"] "is_right_stand" (defScope s_is_right_stand) f_ cdv_ A outer s_ H E).nox 1 "row" := ⟨rfl, by first | exact Or.inl rfl | exact Or.inr (Or.inl rfl) | exact Or.inr (Or.inr rfl), by decide, by decide⟩
  have lc1 : LcOk (cxOf CX0 P w K mg base ["yard", "row", "thing", "n", "waiting", "firsts", "seconds", "gone"] "is_right_stand" (defScope s_is_right_stand) f_ cdv_ A outer s_ H E).nox 1 "row" := ⟨rfl, by first | exact Or.inl rfl | exact Or.inr rfl, by first | exact Or.inl rfl | exact Or.inr rfl⟩
  have nm2 : NmOk (cxOf CX0 P w K mg base ["yard", "row", "thing", "n", "waiting", "firsts", "seconds", "gone"] "is_right_stand" (defScope s_is_right_stand) f_ cdv_ A outer s_ H E).nox 2 "thing" := ⟨rfl, by first | exact Or.inl rfl | exact Or.inr (Or.inl rfl) | exact Or.inr (Or.inr rfl), by decide, by decide⟩
  have lc2 : LcOk (cxOf CX0 P w K mg base ["yard", "row", "thing", "n", "waiting", "firsts", "seconds", "gone"] "is_right_stand" (defScope s_is_right_stand) f_ cdv_ A outer s_ H E).nox 2 "thing" := ⟨rfl, by first | exact Or.inl rfl | exact Or.inr rfl, by first | exact Or.inl rfl | exact Or.inr rfl⟩
  have nm3 : NmOk (cxOf CX0 P w K mg base ["yard", "row", "thing", "n", "waiting", "firsts", "seconds", "gone"] "is_right_stand" (defScope s_is_right_stand) f_ cdv_ A outer s_ H E).nox 3 "n" := ⟨rfl, by first | exact Or.inl rfl | exact Or.inr (Or.inl rfl) | exact Or.inr (Or.inr rfl), by decide, by decide⟩
  have lc3 : LcOk (cxOf CX0 P w K mg base ["yard", "row", "thing", "n", "waiting", "firsts", "seconds", "gone"] "is_right_stand" (defScope s_is_right_stand) f_ cdv_ A outer s_ H E).nox 3 "n" := ⟨rfl, by first | exact Or.inl rfl | exact Or.inr rfl, by first | exact Or.inl rfl | exact Or.inr rfl⟩
  have nm4 : NmOk (cxOf CX0 P w K mg base ["yard", "row", "thing", "n", "waiting", "firsts", "seconds", "gone"] "is_right_stand" (defScope s_is_right_stand) f_ cdv_ A outer s_ H E).nox 4 "waiting" := ⟨rfl, by first | exact Or.inl rfl | exact Or.inr (Or.inl rfl) | exact Or.inr (Or.inr rfl), by decide, by decide⟩
  have lc4 : LcOk (cxOf CX0 P w K mg base ["yard", "row", "thing", "n", "waiting", "firsts", "seconds", "gone"] "is_right_stand" (defScope s_is_right_stand) f_ cdv_ A outer s_ H E).nox 4 "waiting" := ⟨rfl, by first | exact Or.inl rfl | exact Or.inr rfl, by first | exact Or.inl rfl | exact Or.inr rfl⟩
  have nm5 : NmOk (cxOf CX0 P w K mg base ["yard", "row", "thing", "n", "waiting", "firsts", "seconds", "gone"] "is_right_stand" (defScope s_is_right_stand) f_ cdv_ A outer s_ H E).nox 5 "firsts" := ⟨rfl, by first | exact Or.inl rfl | exact Or.inr (Or.inl rfl) | exact Or.inr (Or.inr rfl), by decide, by decide⟩
  have lc5 : LcOk (cxOf CX0 P w K mg base ["yard", "row", "thing", "n", "waiting", "firsts", "seconds", "gone"] "is_right_stand" (defScope s_is_right_stand) f_ cdv_ A outer s_ H E).nox 5 "firsts" := ⟨rfl, by first | exact Or.inl rfl | exact Or.inr rfl, by first | exact Or.inl rfl | exact Or.inr rfl⟩
  have nm6 : NmOk (cxOf CX0 P w K mg base ["yard", "row", "thing", "n", "waiting", "firsts", "seconds", "gone"] "is_right_stand" (defScope s_is_right_stand) f_ cdv_ A outer s_ H E).nox 6 "seconds" := ⟨rfl, by first | exact Or.inl rfl | exact Or.inr (Or.inl rfl) | exact Or.inr (Or.inr rfl), by decide, by decide⟩
  have lc6 : LcOk (cxOf CX0 P w K mg base ["yard", "row", "thing", "n", "waiting", "firsts", "seconds", "gone"] "is_right_stand" (defScope s_is_right_stand) f_ cdv_ A outer s_ H E).nox 6 "seconds" := ⟨rfl, by first | exact Or.inl rfl | exact Or.inr rfl, by first | exact Or.inl rfl | exact Or.inr rfl⟩
  have nm7 : NmOk (cxOf CX0 P w K mg base ["yard", "row", "thing", "n", "waiting", "firsts", "seconds", "gone"] "is_right_stand" (defScope s_is_right_stand) f_ cdv_ A outer s_ H E).nox 7 "gone" := ⟨rfl, by first | exact Or.inl rfl | exact Or.inr (Or.inl rfl) | exact Or.inr (Or.inr rfl), by decide, by decide⟩
  have lc7 : LcOk (cxOf CX0 P w K mg base ["yard", "row", "thing", "n", "waiting", "firsts", "seconds", "gone"] "is_right_stand" (defScope s_is_right_stand) f_ cdv_ A outer s_ H E).nox 7 "gone" := ⟨rfl, by first | exact Or.inl rfl | exact Or.inr rfl, by first | exact Or.inl rfl | exact Or.inr rfl⟩
  have dD1 : DefOk (cxOf CX0 P w K mg base ["yard", "row", "thing", "n", "waiting", "firsts", "seconds", "gone"] "is_right_stand" (defScope s_is_right_stand) f_ cdv_ A outer s_ H E).nox.prog (cxOf CX0 P w K mg base ["yard", "row", "thing", "n", "waiting", "firsts", "seconds", "gone"] "is_right_stand" (defScope s_is_right_stand) f_ cdv_ A outer s_ H E).nox.w (cxOf CX0 P w K mg base ["yard", "row", "thing", "n", "waiting", "firsts", "seconds", "gone"] "is_right_stand" (defScope s_is_right_stand) f_ cdv_ A outer s_ H E).nox.K (cxOf CX0 P w K mg base ["yard", "row", "thing", "n", "waiting", "firsts", "seconds", "gone"] "is_right_stand" (defScope s_is_right_stand) f_ cdv_ A outer s_ H E).nox.mg (cxOf CX0 P w K mg base ["yard", "row", "thing", "n", "waiting", "firsts", "seconds", "gone"] "is_right_stand" (defScope s_is_right_stand) f_ cdv_ A outer s_ H E).nox.base 1 "is_whole" ["thing", "low", "high"] S_is_whole := D1
  have dD2 : DefOk (cxOf CX0 P w K mg base ["yard", "row", "thing", "n", "waiting", "firsts", "seconds", "gone"] "is_right_stand" (defScope s_is_right_stand) f_ cdv_ A outer s_ H E).nox.prog (cxOf CX0 P w K mg base ["yard", "row", "thing", "n", "waiting", "firsts", "seconds", "gone"] "is_right_stand" (defScope s_is_right_stand) f_ cdv_ A outer s_ H E).nox.w (cxOf CX0 P w K mg base ["yard", "row", "thing", "n", "waiting", "firsts", "seconds", "gone"] "is_right_stand" (defScope s_is_right_stand) f_ cdv_ A outer s_ H E).nox.K (cxOf CX0 P w K mg base ["yard", "row", "thing", "n", "waiting", "firsts", "seconds", "gone"] "is_right_stand" (defScope s_is_right_stand) f_ cdv_ A outer s_ H E).nox.mg (cxOf CX0 P w K mg base ["yard", "row", "thing", "n", "waiting", "firsts", "seconds", "gone"] "is_right_stand" (defScope s_is_right_stand) f_ cdv_ A outer s_ H E).nox.base 2 "is_wagons" ["thing", "n"] S_is_wagons := D2
  have dD3 : DefOk (cxOf CX0 P w K mg base ["yard", "row", "thing", "n", "waiting", "firsts", "seconds", "gone"] "is_right_stand" (defScope s_is_right_stand) f_ cdv_ A outer s_ H E).nox.prog (cxOf CX0 P w K mg base ["yard", "row", "thing", "n", "waiting", "firsts", "seconds", "gone"] "is_right_stand" (defScope s_is_right_stand) f_ cdv_ A outer s_ H E).nox.w (cxOf CX0 P w K mg base ["yard", "row", "thing", "n", "waiting", "firsts", "seconds", "gone"] "is_right_stand" (defScope s_is_right_stand) f_ cdv_ A outer s_ H E).nox.K (cxOf CX0 P w K mg base ["yard", "row", "thing", "n", "waiting", "firsts", "seconds", "gone"] "is_right_stand" (defScope s_is_right_stand) f_ cdv_ A outer s_ H E).nox.mg (cxOf CX0 P w K mg base ["yard", "row", "thing", "n", "waiting", "firsts", "seconds", "gone"] "is_right_stand" (defScope s_is_right_stand) f_ cdv_ A outer s_ H E).nox.base 3 "is_lanes" ["thing", "many", "n"] S_is_lanes := D3
  have dD4 : DefOk (cxOf CX0 P w K mg base ["yard", "row", "thing", "n", "waiting", "firsts", "seconds", "gone"] "is_right_stand" (defScope s_is_right_stand) f_ cdv_ A outer s_ H E).nox.prog (cxOf CX0 P w K mg base ["yard", "row", "thing", "n", "waiting", "firsts", "seconds", "gone"] "is_right_stand" (defScope s_is_right_stand) f_ cdv_ A outer s_ H E).nox.w (cxOf CX0 P w K mg base ["yard", "row", "thing", "n", "waiting", "firsts", "seconds", "gone"] "is_right_stand" (defScope s_is_right_stand) f_ cdv_ A outer s_ H E).nox.K (cxOf CX0 P w K mg base ["yard", "row", "thing", "n", "waiting", "firsts", "seconds", "gone"] "is_right_stand" (defScope s_is_right_stand) f_ cdv_ A outer s_ H E).nox.mg (cxOf CX0 P w K mg base ["yard", "row", "thing", "n", "waiting", "firsts", "seconds", "gone"] "is_right_stand" (defScope s_is_right_stand) f_ cdv_ A outer s_ H E).nox.base 1 "wagons_of" ["stand"] S_wagons_of := D4
  obtain ⟨y, r, s, rfl, hy, hr', hs, hR⟩ := h
  have b1 := hr'.len
  have b2 := perm_len hs
  walk_at "go"
  refine ⟨_, kit_tt, ?_⟩
  walk_at "go"
  refine okF ?_
  walk_at "go"
  walk_at "same"
  refine okF ?_
  walk_at "go"
  refine ⟨s.w, r.length, by rw [List.length_map], by omega, fun x hx => perm_mem hs (.inl hx), ?_⟩
  walk_at "go"
  refine okF ?_
  walk_at "go"
  walk_at "go"
  refine ⟨s.f, y.k, r.length, by rw [List.length_map], hs.fl, fun l hl => ⟨by have := lane_le hl; omega, fun x hx => perm_mem hs (.inr (.inl (List.mem_flatten_of_mem hl hx)))⟩, ?_⟩
  walk_at "go"
  refine okF ?_
  walk_at "go"
  walk_at "go"
  refine ⟨s.s, y.l, r.length, by rw [List.length_map], hs.sl, fun l hl => ⟨by have := lane_le hl; omega, fun x hx => perm_mem hs (.inr (.inr (List.mem_flatten_of_mem hl hx)))⟩, ?_⟩
  walk_at "go"
  refine okF ?_
  walk_at "go"
  refine whole_yes (by walk_at "om") (by have := hs.gz; simp; omega) ?_
  walk_at "go"
  refine okF ?_
  walk_at "go"
  refine exSlE (n := r.length - s.w.length) (by have := hs.wz; simp; omega) ?_
  rw [← hs.wr]
  refine Or.inl ⟨_, (cm_L _).shaped, rfl, rfl, ?_⟩
  refine okF ?_
  walk_at "go"
  refine ⟨s, rfl, by omega, by have := hs.fl; have := hs.sl; have := hy.k2; have := hy.l2; omega, fun p => ?_⟩
  refine ⟨(List.range s.g ++ s.w ++ s.f.flatten ++ s.s.flatten).map fun i : Nat => (i : Int), by rw [List.map_map]; rfl, fun ns' q hp hle => ?_⟩
  have en : ns' = (List.range r.length).map fun i : Nat => (i : Int) := sorted_uniq (hp.trans (hs.perm.map _)) hle (rangeI_sorted _)
  subst en
  walk_at "go"
  refine ⟨r.length, by rw [List.length_map], by omega, ?_⟩
  walk_at "go"
  refine Or.inl ⟨_, (cm_ints _).shaped, rfl, by rw [List.map_map]; rfl, ?_⟩
  exact ⟨by walk_at "bk", hR⟩
def S_check_stand : Spec := fun cs R => ∃ (y : Yd) (r : List Nat) (s : Sd), cs = [.dat (dY y), .dat (dL r), .dat (dS s)] ∧ YdOk y ∧ RowOk r ∧ StOk y r s ∧ R cs (.dat .none)
theorem sc_check_stand : FnScope ["yard", "row", "thing"] ["yard", "row", "thing"] (defScope s_check_stand) := ⟨rfl, rfl, rfl, by decide +kernel, rfl, by decide +kernel, by decide +kernel⟩
theorem ok_check_stand (g : GD K mg "check_stand" s_check_stand) (D1 : DefOk P w K mg base 4 "is_right_stand" ["yard", "row", "thing"] S_is_right_stand) : DefOk P w K mg base 5 "check_stand" ["yard", "row", "thing"] S_check_stand := by
  refine defD g sc_check_stand (by decide) (fun _ _ _ _ _ _ us hl => match us, hl with | [_, _, _], _ => rfl) (fun cs R h => ?_) fun f_ cdv_ A outer s_ H E cs R hr h => ?_
  · obtain ⟨y, r, s, rfl, _⟩ := h
    rfl
  have hN : (["yard", "row", "thing"] : List Str).Nodup := by decide +kernel
  have nm0 : NmOk (cxOf CX0 P w K mg base ["yard", "row", "thing"] "check_stand" (defScope s_check_stand) f_ cdv_ A outer s_ H E).nox 0 "yard" := ⟨rfl, by first | exact Or.inl rfl | exact Or.inr (Or.inl rfl) | exact Or.inr (Or.inr rfl), by decide, by decide⟩
  have lc0 : LcOk (cxOf CX0 P w K mg base ["yard", "row", "thing"] "check_stand" (defScope s_check_stand) f_ cdv_ A outer s_ H E).nox 0 "yard" := ⟨rfl, by first | exact Or.inl rfl | exact Or.inr rfl, by first | exact Or.inl rfl | exact Or.inr rfl⟩
  have nm1 : NmOk (cxOf CX0 P w K mg base ["yard", "row", "thing"] "check_stand" (defScope s_check_stand) f_ cdv_ A outer s_ H E).nox 1 "row" := ⟨rfl, by first | exact Or.inl rfl | exact Or.inr (Or.inl rfl) | exact Or.inr (Or.inr rfl), by decide, by decide⟩
  have lc1 : LcOk (cxOf CX0 P w K mg base ["yard", "row", "thing"] "check_stand" (defScope s_check_stand) f_ cdv_ A outer s_ H E).nox 1 "row" := ⟨rfl, by first | exact Or.inl rfl | exact Or.inr rfl, by first | exact Or.inl rfl | exact Or.inr rfl⟩
  have nm2 : NmOk (cxOf CX0 P w K mg base ["yard", "row", "thing"] "check_stand" (defScope s_check_stand) f_ cdv_ A outer s_ H E).nox 2 "thing" := ⟨rfl, by first | exact Or.inl rfl | exact Or.inr (Or.inl rfl) | exact Or.inr (Or.inr rfl), by decide, by decide⟩
  have lc2 : LcOk (cxOf CX0 P w K mg base ["yard", "row", "thing"] "check_stand" (defScope s_check_stand) f_ cdv_ A outer s_ H E).nox 2 "thing" := ⟨rfl, by first | exact Or.inl rfl | exact Or.inr rfl, by first | exact Or.inl rfl | exact Or.inr rfl⟩
  have dD1 : DefOk (cxOf CX0 P w K mg base ["yard", "row", "thing"] "check_stand" (defScope s_check_stand) f_ cdv_ A outer s_ H E).nox.prog (cxOf CX0 P w K mg base ["yard", "row", "thing"] "check_stand" (defScope s_check_stand) f_ cdv_ A outer s_ H E).nox.w (cxOf CX0 P w K mg base ["yard", "row", "thing"] "check_stand" (defScope s_check_stand) f_ cdv_ A outer s_ H E).nox.K (cxOf CX0 P w K mg base ["yard", "row", "thing"] "check_stand" (defScope s_check_stand) f_ cdv_ A outer s_ H E).nox.mg (cxOf CX0 P w K mg base ["yard", "row", "thing"] "check_stand" (defScope s_check_stand) f_ cdv_ A outer s_ H E).nox.base 4 "is_right_stand" ["yard", "row", "thing"] S_is_right_stand := D1
  obtain ⟨y, r, s, rfl, hy, hr', hs, hR⟩ := h
  walk_at "go"
  refine ⟨y, r, s, rfl, hy, hr', hs, ?_⟩
  walk_at "go"
  refine okF ?_
  walk_at "go"
  exact ⟨by walk_at "bk", hR⟩

end
end
section
section
variable {P : Program} {w : World} {K : PySem.W.Frag} {mg : Str → Option Value} {base : Heap}
def S_moved_in : Spec := fun cs R => ∃ (y : Yd) (s : Sd) (a : Nat), cs = [.dat (dS s), .dat (dM ⟨.inn, a⟩)] ∧ YdOk y ∧ Shp y s ∧ Can y s ⟨.inn, a⟩ ∧ R cs (.dat (dS (step y s ⟨.inn, a⟩)))
theorem sc_moved_in : FnScope ["stand", "move", "waiting", "firsts", "seconds", "gone", "a"] ["stand", "move"] (defScope s_moved_in) := ⟨rfl, rfl, rfl, by decide +kernel, rfl, by decide +kernel, by decide +kernel⟩
theorem ok_moved_in (g : GD K mg "moved_in" s_moved_in) (D1 : DefOk P w K mg base 1 "with_lane" ["lanes", "at", "lane"] S_with_lane) : DefOk P w K mg base 2 "moved_in" ["stand", "move"] S_moved_in := by
  refine defD g sc_moved_in (by decide) (fun _ _ _ _ _ _ us hl => match us, hl with | [_, _], _ => rfl) (fun cs R h => ?_) fun f_ cdv_ A outer s_ H E cs R hr h => ?_
  · obtain ⟨y, s, a, rfl, _⟩ := h
    rfl
  have hN : (["stand", "move", "waiting", "firsts", "seconds", "gone", "a"] : List Str).Nodup := by decide +kernel
  have nm0 : NmOk (cxOf CX0 P w K mg base ["stand", "move", "waiting", "firsts", "seconds", "gone", "a"] "moved_in" (defScope s_moved_in) f_ cdv_ A outer s_ H E).nox 0 "stand" := ⟨rfl, by first | exact Or.inl rfl | exact Or.inr (Or.inl rfl) | exact Or.inr (Or.inr rfl), by decide, by decide⟩
  have lc0 : LcOk (cxOf CX0 P w K mg base ["stand", "move", "waiting", "firsts", "seconds", "gone", "a"] "moved_in" (defScope s_moved_in) f_ cdv_ A outer s_ H E).nox 0 "stand" := ⟨rfl, by first | exact Or.inl rfl | exact Or.inr rfl, by first | exact Or.inl rfl | exact Or.inr rfl⟩
  have nm1 : NmOk (cxOf CX0 P w K mg base ["stand", "move", "waiting", "firsts", "seconds", "gone", "a"] "moved_in" (defScope s_moved_in) f_ cdv_ A outer s_ H E).nox 1 "move" := ⟨rfl, by first | exact Or.inl rfl | exact Or.inr (Or.inl rfl) | exact Or.inr (Or.inr rfl), by decide, by decide⟩
  have lc1 : LcOk (cxOf CX0 P w K mg base ["stand", "move", "waiting", "firsts", "seconds", "gone", "a"] "moved_in" (defScope s_moved_in) f_ cdv_ A outer s_ H E).nox 1 "move" := ⟨rfl, by first | exact Or.inl rfl | exact Or.inr rfl, by first | exact Or.inl rfl | exact Or.inr rfl⟩
  have nm2 : NmOk (cxOf CX0 P w K mg base ["stand", "move", "waiting", "firsts", "seconds", "gone", "a"] "moved_in" (defScope s_moved_in) f_ cdv_ A outer s_ H E).nox 2 "waiting" := ⟨rfl, by first | exact Or.inl rfl | exact Or.inr (Or.inl rfl) | exact Or.inr (Or.inr rfl), by decide, by decide⟩
  have lc2 : LcOk (cxOf CX0 P w K mg base ["stand", "move", "waiting", "firsts", "seconds", "gone", "a"] "moved_in" (defScope s_moved_in) f_ cdv_ A outer s_ H E).nox 2 "waiting" := ⟨rfl, by first | exact Or.inl rfl | exact Or.inr rfl, by first | exact Or.inl rfl | exact Or.inr rfl⟩
  have nm3 : NmOk (cxOf CX0 P w K mg base ["stand", "move", "waiting", "firsts", "seconds", "gone", "a"] "moved_in" (defScope s_moved_in) f_ cdv_ A outer s_ H E).nox 3 "firsts" := ⟨rfl, by first | exact Or.inl rfl | exact Or.inr (Or.inl rfl) | exact Or.inr (Or.inr rfl), by decide, by decide⟩
  have lc3 : LcOk (cxOf CX0 P w K mg base ["stand", "move", "waiting", "firsts", "seconds", "gone", "a"] "moved_in" (defScope s_moved_in) f_ cdv_ A outer s_ H E).nox 3 "firsts" := ⟨rfl, by first | exact Or.inl rfl | exact Or.inr rfl, by first | exact Or.inl rfl | exact Or.inr rfl⟩
  have nm4 : NmOk (cxOf CX0 P w K mg base ["stand", "move", "waiting", "firsts", "seconds", "gone", "a"] "moved_in" (defScope s_moved_in) f_ cdv_ A outer s_ H E).nox 4 "seconds" := ⟨rfl, by first | exact Or.inl rfl | exact Or.inr (Or.inl rfl) | exact Or.inr (Or.inr rfl), by decide, by decide⟩
  have lc4 : LcOk (cxOf CX0 P w K mg base ["stand", "move", "waiting", "firsts", "seconds", "gone", "a"] "moved_in" (defScope s_moved_in) f_ cdv_ A outer s_ H E).nox 4 "seconds" := ⟨rfl, by first | exact Or.inl rfl | exact Or.inr rfl, by first | exact Or.inl rfl | exact Or.inr rfl⟩
  have nm5 : NmOk (cxOf CX0 P w K mg base ["stand", "move", "waiting", "firsts", "seconds", "gone", "a"] "moved_in" (defScope s_moved_in) f_ cdv_ A outer s_ H E).nox 5 "gone" := ⟨rfl, by first | exact Or.inl rfl | exact Or.inr (Or.inl rfl) | exact Or.inr (Or.inr rfl), by decide, by decide⟩
  have lc5 : LcOk (cxOf CX0 P w K mg base ["stand", "move", "waiting", "firsts", "seconds", "gone", "a"] "moved_in" (defScope s_moved_in) f_ cdv_ A outer s_ H E).nox 5 "gone" := ⟨rfl, by first | exact Or.inl rfl | exact Or.inr rfl, by first | exact Or.inl rfl | exact Or.inr rfl⟩
  have nm6 : NmOk (cxOf CX0 P w K mg base ["stand", "move", "waiting", "firsts", "seconds", "gone", "a"] "moved_in" (defScope s_moved_in) f_ cdv_ A outer s_ H E).nox 6 "a" := ⟨rfl, by first | exact Or.inl rfl | exact Or.inr (Or.inl rfl) | exact Or.inr (Or.inr rfl), by decide, by decide⟩
  have lc6 : LcOk (cxOf CX0 P w K mg base ["stand", "move", "waiting", "firsts", "seconds", "gone", "a"] "moved_in" (defScope s_moved_in) f_ cdv_ A outer s_ H E).nox 6 "a" := ⟨rfl, by first | exact Or.inl rfl | exact Or.inr rfl, by first | exact Or.inl rfl | exact Or.inr rfl⟩
  have dD1 : DefOk (cxOf CX0 P w K mg base ["stand", "move", "waiting", "firsts", "seconds", "gone", "a"] "moved_in" (defScope s_moved_in) f_ cdv_ A outer s_ H E).nox.prog (cxOf CX0 P w K mg base ["stand", "move", "waiting", "firsts", "seconds", "gone", "a"] "moved_in" (defScope s_moved_in) f_ cdv_ A outer s_ H E).nox.w (cxOf CX0 P w K mg base ["stand", "move", "waiting", "firsts", "seconds", "gone", "a"] "moved_in" (defScope s_moved_in) f_ cdv_ A outer s_ H E).nox.K (cxOf CX0 P w K mg base ["stand", "move", "waiting", "firsts", "seconds", "gone", "a"] "moved_in" (defScope s_moved_in) f_ cdv_ A outer s_ H E).nox.mg (cxOf CX0 P w K mg base ["stand", "move", "waiting", "firsts", "seconds", "gone", "a"] "moved_in" (defScope s_moved_in) f_ cdv_ A outer s_ H E).nox.base 1 "with_lane" ["lanes", "at", "lane"] S_with_lane := D1
  obtain ⟨y, s, a, rfl, hy, hs, hc, hR⟩ := h
  obtain ⟨e1, e2⟩ := fr_at (a := a) hs hc.1
  have b1 := hy.k2
  have b2 := hs.fl
  have b3 : a < y.k := hc.1
  walk_at "go"
  refine Or.inr ⟨cm_L _, cm_nil, fun t ht => ?_⟩
  refine okFe ((tEq ht nil_iff).trans (decide_eq_false hc.2)) ?_
  walk_at "go"
  walk_at "go"
  refine ⟨by simp only [List.length_map, List.length_take]; omega, ?_⟩
  walk_at "go"
  rw [← List.map_append (f := dN)]
  refine ⟨s.f, a, s.fr a ++ s.w.take 1, rfl, by omega, by omega, ?_⟩
  walk_at "go"
  refine ⟨by walk_at "bk", ?_⟩
  exact hR
def S_moved_over : Spec := fun cs R => ∃ (y : Yd) (s : Sd) (t : Nat), cs = [.dat (dY y), .dat (dS s), .dat (dM ⟨.over, t⟩)] ∧ YdOk y ∧ Shp y s ∧ Can y s ⟨.over, t⟩ ∧ R cs (.dat (dS (step y s ⟨.over, t⟩)))
theorem sc_moved_over : FnScope ["yard", "stand", "move", "waiting", "firsts", "seconds", "gone", "a", "b"] ["yard", "stand", "move"] (defScope s_moved_over) := ⟨rfl, rfl, rfl, by decide +kernel, rfl, by decide +kernel, by decide +kernel⟩
theorem ok_moved_over (g : GD K mg "moved_over" s_moved_over) (D1 : DefOk P w K mg base 1 "with_lane" ["lanes", "at", "lane"] S_with_lane) : DefOk P w K mg base 2 "moved_over" ["yard", "stand", "move"] S_moved_over := by
  refine defD g sc_moved_over (by decide) (fun _ _ _ _ _ _ us hl => match us, hl with | [_, _, _], _ => rfl) (fun cs R h => ?_) fun f_ cdv_ A outer s_ H E cs R hr h => ?_
  · obtain ⟨y, s, t, rfl, _⟩ := h
    rfl
  have hN : (["yard", "stand", "move", "waiting", "firsts", "seconds", "gone", "a", "b"] : List Str).Nodup := by decide +kernel
  have nm0 : NmOk (cxOf CX0 P w K mg base ["yard", "stand", "move", "waiting", "firsts", "seconds", "gone", "a", "b"] "moved_over" (defScope s_moved_over) f_ cdv_ A outer s_ H E).nox 0 "yard" := ⟨rfl, by first | exact Or.inl rfl | exact Or.inr (Or.inl rfl) | exact Or.inr (Or.inr rfl), by decide, by decide⟩
  have lc0 : LcOk (cxOf CX0 P w K mg base ["yard", "stand", "move", "waiting", "firsts", "seconds", "gone", "a", "b"] "moved_over" (defScope s_moved_over) f_ cdv_ A outer s_ H E).nox 0 "yard" := ⟨rfl, by first | exact Or.inl rfl | exact Or.inr rfl, by first | exact Or.inl rfl | exact Or.inr rfl⟩
  have nm1 : NmOk (cxOf CX0 P w K mg base ["yard", "stand", "move", "waiting", "firsts", "seconds", "gone", "a", "b"] "moved_over" (defScope s_moved_over) f_ cdv_ A outer s_ H E).nox 1 "stand" := ⟨rfl, by first | exact Or.inl rfl | exact Or.inr (Or.inl rfl) | exact Or.inr (Or.inr rfl), by decide, by decide⟩
  have lc1 : LcOk (cxOf CX0 P w K mg base ["yard", "stand", "move", "waiting", "firsts", "seconds", "gone", "a", "b"] "moved_over" (defScope s_moved_over) f_ cdv_ A outer s_ H E).nox 1 "stand" := ⟨rfl, by first | exact Or.inl rfl | exact Or.inr rfl, by first | exact Or.inl rfl | exact Or.inr rfl⟩
  have nm2 : NmOk (cxOf CX0 P w K mg base ["yard", "stand", "move", "waiting", "firsts", "seconds", "gone", "a", "b"] "moved_over" (defScope s_moved_over) f_ cdv_ A outer s_ H E).nox 2 "move" := ⟨rfl, by first | exact Or.inl rfl | exact Or.inr (Or.inl rfl) | exact Or.inr (Or.inr rfl), by decide, by decide⟩
  have lc2 : LcOk (cxOf CX0 P w K mg base ["yard", "stand", "move", "waiting", "firsts", "seconds", "gone", "a", "b"] "moved_over" (defScope s_moved_over) f_ cdv_ A outer s_ H E).nox 2 "move" := ⟨rfl, by first | exact Or.inl rfl | exact Or.inr rfl, by first | exact Or.inl rfl | exact Or.inr rfl⟩
  have nm3 : NmOk (cxOf CX0 P w K mg base ["yard", "stand", "move", "waiting", "firsts", "seconds", "gone", "a", "b"] "moved_over" (defScope s_moved_over) f_ cdv_ A outer s_ H E).nox 3 "waiting" := ⟨rfl, by first | exact Or.inl rfl | exact Or.inr (Or.inl rfl) | exact Or.inr (Or.inr rfl), by decide, by decide⟩
  have lc3 : LcOk (cxOf CX0 P w K mg base ["yard", "stand", "move", "waiting", "firsts", "seconds", "gone", "a", "b"] "moved_over" (defScope s_moved_over) f_ cdv_ A outer s_ H E).nox 3 "waiting" := ⟨rfl, by first | exact Or.inl rfl | exact Or.inr rfl, by first | exact Or.inl rfl | exact Or.inr rfl⟩
  have nm4 : NmOk (cxOf CX0 P w K mg base ["yard", "stand", "move", "waiting", "firsts", "seconds", "gone", "a", "b"] "moved_over" (defScope s_moved_over) f_ cdv_ A outer s_ H E).nox 4 "firsts" := ⟨rfl, by first | exact Or.inl rfl | exact Or.inr (Or.inl rfl) | exact Or.inr (Or.inr rfl), by decide, by decide⟩
  have lc4 : LcOk (cxOf CX0 P w K mg base ["yard", "stand", "move", "waiting", "firsts", "seconds", "gone", "a", "b"] "moved_over" (defScope s_moved_over) f_ cdv_ A outer s_ H E).nox 4 "firsts" := ⟨rfl, by first | exact Or.inl rfl | exact Or.inr rfl, by first | exact Or.inl rfl | exact Or.inr rfl⟩
  have nm5 : NmOk (cxOf CX0 P w K mg base ["yard", "stand", "move", "waiting", "firsts", "seconds", "gone", "a", "b"] "moved_over" (defScope s_moved_over) f_ cdv_ A outer s_ H E).nox 5 "seconds" := ⟨rfl, by first | exact Or.inl rfl | exact Or.inr (Or.inl rfl) | exact Or.inr (Or.inr rfl), by decide, by decide⟩
  have lc5 : LcOk (cxOf CX0 P w K mg base ["yard", "stand", "move", "waiting", "firsts", "seconds", "gone", "a", "b"] "moved_over" (defScope s_moved_over) f_ cdv_ A outer s_ H E).nox 5 "seconds" := ⟨rfl, by first | exact Or.inl rfl | exact Or.inr rfl, by first | exact Or.inl rfl | exact Or.inr rfl⟩
  have nm6 : NmOk (cxOf CX0 P w K mg base ["yard", "stand", "move", "waiting", "firsts", "seconds", "gone", "a", "b"] "moved_over" (defScope s_moved_over) f_ cdv_ A outer s_ H E).nox 6 "gone" := ⟨rfl, by first | exact Or.inl rfl | exact Or.inr (Or.inl rfl) | exact Or.inr (Or.inr rfl), by decide, by decide⟩
  have lc6 : LcOk (cxOf CX0 P w K mg base ["yard", "stand", "move", "waiting", "firsts", "seconds", "gone", "a", "b"] "moved_over" (defScope s_moved_over) f_ cdv_ A outer s_ H E).nox 6 "gone" := ⟨rfl, by first | exact Or.inl rfl | exact Or.inr rfl, by first | exact Or.inl rfl | exact Or.inr rfl⟩
  have nm7 : NmOk (cxOf CX0 P w K mg base ["yard", "stand", "move", "waiting", "firsts", "seconds", "gone", "a", "b"] "moved_over" (defScope s_moved_over) f_ cdv_ A outer s_ H E).nox 7 "a" := ⟨rfl, by first | exact Or.inl rfl | exact Or.inr (Or.inl rfl) | exact Or.inr (Or.inr rfl), by decide, by decide⟩
  have lc7 : LcOk (cxOf CX0 P w K mg base ["yard", "stand", "move", "waiting", "firsts", "seconds", "gone", "a", "b"] "moved_over" (defScope s_moved_over) f_ cdv_ A outer s_ H E).nox 7 "a" := ⟨rfl, by first | exact Or.inl rfl | exact Or.inr rfl, by first | exact Or.inl rfl | exact Or.inr rfl⟩
  have nm8 : NmOk (cxOf CX0 P w K mg base ["yard", "stand", "move", "waiting", "firsts", "seconds", "gone", "a", "b"] "moved_over" (defScope s_moved_over) f_ cdv_ A outer s_ H E).nox 8 "b" := ⟨rfl, by first | exact Or.inl rfl | exact Or.inr (Or.inl rfl) | exact Or.inr (Or.inr rfl), by decide, by decide⟩
  have lc8 : LcOk (cxOf CX0 P w K mg base ["yard", "stand", "move", "waiting", "firsts", "seconds", "gone", "a", "b"] "moved_over" (defScope s_moved_over) f_ cdv_ A outer s_ H E).nox 8 "b" := ⟨rfl, by first | exact Or.inl rfl | exact Or.inr rfl, by first | exact Or.inl rfl | exact Or.inr rfl⟩
  have dD1 : DefOk (cxOf CX0 P w K mg base ["yard", "stand", "move", "waiting", "firsts", "seconds", "gone", "a", "b"] "moved_over" (defScope s_moved_over) f_ cdv_ A outer s_ H E).nox.prog (cxOf CX0 P w K mg base ["yard", "stand", "move", "waiting", "firsts", "seconds", "gone", "a", "b"] "moved_over" (defScope s_moved_over) f_ cdv_ A outer s_ H E).nox.w (cxOf CX0 P w K mg base ["yard", "stand", "move", "waiting", "firsts", "seconds", "gone", "a", "b"] "moved_over" (defScope s_moved_over) f_ cdv_ A outer s_ H E).nox.K (cxOf CX0 P w K mg base ["yard", "stand", "move", "waiting", "firsts", "seconds", "gone", "a", "b"] "moved_over" (defScope s_moved_over) f_ cdv_ A outer s_ H E).nox.mg (cxOf CX0 P w K mg base ["yard", "stand", "move", "waiting", "firsts", "seconds", "gone", "a", "b"] "moved_over" (defScope s_moved_over) f_ cdv_ A outer s_ H E).nox.base 1 "with_lane" ["lanes", "at", "lane"] S_with_lane := D1
  obtain ⟨y, s, t, rfl, hy, hs, hc, hR⟩ := h
  obtain ⟨e1, e2, e3⟩ := tk_at (t := t) hy hc.1
  obtain ⟨e4, e5⟩ := fr_at hs e2
  obtain ⟨e6, e7⟩ := se_at hs e3
  have b1 := hy.k2
  have b2 := hs.fl
  have b3 := hy.l2
  have b4 := hs.sl
  walk_at "go"
  walk_at "go"
  walk_at "go"
  walk_at "go"
  refine Or.inr ⟨cm_L _, cm_nil, fun t' ht => ?_⟩
  refine okFe ((tEq ht nil_iff).trans (decide_eq_false hc.2)) ?_
  walk_at "go"
  refine ⟨s.f, (y.tk t).1, (s.fr (y.tk t).1).drop 1, rfl, by omega, by omega, ?_⟩
  walk_at "go"
  refine ⟨by simp only [List.length_map, List.length_take]; omega, ?_⟩
  rw [← List.map_append (f := dN)]
  walk_at "go"
  refine ⟨s.s, (y.tk t).2, s.se (y.tk t).2 ++ (s.fr (y.tk t).1).take 1, rfl, by omega, by omega, ?_⟩
  walk_at "go"
  exact ⟨by walk_at "bk", hR⟩
def S_moved_out : Spec := fun cs R => ∃ (y : Yd) (s : Sd) (b : Nat), cs = [.dat (dS s), .dat (dM ⟨.out, b⟩)] ∧ YdOk y ∧ Shp y s ∧ Can y s ⟨.out, b⟩ ∧ R cs (.dat (dS (step y s ⟨.out, b⟩)))
theorem sc_moved_out : FnScope ["stand", "move", "waiting", "firsts", "seconds", "gone", "b"] ["stand", "move"] (defScope s_moved_out) := ⟨rfl, rfl, rfl, by decide +kernel, rfl, by decide +kernel, by decide +kernel⟩
theorem ok_moved_out (g : GD K mg "moved_out" s_moved_out) (D1 : DefOk P w K mg base 1 "with_lane" ["lanes", "at", "lane"] S_with_lane) : DefOk P w K mg base 2 "moved_out" ["stand", "move"] S_moved_out := by
  refine defD g sc_moved_out (by decide) (fun _ _ _ _ _ _ us hl => match us, hl with | [_, _], _ => rfl) (fun cs R h => ?_) fun f_ cdv_ A outer s_ H E cs R hr h => ?_
  · obtain ⟨y, s, b, rfl, _⟩ := h
    rfl
  have hN : (["stand", "move", "waiting", "firsts", "seconds", "gone", "b"] : List Str).Nodup := by decide +kernel
  have nm0 : NmOk (cxOf CX0 P w K mg base ["stand", "move", "waiting", "firsts", "seconds", "gone", "b"] "moved_out" (defScope s_moved_out) f_ cdv_ A outer s_ H E).nox 0 "stand" := ⟨rfl, by first | exact Or.inl rfl | exact Or.inr (Or.inl rfl) | exact Or.inr (Or.inr rfl), by decide, by decide⟩
  have lc0 : LcOk (cxOf CX0 P w K mg base ["stand", "move", "waiting", "firsts", "seconds", "gone", "b"] "moved_out" (defScope s_moved_out) f_ cdv_ A outer s_ H E).nox 0 "stand" := ⟨rfl, by first | exact Or.inl rfl | exact Or.inr rfl, by first | exact Or.inl rfl | exact Or.inr rfl⟩
  have nm1 : NmOk (cxOf CX0 P w K mg base ["stand", "move", "waiting", "firsts", "seconds", "gone", "b"] "moved_out" (defScope s_moved_out) f_ cdv_ A outer s_ H E).nox 1 "move" := ⟨rfl, by first | exact Or.inl rfl | exact Or.inr (Or.inl rfl) | exact Or.inr (Or.inr rfl), by decide, by decide⟩
  have lc1 : LcOk (cxOf CX0 P w K mg base ["stand", "move", "waiting", "firsts", "seconds", "gone", "b"] "moved_out" (defScope s_moved_out) f_ cdv_ A outer s_ H E).nox 1 "move" := ⟨rfl, by first | exact Or.inl rfl | exact Or.inr rfl, by first | exact Or.inl rfl | exact Or.inr rfl⟩
  have nm2 : NmOk (cxOf CX0 P w K mg base ["stand", "move", "waiting", "firsts", "seconds", "gone", "b"] "moved_out" (defScope s_moved_out) f_ cdv_ A outer s_ H E).nox 2 "waiting" := ⟨rfl, by first | exact Or.inl rfl | exact Or.inr (Or.inl rfl) | exact Or.inr (Or.inr rfl), by decide, by decide⟩
  have lc2 : LcOk (cxOf CX0 P w K mg base ["stand", "move", "waiting", "firsts", "seconds", "gone", "b"] "moved_out" (defScope s_moved_out) f_ cdv_ A outer s_ H E).nox 2 "waiting" := ⟨rfl, by first | exact Or.inl rfl | exact Or.inr rfl, by first | exact Or.inl rfl | exact Or.inr rfl⟩
  have nm3 : NmOk (cxOf CX0 P w K mg base ["stand", "move", "waiting", "firsts", "seconds", "gone", "b"] "moved_out" (defScope s_moved_out) f_ cdv_ A outer s_ H E).nox 3 "firsts" := ⟨rfl, by first | exact Or.inl rfl | exact Or.inr (Or.inl rfl) | exact Or.inr (Or.inr rfl), by decide, by decide⟩
  have lc3 : LcOk (cxOf CX0 P w K mg base ["stand", "move", "waiting", "firsts", "seconds", "gone", "b"] "moved_out" (defScope s_moved_out) f_ cdv_ A outer s_ H E).nox 3 "firsts" := ⟨rfl, by first | exact Or.inl rfl | exact Or.inr rfl, by first | exact Or.inl rfl | exact Or.inr rfl⟩
  have nm4 : NmOk (cxOf CX0 P w K mg base ["stand", "move", "waiting", "firsts", "seconds", "gone", "b"] "moved_out" (defScope s_moved_out) f_ cdv_ A outer s_ H E).nox 4 "seconds" := ⟨rfl, by first | exact Or.inl rfl | exact Or.inr (Or.inl rfl) | exact Or.inr (Or.inr rfl), by decide, by decide⟩
  have lc4 : LcOk (cxOf CX0 P w K mg base ["stand", "move", "waiting", "firsts", "seconds", "gone", "b"] "moved_out" (defScope s_moved_out) f_ cdv_ A outer s_ H E).nox 4 "seconds" := ⟨rfl, by first | exact Or.inl rfl | exact Or.inr rfl, by first | exact Or.inl rfl | exact Or.inr rfl⟩
  have nm5 : NmOk (cxOf CX0 P w K mg base ["stand", "move", "waiting", "firsts", "seconds", "gone", "b"] "moved_out" (defScope s_moved_out) f_ cdv_ A outer s_ H E).nox 5 "gone" := ⟨rfl, by first | exact Or.inl rfl | exact Or.inr (Or.inl rfl) | exact Or.inr (Or.inr rfl), by decide, by decide⟩
  have lc5 : LcOk (cxOf CX0 P w K mg base ["stand", "move", "waiting", "firsts", "seconds", "gone", "b"] "moved_out" (defScope s_moved_out) f_ cdv_ A outer s_ H E).nox 5 "gone" := ⟨rfl, by first | exact Or.inl rfl | exact Or.inr rfl, by first | exact Or.inl rfl | exact Or.inr rfl⟩
  have nm6 : NmOk (cxOf CX0 P w K mg base ["stand", "move", "waiting", "firsts", "seconds", "gone", "b"] "moved_out" (defScope s_moved_out) f_ cdv_ A outer s_ H E).nox 6 "b" := ⟨rfl, by first | exact Or.inl rfl | exact Or.inr (Or.inl rfl) | exact Or.inr (Or.inr rfl), by decide, by decide⟩
  have lc6 : LcOk (cxOf CX0 P w K mg base ["stand", "move", "waiting", "firsts", "seconds", "gone", "b"] "moved_out" (defScope s_moved_out) f_ cdv_ A outer s_ H E).nox 6 "b" := ⟨rfl, by first | exact Or.inl rfl | exact Or.inr rfl, by first | exact Or.inl rfl | exact Or.inr rfl⟩
  have dD1 : DefOk (cxOf CX0 P w K mg base ["stand", "move", "waiting", "firsts", "seconds", "gone", "b"] "moved_out" (defScope s_moved_out) f_ cdv_ A outer s_ H E).nox.prog (cxOf CX0 P w K mg base ["stand", "move", "waiting", "firsts", "seconds", "gone", "b"] "moved_out" (defScope s_moved_out) f_ cdv_ A outer s_ H E).nox.w (cxOf CX0 P w K mg base ["stand", "move", "waiting", "firsts", "seconds", "gone", "b"] "moved_out" (defScope s_moved_out) f_ cdv_ A outer s_ H E).nox.K (cxOf CX0 P w K mg base ["stand", "move", "waiting", "firsts", "seconds", "gone", "b"] "moved_out" (defScope s_moved_out) f_ cdv_ A outer s_ H E).nox.mg (cxOf CX0 P w K mg base ["stand", "move", "waiting", "firsts", "seconds", "gone", "b"] "moved_out" (defScope s_moved_out) f_ cdv_ A outer s_ H E).nox.base 1 "with_lane" ["lanes", "at", "lane"] S_with_lane := D1
  obtain ⟨y, s, b, rfl, hy, hs, hc, hR⟩ := h
  obtain ⟨e1, e2⟩ := se_at (a := b) hs hc.1
  have b5 : b < y.l := hc.1
  obtain ⟨xs, hx⟩ := hc.2
  have b3 := hy.l2
  have b4 := hs.sl
  walk_at "go"
  walk_at "go"
  walk_at "go"
  refine Or.inr ⟨cm_L _, cm_nil, fun t ht => ?_⟩
  refine okFe ((tEq ht nil_iff).trans (decide_eq_false (by rw [hx]; simp))) ?_
  walk_at "go"
  refine exX rfl (d := dN s.g) (by rw [hx]; exact atI_map (i := 0) (xs := s.g :: xs) rfl) ?_
  walk_at "go"
  walk_at "same"
  refine okF ?_
  walk_at "go"
  refine ⟨s.s, b, (s.se b).drop 1, rfl, by omega, by omega, ?_⟩
  walk_at "go"
  exact ⟨by walk_at "bk", hR⟩

end
end
section
section
variable {P : Program} {w : World} {K : PySem.W.Frag} {mg : Str → Option Value} {base : Heap}
theorem dval_lim (y : Yd) (w : Wd) : dval [(.inr "in", dN y.k), (.inr "over", dN y.tr.length), (.inr "out", dN y.l)] (.inr w.str) = some (dN (lim y w)) := by
  cases w <;> rfl
def S_is_move : Spec := fun cs R => ∃ (y : Yd) (m : Mv), cs = [.dat (dY y), .dat (dM m)] ∧ m.ix < lim y m.wd ∧ R cs (.dat (.bool true))
theorem sc_is_move : FnScope ["yard", "thing", "many"] ["yard", "thing"] (defScope s_is_move) := ⟨rfl, rfl, rfl, by decide +kernel, rfl, by decide +kernel, by decide +kernel⟩
theorem ok_is_move (g : GD K mg "is_move" s_is_move) (m1 : mg "isinstance" = none) (m2 : mg "tuple" = none) (m3 : mg "len" = none) (m4 : mg "str" = none) (D1 : DefOk P w K mg base 1 "is_whole" ["thing", "low", "high"] S_is_whole) : DefOk P w K mg base 2 "is_move" ["yard", "thing"] S_is_move := by
  refine defD g sc_is_move (by decide) (fun _ _ _ _ _ _ us hl => match us, hl with | [_, _], _ => rfl) (fun cs R h => ?_) fun f_ cdv_ A outer s_ H E cs R hr h => ?_
  · obtain ⟨y, m, rfl, _⟩ := h
    rfl
  have hN : (["yard", "thing", "many"] : List Str).Nodup := by decide +kernel
  have nm0 : NmOk (cxOf CX0 P w K mg base ["yard", "thing", "many"] "is_move" (defScope s_is_move) f_ cdv_ A outer s_ H E).nox 0 "yard" := ⟨rfl, by first | exact Or.inl rfl | exact Or.inr (Or.inl rfl) | exact Or.inr (Or.inr rfl), by decide, by decide⟩
  have lc0 : LcOk (cxOf CX0 P w K mg base ["yard", "thing", "many"] "is_move" (defScope s_is_move) f_ cdv_ A outer s_ H E).nox 0 "yard" := ⟨rfl, by first | exact Or.inl rfl | exact Or.inr rfl, by first | exact Or.inl rfl | exact Or.inr rfl⟩
  have nm1 : NmOk (cxOf CX0 P w K mg base ["yard", "thing", "many"] "is_move" (defScope s_is_move) f_ cdv_ A outer s_ H E).nox 1 "thing" := ⟨rfl, by first | exact Or.inl rfl | exact Or.inr (Or.inl rfl) | exact Or.inr (Or.inr rfl), by decide, by decide⟩
  have lc1 : LcOk (cxOf CX0 P w K mg base ["yard", "thing", "many"] "is_move" (defScope s_is_move) f_ cdv_ A outer s_ H E).nox 1 "thing" := ⟨rfl, by first | exact Or.inl rfl | exact Or.inr rfl, by first | exact Or.inl rfl | exact Or.inr rfl⟩
  have nm2 : NmOk (cxOf CX0 P w K mg base ["yard", "thing", "many"] "is_move" (defScope s_is_move) f_ cdv_ A outer s_ H E).nox 2 "many" := ⟨rfl, by first | exact Or.inl rfl | exact Or.inr (Or.inl rfl) | exact Or.inr (Or.inr rfl), by decide, by decide⟩
  have lc2 : LcOk (cxOf CX0 P w K mg base ["yard", "thing", "many"] "is_move" (defScope s_is_move) f_ cdv_ A outer s_ H E).nox 2 "many" := ⟨rfl, by first | exact Or.inl rfl | exact Or.inr rfl, by first | exact Or.inl rfl | exact Or.inr rfl⟩
  have dD1 : DefOk (cxOf CX0 P w K mg base ["yard", "thing", "many"] "is_move" (defScope s_is_move) f_ cdv_ A outer s_ H E).nox.prog (cxOf CX0 P w K mg base ["yard", "thing", "many"] "is_move" (defScope s_is_move) f_ cdv_ A outer s_ H E).nox.w (cxOf CX0 P w K mg base ["yard", "thing", "many"] "is_move" (defScope s_is_move) f_ cdv_ A outer s_ H E).nox.K (cxOf CX0 P w K mg base ["yard", "thing", "many"] "is_move" (defScope s_is_move) f_ cdv_ A outer s_ H E).nox.mg (cxOf CX0 P w K mg base ["yard", "thing", "many"] "is_move" (defScope s_is_move) f_ cdv_ A outer s_ H E).nox.base 1 "is_whole" ["thing", "low", "high"] S_is_whole := D1
  obtain ⟨y, m, rfl, hm, hR⟩ := h
  walk_at "go"
  refine ⟨_, kit_tt, ?_⟩
  walk_at "go"
  refine okF ?_
  walk_at "go"
  walk_at "same"
  refine okF ?_
  walk_at "go"
  refine ⟨_, kit_ss, ?_⟩
  walk_at "go"
  refine okF ?_
  walk_at "go"
  refine je_disp3 ?_ (by decide) (by decide) (by decide)
  walk_at "go"
  walk_at "go"
  walk_at "go"
  walk_at "go"
  refine je_din 2 (room1 hr) rfl (Or.inl rfl) (by decide) (by decide) ?_ rfl
  walk_at "go"
  refine ⟨_, _, .inr m.wd.str, rfl, rfl, ?_⟩
  rw [List.length_map, dval_lim]
  walk_at "go"
  refine okT ?_
  walk_at "go"
  refine ⟨_, _, .inr m.wd.str, _, rfl, rfl, dval_lim y m.wd, ?_⟩
  walk_at "go"
  refine whole_yes (by walk_at "om") (by simp; omega) ?_
  exact ⟨by walk_at "bk", hR⟩

end
end
section
section
variable {P : Program} {w : World} {K : PySem.W.Frag} {mg : Str → Option Value} {base : Heap}
theorem str_eq {a b : Wd} : PyData.str a.str = .str b.str ↔ a = b := by
  constructor
  · intro h
    exact wd_inj (PyData.str.inj h)
  · intro h
    rw [h]
def S_after_move : Spec := fun cs R => ∃ (y : Yd) (s : Sd) (m : Mv), cs = [.dat (dY y), .dat (dS s), .dat (dM m)] ∧ YdOk y ∧ Shp y s ∧ Can y s m ∧ R cs (.dat (dS (step y s m)))
theorem sc_after_move : FnScope ["yard", "stand", "move"] ["yard", "stand", "move"] (defScope s_after_move) := ⟨rfl, rfl, rfl, by decide +kernel, rfl, by decide +kernel, by decide +kernel⟩
theorem ok_after_move (g : GD K mg "after_move" s_after_move) (D1 : DefOk P w K mg base 2 "is_move" ["yard", "thing"] S_is_move) (D2 : DefOk P w K mg base 2 "moved_in" ["stand", "move"] S_moved_in) (D3 : DefOk P w K mg base 2 "moved_over" ["yard", "stand", "move"] S_moved_over) (D4 : DefOk P w K mg base 2 "moved_out" ["stand", "move"] S_moved_out) : DefOk P w K mg base 5 "after_move" ["yard", "stand", "move"] S_after_move := by
  refine defD g sc_after_move (by decide) (fun _ _ _ _ _ _ us hl => match us, hl with | [_, _, _], _ => rfl) (fun cs R h => ?_) fun f_ cdv_ A outer s_ H E cs R hr h => ?_
  · obtain ⟨y, s, m, rfl, _⟩ := h
    rfl
  have hN : (["yard", "stand", "move"] : List Str).Nodup := by decide +kernel
  have nm0 : NmOk (cxOf CX0 P w K mg base ["yard", "stand", "move"] "after_move" (defScope s_after_move) f_ cdv_ A outer s_ H E).nox 0 "yard" := ⟨rfl, by first | exact Or.inl rfl | exact Or.inr (Or.inl rfl) | exact Or.inr (Or.inr rfl), by decide, by decide⟩
  have lc0 : LcOk (cxOf CX0 P w K mg base ["yard", "stand", "move"] "after_move" (defScope s_after_move) f_ cdv_ A outer s_ H E).nox 0 "yard" := ⟨rfl, by first | exact Or.inl rfl | exact Or.inr rfl, by first | exact Or.inl rfl | exact Or.inr rfl⟩
  have nm1 : NmOk (cxOf CX0 P w K mg base ["yard", "stand", "move"] "after_move" (defScope s_after_move) f_ cdv_ A outer s_ H E).nox 1 "stand" := ⟨rfl, by first | exact Or.inl rfl | exact Or.inr (Or.inl rfl) | exact Or.inr (Or.inr rfl), by decide, by decide⟩
  have lc1 : LcOk (cxOf CX0 P w K mg base ["yard", "stand", "move"] "after_move" (defScope s_after_move) f_ cdv_ A outer s_ H E).nox 1 "stand" := ⟨rfl, by first | exact Or.inl rfl | exact Or.inr rfl, by first | exact Or.inl rfl | exact Or.inr rfl⟩
  have nm2 : NmOk (cxOf CX0 P w K mg base ["yard", "stand", "move"] "after_move" (defScope s_after_move) f_ cdv_ A outer s_ H E).nox 2 "move" := ⟨rfl, by first | exact Or.inl rfl | exact Or.inr (Or.inl rfl) | exact Or.inr (Or.inr rfl), by decide, by decide⟩
  have lc2 : LcOk (cxOf CX0 P w K mg base ["yard", "stand", "move"] "after_move" (defScope s_after_move) f_ cdv_ A outer s_ H E).nox 2 "move" := ⟨rfl, by first | exact Or.inl rfl | exact Or.inr rfl, by first | exact Or.inl rfl | exact Or.inr rfl⟩
  have dD1 : DefOk (cxOf CX0 P w K mg base ["yard", "stand", "move"] "after_move" (defScope s_after_move) f_ cdv_ A outer s_ H E).nox.prog (cxOf CX0 P w K mg base ["yard", "stand", "move"] "after_move" (defScope s_after_move) f_ cdv_ A outer s_ H E).nox.w (cxOf CX0 P w K mg base ["yard", "stand", "move"] "after_move" (defScope s_after_move) f_ cdv_ A outer s_ H E).nox.K (cxOf CX0 P w K mg base ["yard", "stand", "move"] "after_move" (defScope s_after_move) f_ cdv_ A outer s_ H E).nox.mg (cxOf CX0 P w K mg base ["yard", "stand", "move"] "after_move" (defScope s_after_move) f_ cdv_ A outer s_ H E).nox.base 2 "is_move" ["yard", "thing"] S_is_move := D1
  have dD2 : DefOk (cxOf CX0 P w K mg base ["yard", "stand", "move"] "after_move" (defScope s_after_move) f_ cdv_ A outer s_ H E).nox.prog (cxOf CX0 P w K mg base ["yard", "stand", "move"] "after_move" (defScope s_after_move) f_ cdv_ A outer s_ H E).nox.w (cxOf CX0 P w K mg base ["yard", "stand", "move"] "after_move" (defScope s_after_move) f_ cdv_ A outer s_ H E).nox.K (cxOf CX0 P w K mg base ["yard", "stand", "move"] "after_move" (defScope s_after_move) f_ cdv_ A outer s_ H E).nox.mg (cxOf CX0 P w K mg base ["yard", "stand", "move"] "after_move" (defScope s_after_move) f_ cdv_ A outer s_ H E).nox.base 2 "moved_in" ["stand", "move"] S_moved_in := D2
  have dD3 : DefOk (cxOf CX0 P w K mg base ["yard", "stand", "move"] "after_move" (defScope s_after_move) f_ cdv_ A outer s_ H E).nox.prog (cxOf CX0 P w K mg base ["yard", "stand", "move"] "after_move" (defScope s_after_move) f_ cdv_ A outer s_ H E).nox.w (cxOf CX0 P w K mg base ["yard", "stand", "move"] "after_move" (defScope s_after_move) f_ cdv_ A outer s_ H E).nox.K (cxOf CX0 P w K mg base ["yard", "stand", "move"] "after_move" (defScope s_after_move) f_ cdv_ A outer s_ H E).nox.mg (cxOf CX0 P w K mg base ["yard", "stand", "move"] "after_move" (defScope s_after_move) f_ cdv_ A outer s_ H E).nox.base 2 "moved_over" ["yard", "stand", "move"] S_moved_over := D3
  have dD4 : DefOk (cxOf CX0 P w K mg base ["yard", "stand", "move"] "after_move" (defScope s_after_move) f_ cdv_ A outer s_ H E).nox.prog (cxOf CX0 P w K mg base ["yard", "stand", "move"] "after_move" (defScope s_after_move) f_ cdv_ A outer s_ H E).nox.w (cxOf CX0 P w K mg base ["yard", "stand", "move"] "after_move" (defScope s_after_move) f_ cdv_ A outer s_ H E).nox.K (cxOf CX0 P w K mg base ["yard", "stand", "move"] "after_move" (defScope s_after_move) f_ cdv_ A outer s_ H E).nox.mg (cxOf CX0 P w K mg base ["yard", "stand", "move"] "after_move" (defScope s_after_move) f_ cdv_ A outer s_ H E).nox.base 2 "moved_out" ["stand", "move"] S_moved_out := D4
  obtain ⟨y, s, m, rfl, hy, hs, hc, hR⟩ := h
  walk_at "go"
  refine ⟨y, m, rfl, hc.1, ?_⟩
  walk_at "go"
  refine okF ?_
  walk_at "go"
  obtain ⟨wd, ix⟩ := m
  cases wd with
  | inn =>
    refine Or.inl ⟨_, (cm_W .inn).shaped, rfl, rfl, ?_⟩
    refine okT ?_
    walk_at "go"
    exact ⟨y, s, ix, rfl, hy, hs, hc, by walk_at "bk", hR⟩
  | over =>
    refine Or.inr ⟨cm_W .over, cm_W .inn, fun t ht => ?_⟩
    refine okFe ((tEq ht (str_eq (a := .over) (b := .inn))).trans (decide_eq_false (by decide))) ?_
    walk_at "go"
    refine Or.inl ⟨_, (cm_W .over).shaped, rfl, rfl, ?_⟩
    refine okT ?_
    walk_at "go"
    exact ⟨y, s, ix, rfl, hy, hs, hc, by walk_at "bk", hR⟩
  | out =>
    refine Or.inr ⟨cm_W .out, cm_W .inn, fun t ht => ?_⟩
    refine okFe ((tEq ht (str_eq (a := .out) (b := .inn))).trans (decide_eq_false (by decide))) ?_
    walk_at "go"
    refine Or.inr ⟨cm_W .out, cm_W .over, fun t ht => ?_⟩
    refine okFe ((tEq ht (str_eq (a := .out) (b := .over))).trans (decide_eq_false (by decide))) ?_
    walk_at "go"
    exact ⟨y, s, ix, rfl, hy, hs, hc, by walk_at "bk", hR⟩

end
end
section
section
variable {P : Program} {w : World} {K : PySem.W.Frag} {mg : Str → Option Value} {base : Heap}
def S_tracks_of : Spec := fun cs R => ∃ r d : List Nat, cs = [.dat (dL r), .dat (dL d)] ∧ RowOk r ∧ d.length = r.length ∧ ∀ p, R cs (.new (.own p ((tks r d).map dN)))
theorem sc_tracks_of : FnScope ["row", "dealing", "found", "wagon", "track"] ["row", "dealing"] (defScope s_tracks_of) := ⟨rfl, rfl, rfl, by decide +kernel, rfl, by decide +kernel, by decide +kernel⟩
theorem ok_tracks_of (g : GD K mg "tracks_of" s_tracks_of) (m1 : mg "zip" = none) (m3 : mg "len" = none) : DefOk P w K mg base 1 "tracks_of" ["row", "dealing"] S_tracks_of := by
  refine defD g sc_tracks_of (by decide) (fun _ _ _ _ _ _ us hl => match us, hl with | [_, _], _ => rfl) (fun cs R h => ?_) fun f_ cdv_ A outer s_ H E cs R hr h => ?_
  · obtain ⟨r, d, rfl, _⟩ := h
    rfl
  have hN : (["row", "dealing", "found", "wagon", "track"] : List Str).Nodup := by decide +kernel
  have nm0 : NmOk (cxOf CX0 P w K mg base ["row", "dealing", "found", "wagon", "track"] "tracks_of" (defScope s_tracks_of) f_ cdv_ A outer s_ H E).nox 0 "row" := ⟨rfl, by first | exact Or.inl rfl | exact Or.inr (Or.inl rfl) | exact Or.inr (Or.inr rfl), by decide, by decide⟩
  have lc0 : LcOk (cxOf CX0 P w K mg base ["row", "dealing", "found", "wagon", "track"] "tracks_of" (defScope s_tracks_of) f_ cdv_ A outer s_ H E).nox 0 "row" := ⟨rfl, by first | exact Or.inl rfl | exact Or.inr rfl, by first | exact Or.inl rfl | exact Or.inr rfl⟩
  have nm1 : NmOk (cxOf CX0 P w K mg base ["row", "dealing", "found", "wagon", "track"] "tracks_of" (defScope s_tracks_of) f_ cdv_ A outer s_ H E).nox 1 "dealing" := ⟨rfl, by first | exact Or.inl rfl | exact Or.inr (Or.inl rfl) | exact Or.inr (Or.inr rfl), by decide, by decide⟩
  have lc1 : LcOk (cxOf CX0 P w K mg base ["row", "dealing", "found", "wagon", "track"] "tracks_of" (defScope s_tracks_of) f_ cdv_ A outer s_ H E).nox 1 "dealing" := ⟨rfl, by first | exact Or.inl rfl | exact Or.inr rfl, by first | exact Or.inl rfl | exact Or.inr rfl⟩
  have nm2 : NmOk (cxOf CX0 P w K mg base ["row", "dealing", "found", "wagon", "track"] "tracks_of" (defScope s_tracks_of) f_ cdv_ A outer s_ H E).nox 2 "found" := ⟨rfl, by first | exact Or.inl rfl | exact Or.inr (Or.inl rfl) | exact Or.inr (Or.inr rfl), by decide, by decide⟩
  have lc2 : LcOk (cxOf CX0 P w K mg base ["row", "dealing", "found", "wagon", "track"] "tracks_of" (defScope s_tracks_of) f_ cdv_ A outer s_ H E).nox 2 "found" := ⟨rfl, by first | exact Or.inl rfl | exact Or.inr rfl, by first | exact Or.inl rfl | exact Or.inr rfl⟩
  have nm3 : NmOk (cxOf CX0 P w K mg base ["row", "dealing", "found", "wagon", "track"] "tracks_of" (defScope s_tracks_of) f_ cdv_ A outer s_ H E).nox 3 "wagon" := ⟨rfl, by first | exact Or.inl rfl | exact Or.inr (Or.inl rfl) | exact Or.inr (Or.inr rfl), by decide, by decide⟩
  have lc3 : LcOk (cxOf CX0 P w K mg base ["row", "dealing", "found", "wagon", "track"] "tracks_of" (defScope s_tracks_of) f_ cdv_ A outer s_ H E).nox 3 "wagon" := ⟨rfl, by first | exact Or.inl rfl | exact Or.inr rfl, by first | exact Or.inl rfl | exact Or.inr rfl⟩
  have nm4 : NmOk (cxOf CX0 P w K mg base ["row", "dealing", "found", "wagon", "track"] "tracks_of" (defScope s_tracks_of) f_ cdv_ A outer s_ H E).nox 4 "track" := ⟨rfl, by first | exact Or.inl rfl | exact Or.inr (Or.inl rfl) | exact Or.inr (Or.inr rfl), by decide, by decide⟩
  have lc4 : LcOk (cxOf CX0 P w K mg base ["row", "dealing", "found", "wagon", "track"] "tracks_of" (defScope s_tracks_of) f_ cdv_ A outer s_ H E).nox 4 "track" := ⟨rfl, by first | exact Or.inl rfl | exact Or.inr rfl, by first | exact Or.inl rfl | exact Or.inr rfl⟩
  obtain ⟨r, d, rfl, hy, hd, hR⟩ := h
  have b1 := hy.len
  iterate 2 walk_at "x"
  refine je_repL ?_
  walk_at "go"
  refine ⟨_, _, rfl, ?_⟩
  walk_at "go"
  refine ⟨(r.map dN).length, rfl, rfl, by simp; omega, fun p => ?_⟩
  rw [List.length_map]
  walk_at "go"
  refine ⟨_, _, rfl, rfl, by rw [List.length_map, List.length_map, hd], ?_⟩
  refine ⟨fun i ρ => ∃ c1 c2, ρ = [some (.dat (dL r)), some (.dat (dL d)), some (.own p ((((r.zip d).take i).foldl (fun acc p => acc.set p.1 p.2) (List.replicate r.length 0)).map dN)), c1, c2], ⟨none, none, by simp⟩, fun i ρ2 hi hI => ?_, fun ρ2 hI => ?_⟩
  · obtain ⟨c1, c2, rfl⟩ := hI
    rw [List.length_map] at hi
    obtain ⟨x, hx⟩ : ∃ x, r[i]? = some x := ⟨_, List.getElem?_eq_getElem hi⟩
    obtain ⟨z, hz⟩ : ∃ x, d[i]? = some x := ⟨_, List.getElem?_eq_getElem (by omega)⟩
    obtain ⟨hx1, hx2⟩ := row_get hy hx
    refine jg_eq (d' := .tuple [dN x, dN z]) (by dsimp only; rw [map_get hx, map_get hz]) ?_
    walk_at "go"
    refine js_setitem 2 ?_ rfl (Or.inl rfl) (by decide) (by decide) (fun _ => rfl) rfl rfl rfl
    walk_at "go"
    refine ⟨_, _, rfl, ?_⟩
    walk_at "go"
    refine ⟨_, _, x, rfl, rfl, by rw [List.length_map, set_fold_len, List.length_replicate]; exact hx1, some (.dat (dN x)), some (.dat (dN z)), ?_⟩
    have e : (r.zip d)[i]? = some (x, z) := by rw [List.getElem?_zip_eq_some]; exact ⟨hx, hz⟩
    rw [fold_step e, List.map_set]
    rfl
  · obtain ⟨c1, c2, rfl⟩ := hI
    walk_at "go"
    refine ⟨by walk_at "bk", by simp, _, rfl, ?_⟩
    have hR' : ∀ l, l = tks r d → R [.dat (dL r), .dat (dL d)] (.new (.own p (l.map dN))) := fun l e => by rw [e]; exact hR p
    refine hR' _ ?_
    unfold tks
    rw [List.take_of_length_le (by rw [List.length_zip, List.length_map]; omega)]

end
end
section
section
variable {P : Program} {w : World} {K : PySem.W.Frag} {mg : Str → Option Value} {base : Heap}
def S_is_over_green : Spec := fun cs R => ∃ (y : Yd) (tk : List Nat) (s : Sd) (t : Nat), cs = [.dat (dY y), .dat (.list (tk.map dN)), .dat (dS s), .dat (dN t)] ∧ YdOk y ∧ Shp y s ∧ TkOk y tk s ∧ t < y.tr.length ∧ R cs (.dat (.bool (overG y tk s t)))
theorem sc_is_over_green : FnScope ["yard", "tracks", "stand", "t", "waiting", "firsts", "seconds", "gone", "a", "b", "behind", "lane", "wagon"] ["yard", "tracks", "stand", "t"] (defScope s_is_over_green) := ⟨rfl, rfl, rfl, by decide +kernel, rfl, by decide +kernel, by decide +kernel⟩
theorem ok_is_over_green (g : GD K mg "is_over_green" s_is_over_green) (m1 : mg "list" = none) : DefOk P w K mg base 1 "is_over_green" ["yard", "tracks", "stand", "t"] S_is_over_green := by
  refine defD g sc_is_over_green (by decide) (fun _ _ _ _ _ _ us hl => match us, hl with | [_, _, _, _], _ => rfl) (fun cs R h => ?_) fun f_ cdv_ A outer s_ H E cs R hr h => ?_
  · obtain ⟨y, tk, s, t, rfl, _⟩ := h
    rfl
  have hN : (["yard", "tracks", "stand", "t", "waiting", "firsts", "seconds", "gone", "a", "b", "behind", "lane", "wagon"] : List Str).Nodup := by decide +kernel
  have nm0 : NmOk (cxOf CX0 P w K mg base ["yard", "tracks", "stand", "t", "waiting", "firsts", "seconds", "gone", "a", "b", "behind", "lane", "wagon"] "is_over_green" (defScope s_is_over_green) f_ cdv_ A outer s_ H E).nox 0 "yard" := ⟨rfl, by first | exact Or.inl rfl | exact Or.inr (Or.inl rfl) | exact Or.inr (Or.inr rfl), by decide, by decide⟩
  have lc0 : LcOk (cxOf CX0 P w K mg base ["yard", "tracks", "stand", "t", "waiting", "firsts", "seconds", "gone", "a", "b", "behind", "lane", "wagon"] "is_over_green" (defScope s_is_over_green) f_ cdv_ A outer s_ H E).nox 0 "yard" := ⟨rfl, by first | exact Or.inl rfl | exact Or.inr rfl, by first | exact Or.inl rfl | exact Or.inr rfl⟩
  have nm1 : NmOk (cxOf CX0 P w K mg base ["yard", "tracks", "stand", "t", "waiting", "firsts", "seconds", "gone", "a", "b", "behind", "lane", "wagon"] "is_over_green" (defScope s_is_over_green) f_ cdv_ A outer s_ H E).nox 1 "tracks" := ⟨rfl, by first | exact Or.inl rfl | exact Or.inr (Or.inl rfl) | exact Or.inr (Or.inr rfl), by decide, by decide⟩
  have lc1 : LcOk (cxOf CX0 P w K mg base ["yard", "tracks", "stand", "t", "waiting", "firsts", "seconds", "gone", "a", "b", "behind", "lane", "wagon"] "is_over_green" (defScope s_is_over_green) f_ cdv_ A outer s_ H E).nox 1 "tracks" := ⟨rfl, by first | exact Or.inl rfl | exact Or.inr rfl, by first | exact Or.inl rfl | exact Or.inr rfl⟩
  have nm2 : NmOk (cxOf CX0 P w K mg base ["yard", "tracks", "stand", "t", "waiting", "firsts", "seconds", "gone", "a", "b", "behind", "lane", "wagon"] "is_over_green" (defScope s_is_over_green) f_ cdv_ A outer s_ H E).nox 2 "stand" := ⟨rfl, by first | exact Or.inl rfl | exact Or.inr (Or.inl rfl) | exact Or.inr (Or.inr rfl), by decide, by decide⟩
  have lc2 : LcOk (cxOf CX0 P w K mg base ["yard", "tracks", "stand", "t", "waiting", "firsts", "seconds", "gone", "a", "b", "behind", "lane", "wagon"] "is_over_green" (defScope s_is_over_green) f_ cdv_ A outer s_ H E).nox 2 "stand" := ⟨rfl, by first | exact Or.inl rfl | exact Or.inr rfl, by first | exact Or.inl rfl | exact Or.inr rfl⟩
  have nm3 : NmOk (cxOf CX0 P w K mg base ["yard", "tracks", "stand", "t", "waiting", "firsts", "seconds", "gone", "a", "b", "behind", "lane", "wagon"] "is_over_green" (defScope s_is_over_green) f_ cdv_ A outer s_ H E).nox 3 "t" := ⟨rfl, by first | exact Or.inl rfl | exact Or.inr (Or.inl rfl) | exact Or.inr (Or.inr rfl), by decide, by decide⟩
  have lc3 : LcOk (cxOf CX0 P w K mg base ["yard", "tracks", "stand", "t", "waiting", "firsts", "seconds", "gone", "a", "b", "behind", "lane", "wagon"] "is_over_green" (defScope s_is_over_green) f_ cdv_ A outer s_ H E).nox 3 "t" := ⟨rfl, by first | exact Or.inl rfl | exact Or.inr rfl, by first | exact Or.inl rfl | exact Or.inr rfl⟩
  have nm4 : NmOk (cxOf CX0 P w K mg base ["yard", "tracks", "stand", "t", "waiting", "firsts", "seconds", "gone", "a", "b", "behind", "lane", "wagon"] "is_over_green" (defScope s_is_over_green) f_ cdv_ A outer s_ H E).nox 4 "waiting" := ⟨rfl, by first | exact Or.inl rfl | exact Or.inr (Or.inl rfl) | exact Or.inr (Or.inr rfl), by decide, by decide⟩
  have lc4 : LcOk (cxOf CX0 P w K mg base ["yard", "tracks", "stand", "t", "waiting", "firsts", "seconds", "gone", "a", "b", "behind", "lane", "wagon"] "is_over_green" (defScope s_is_over_green) f_ cdv_ A outer s_ H E).nox 4 "waiting" := ⟨rfl, by first | exact Or.inl rfl | exact Or.inr rfl, by first | exact Or.inl rfl | exact Or.inr rfl⟩
  have nm5 : NmOk (cxOf CX0 P w K mg base ["yard", "tracks", "stand", "t", "waiting", "firsts", "seconds", "gone", "a", "b", "behind", "lane", "wagon"] "is_over_green" (defScope s_is_over_green) f_ cdv_ A outer s_ H E).nox 5 "firsts" := ⟨rfl, by first | exact Or.inl rfl | exact Or.inr (Or.inl rfl) | exact Or.inr (Or.inr rfl), by decide, by decide⟩
  have lc5 : LcOk (cxOf CX0 P w K mg base ["yard", "tracks", "stand", "t", "waiting", "firsts", "seconds", "gone", "a", "b", "behind", "lane", "wagon"] "is_over_green" (defScope s_is_over_green) f_ cdv_ A outer s_ H E).nox 5 "firsts" := ⟨rfl, by first | exact Or.inl rfl | exact Or.inr rfl, by first | exact Or.inl rfl | exact Or.inr rfl⟩
  have nm6 : NmOk (cxOf CX0 P w K mg base ["yard", "tracks", "stand", "t", "waiting", "firsts", "seconds", "gone", "a", "b", "behind", "lane", "wagon"] "is_over_green" (defScope s_is_over_green) f_ cdv_ A outer s_ H E).nox 6 "seconds" := ⟨rfl, by first | exact Or.inl rfl | exact Or.inr (Or.inl rfl) | exact Or.inr (Or.inr rfl), by decide, by decide⟩
  have lc6 : LcOk (cxOf CX0 P w K mg base ["yard", "tracks", "stand", "t", "waiting", "firsts", "seconds", "gone", "a", "b", "behind", "lane", "wagon"] "is_over_green" (defScope s_is_over_green) f_ cdv_ A outer s_ H E).nox 6 "seconds" := ⟨rfl, by first | exact Or.inl rfl | exact Or.inr rfl, by first | exact Or.inl rfl | exact Or.inr rfl⟩
  have nm7 : NmOk (cxOf CX0 P w K mg base ["yard", "tracks", "stand", "t", "waiting", "firsts", "seconds", "gone", "a", "b", "behind", "lane", "wagon"] "is_over_green" (defScope s_is_over_green) f_ cdv_ A outer s_ H E).nox 7 "gone" := ⟨rfl, by first | exact Or.inl rfl | exact Or.inr (Or.inl rfl) | exact Or.inr (Or.inr rfl), by decide, by decide⟩
  have lc7 : LcOk (cxOf CX0 P w K mg base ["yard", "tracks", "stand", "t", "waiting", "firsts", "seconds", "gone", "a", "b", "behind", "lane", "wagon"] "is_over_green" (defScope s_is_over_green) f_ cdv_ A outer s_ H E).nox 7 "gone" := ⟨rfl, by first | exact Or.inl rfl | exact Or.inr rfl, by first | exact Or.inl rfl | exact Or.inr rfl⟩
  have nm8 : NmOk (cxOf CX0 P w K mg base ["yard", "tracks", "stand", "t", "waiting", "firsts", "seconds", "gone", "a", "b", "behind", "lane", "wagon"] "is_over_green" (defScope s_is_over_green) f_ cdv_ A outer s_ H E).nox 8 "a" := ⟨rfl, by first | exact Or.inl rfl | exact Or.inr (Or.inl rfl) | exact Or.inr (Or.inr rfl), by decide, by decide⟩
  have lc8 : LcOk (cxOf CX0 P w K mg base ["yard", "tracks", "stand", "t", "waiting", "firsts", "seconds", "gone", "a", "b", "behind", "lane", "wagon"] "is_over_green" (defScope s_is_over_green) f_ cdv_ A outer s_ H E).nox 8 "a" := ⟨rfl, by first | exact Or.inl rfl | exact Or.inr rfl, by first | exact Or.inl rfl | exact Or.inr rfl⟩
  have nm9 : NmOk (cxOf CX0 P w K mg base ["yard", "tracks", "stand", "t", "waiting", "firsts", "seconds", "gone", "a", "b", "behind", "lane", "wagon"] "is_over_green" (defScope s_is_over_green) f_ cdv_ A outer s_ H E).nox 9 "b" := ⟨rfl, by first | exact Or.inl rfl | exact Or.inr (Or.inl rfl) | exact Or.inr (Or.inr rfl), by decide, by decide⟩
  have lc9 : LcOk (cxOf CX0 P w K mg base ["yard", "tracks", "stand", "t", "waiting", "firsts", "seconds", "gone", "a", "b", "behind", "lane", "wagon"] "is_over_green" (defScope s_is_over_green) f_ cdv_ A outer s_ H E).nox 9 "b" := ⟨rfl, by first | exact Or.inl rfl | exact Or.inr rfl, by first | exact Or.inl rfl | exact Or.inr rfl⟩
  have nm10 : NmOk (cxOf CX0 P w K mg base ["yard", "tracks", "stand", "t", "waiting", "firsts", "seconds", "gone", "a", "b", "behind", "lane", "wagon"] "is_over_green" (defScope s_is_over_green) f_ cdv_ A outer s_ H E).nox 10 "behind" := ⟨rfl, by first | exact Or.inl rfl | exact Or.inr (Or.inl rfl) | exact Or.inr (Or.inr rfl), by decide, by decide⟩
  have lc10 : LcOk (cxOf CX0 P w K mg base ["yard", "tracks", "stand", "t", "waiting", "firsts", "seconds", "gone", "a", "b", "behind", "lane", "wagon"] "is_over_green" (defScope s_is_over_green) f_ cdv_ A outer s_ H E).nox 10 "behind" := ⟨rfl, by first | exact Or.inl rfl | exact Or.inr rfl, by first | exact Or.inl rfl | exact Or.inr rfl⟩
  have nm11 : NmOk (cxOf CX0 P w K mg base ["yard", "tracks", "stand", "t", "waiting", "firsts", "seconds", "gone", "a", "b", "behind", "lane", "wagon"] "is_over_green" (defScope s_is_over_green) f_ cdv_ A outer s_ H E).nox 11 "lane" := ⟨rfl, by first | exact Or.inl rfl | exact Or.inr (Or.inl rfl) | exact Or.inr (Or.inr rfl), by decide, by decide⟩
  have lc11 : LcOk (cxOf CX0 P w K mg base ["yard", "tracks", "stand", "t", "waiting", "firsts", "seconds", "gone", "a", "b", "behind", "lane", "wagon"] "is_over_green" (defScope s_is_over_green) f_ cdv_ A outer s_ H E).nox 11 "lane" := ⟨rfl, by first | exact Or.inl rfl | exact Or.inr rfl, by first | exact Or.inl rfl | exact Or.inr rfl⟩
  obtain ⟨y, tk, s, t, rfl, hy, hs, hk, ht, hR⟩ := h
  obtain ⟨e1, e2, e3⟩ := tk_at hy ht
  obtain ⟨e4, e5⟩ := fr_at hs e2
  have b1 := hk.sz
  have bz := hs.fl
  have by2 := hy.k2
  unfold overG at hR
  walk_at "go"
  cases hf : s.fr (y.tk t).1 with
  | nil =>
    refine Or.inl ⟨_, (cm_L _).shaped, rfl, rfl, ?_⟩
    refine okT (okT ?_)
    walk_at "go"
    rw [hf] at hR
    exact ⟨by walk_at "bk", hR⟩
  | cons h rest =>
    refine Or.inr ⟨cm_L _, cm_nil, fun t' ht' => ?_⟩
    refine okFe ((tEq ht' nil_iff).trans (decide_eq_false (by simp))) ?_
    have hm : h ∈ behind s := List.mem_append_right _ (List.mem_flatten.mpr ⟨_, List.mem_of_getElem? e4, by rw [hf]; simp⟩)
    obtain ⟨k1, k2⟩ := tk_in hk hm
    rw [hf] at hR e4
    have h0 : (h :: rest)[0]? = some h := rfl
    walk_at "go"
    refine Or.inr ⟨cm_N _, cm_N _, fun t' ht' => ?_⟩
    have e6 := tNe ht' dN_inj
    refine okB (fun z => ?_) (fun z => ?_)
    · rw [z] at e6
      have q : ¬ tk.getD h 0 = t := by simpa using e6
      walk_at "go"
      simp only [q, decide_false, Bool.false_and] at hR
      exact ⟨by walk_at "bk", hR⟩
    · rw [z] at e6
      have q : tk.getD h 0 = t := by simpa using e6
      simp only [q, decide_true, Bool.true_and] at hR
      walk_at "go"
      rename_i p
      refine ji_tup ?_
      walk_at "go"
      refine ⟨fun i ρ => ∃ c, ρ = [some (.dat (dY y)), some (.dat (.list (tk.map dN))), some (.dat (dS s)), some (.dat (dN t)), some (.dat (dL s.w)), some (.dat (.tuple (s.f.map dL))), some (.dat (.tuple (s.s.map dL))), some (.dat (dN s.g)), some (.dat (dN (y.tk t).1)), some (.dat (dN (y.tk t).2)), some (.own p ((s.w ++ (s.f.take i).flatten).map dN)), c, none], ⟨none, by simp⟩, fun i ρ2 hi hI => ?_, fun ρ2 hI => ?_⟩
      · obtain ⟨c, rfl⟩ := hI
        rw [List.length_map] at hi
        obtain ⟨x, hx⟩ : ∃ x, s.f[i]? = some x := ⟨_, List.getElem?_eq_getElem hi⟩
        refine jg_eq (d' := dL x) (by dsimp only; rw [map_get hx]) ?_
        have l1 := flat_le (xs := s.f) (i := i + 1)
        have l2 := flat_step hx
        rw [l2] at l1
        unfold behind at b1
        walk_at "go"
        refine ⟨_, _, _, rfl, rfl, ?_, some (.dat (dL x)), ?_⟩
        · simp only [List.length_map, List.length_append] at l1 b1 ⊢
          omega
        · show _ = _
          rw [l2]
          simp
      · obtain ⟨c, rfl⟩ := hI
        have e8 : s.w ++ (s.f.take (s.f.map dL).length).flatten = behind s := by rw [List.length_map, List.take_length]; rfl
        rw [e8]
        refine jss_freeze 10 rfl ?_
        walk_at "go"
        refine je_lc1 [("wagon", 12)] [12] ?_ (by simp) (by simp) (tgok_name 12 fun s H C cl fp => pg_name (by assumption) rfl (Or.inl rfl)) rfl (by assumption) (by walk_at "blk") (fun _ => rfl)
        refine ji_list ?_
        walk_at "go"
        refine ⟨fun i acc => acc = (((behind s).take i).filter (fun w => decide (w < h) && decide ((y.tk (tk.getD w 0)).2 = (y.tk t).2))).map dN, rfl, by rw [List.length_map]; omega, by simp, fun i acc hi hI => ?_, fun acc p hI => ?_⟩
        · rw [List.length_map] at hi
          obtain ⟨x, hx⟩ : ∃ x, (behind s)[i]? = some x := ⟨_, List.getElem?_eq_getElem hi⟩
          obtain ⟨k3, k4⟩ := tk_in hk (List.mem_of_getElem? hx)
          obtain ⟨k5, k6, k7⟩ := tk_at hy k4
          refine ⟨[dN x], tg1 hx, fun s H C cl fp => ?_⟩
          walk_at "go"
          refine okB (fun z => ?_) (fun z => ?_)
          · have z1 : x < h := by have := of_decide_eq_true z; omega
            walk_at "go"
            refine Or.inr ⟨cm_N _, cm_N _, fun t1 ht1 => ?_⟩
            have e9 := tEq ht1 dN_inj
            refine okB (fun z s H C cl fp => ?_) (fun z => ?_)
            · rw [z] at e9
              have q9 := of_decide_eq_true e9.symm
              walk_at "go"
              refine ⟨rfl, ?_⟩
              show _ = _
              rw [hI, filt_yes hx (by rw [decide_eq_true z1, decide_eq_true q9]; rfl)]
              simp
            · rw [z] at e9
              have q9 := of_decide_eq_false e9.symm
              refine ⟨rfl, ?_⟩
              show _ = _
              rw [hI, filt_no hx (by rw [decide_eq_false q9, Bool.and_false])]
          · have z1 : ¬ x < h := by have := of_decide_eq_false z; omega
            refine okF ⟨rfl, ?_⟩
            show _ = _
            rw [hI, filt_no hx (by rw [decide_eq_false z1, Bool.false_and])]
        · subst hI
          walk_at "go"
          rw [List.length_map, List.take_length]
          refine Or.inr ⟨cm_Nl _, cm_nilL, fun t1 ht1 => ?_⟩
          have e9 := tEq ht1 nilL_iff
          refine ⟨by walk_at "bk", ?_⟩
          rw [e9, filt_nil]
          exact hR

end
end
section
section
variable {P : Program} {w : World} {K : PySem.W.Frag} {mg : Str → Option Value} {base : Heap}
def S_green_moves : Spec := fun cs R => ∃ (y : Yd) (tk : List Nat) (s : Sd), cs = [.dat (dY y), .dat (.list (tk.map dN)), .dat (dS s)] ∧ YdOk y ∧ Shp y s ∧ TkOk y tk s ∧ R cs (.dat (dJ (greens y tk s)))
theorem sc_green_moves : FnScope ["yard", "tracks", "stand", "waiting", "firsts", "seconds", "gone", "found", "t", "b", "lane"] ["yard", "tracks", "stand"] (defScope s_green_moves) := ⟨rfl, rfl, rfl, by decide +kernel, rfl, by decide +kernel, by decide +kernel⟩
theorem ok_green_moves (g : GD K mg "green_moves" s_green_moves) (m1 : mg "range" = none) (m2 : mg "len" = none) (m3 : mg "enumerate" = none) (m4 : mg "tuple" = none) (D1 : DefOk P w K mg base 1 "is_over_green" ["yard", "tracks", "stand", "t"] S_is_over_green) : DefOk P w K mg base 2 "green_moves" ["yard", "tracks", "stand"] S_green_moves := by
  refine defD g sc_green_moves (by decide) (fun _ _ _ _ _ _ us hl => match us, hl with | [_, _, _], _ => rfl) (fun cs R h => ?_) fun f_ cdv_ A outer s_ H E cs R hr h => ?_
  · obtain ⟨y, tk, s, rfl, _⟩ := h
    rfl
  have hN : (["yard", "tracks", "stand", "waiting", "firsts", "seconds", "gone", "found", "t", "b", "lane"] : List Str).Nodup := by decide +kernel
  have nm0 : NmOk (cxOf CX0 P w K mg base ["yard", "tracks", "stand", "waiting", "firsts", "seconds", "gone", "found", "t", "b", "lane"] "green_moves" (defScope s_green_moves) f_ cdv_ A outer s_ H E).nox 0 "yard" := ⟨rfl, by first | exact Or.inl rfl | exact Or.inr (Or.inl rfl) | exact Or.inr (Or.inr rfl), by decide, by decide⟩
  have lc0 : LcOk (cxOf CX0 P w K mg base ["yard", "tracks", "stand", "waiting", "firsts", "seconds", "gone", "found", "t", "b", "lane"] "green_moves" (defScope s_green_moves) f_ cdv_ A outer s_ H E).nox 0 "yard" := ⟨rfl, by first | exact Or.inl rfl | exact Or.inr rfl, by first | exact Or.inl rfl | exact Or.inr rfl⟩
  have nm1 : NmOk (cxOf CX0 P w K mg base ["yard", "tracks", "stand", "waiting", "firsts", "seconds", "gone", "found", "t", "b", "lane"] "green_moves" (defScope s_green_moves) f_ cdv_ A outer s_ H E).nox 1 "tracks" := ⟨rfl, by first | exact Or.inl rfl | exact Or.inr (Or.inl rfl) | exact Or.inr (Or.inr rfl), by decide, by decide⟩
  have lc1 : LcOk (cxOf CX0 P w K mg base ["yard", "tracks", "stand", "waiting", "firsts", "seconds", "gone", "found", "t", "b", "lane"] "green_moves" (defScope s_green_moves) f_ cdv_ A outer s_ H E).nox 1 "tracks" := ⟨rfl, by first | exact Or.inl rfl | exact Or.inr rfl, by first | exact Or.inl rfl | exact Or.inr rfl⟩
  have nm2 : NmOk (cxOf CX0 P w K mg base ["yard", "tracks", "stand", "waiting", "firsts", "seconds", "gone", "found", "t", "b", "lane"] "green_moves" (defScope s_green_moves) f_ cdv_ A outer s_ H E).nox 2 "stand" := ⟨rfl, by first | exact Or.inl rfl | exact Or.inr (Or.inl rfl) | exact Or.inr (Or.inr rfl), by decide, by decide⟩
  have lc2 : LcOk (cxOf CX0 P w K mg base ["yard", "tracks", "stand", "waiting", "firsts", "seconds", "gone", "found", "t", "b", "lane"] "green_moves" (defScope s_green_moves) f_ cdv_ A outer s_ H E).nox 2 "stand" := ⟨rfl, by first | exact Or.inl rfl | exact Or.inr rfl, by first | exact Or.inl rfl | exact Or.inr rfl⟩
  have nm3 : NmOk (cxOf CX0 P w K mg base ["yard", "tracks", "stand", "waiting", "firsts", "seconds", "gone", "found", "t", "b", "lane"] "green_moves" (defScope s_green_moves) f_ cdv_ A outer s_ H E).nox 3 "waiting" := ⟨rfl, by first | exact Or.inl rfl | exact Or.inr (Or.inl rfl) | exact Or.inr (Or.inr rfl), by decide, by decide⟩
  have lc3 : LcOk (cxOf CX0 P w K mg base ["yard", "tracks", "stand", "waiting", "firsts", "seconds", "gone", "found", "t", "b", "lane"] "green_moves" (defScope s_green_moves) f_ cdv_ A outer s_ H E).nox 3 "waiting" := ⟨rfl, by first | exact Or.inl rfl | exact Or.inr rfl, by first | exact Or.inl rfl | exact Or.inr rfl⟩
  have nm4 : NmOk (cxOf CX0 P w K mg base ["yard", "tracks", "stand", "waiting", "firsts", "seconds", "gone", "found", "t", "b", "lane"] "green_moves" (defScope s_green_moves) f_ cdv_ A outer s_ H E).nox 4 "firsts" := ⟨rfl, by first | exact Or.inl rfl | exact Or.inr (Or.inl rfl) | exact Or.inr (Or.inr rfl), by decide, by decide⟩
  have lc4 : LcOk (cxOf CX0 P w K mg base ["yard", "tracks", "stand", "waiting", "firsts", "seconds", "gone", "found", "t", "b", "lane"] "green_moves" (defScope s_green_moves) f_ cdv_ A outer s_ H E).nox 4 "firsts" := ⟨rfl, by first | exact Or.inl rfl | exact Or.inr rfl, by first | exact Or.inl rfl | exact Or.inr rfl⟩
  have nm5 : NmOk (cxOf CX0 P w K mg base ["yard", "tracks", "stand", "waiting", "firsts", "seconds", "gone", "found", "t", "b", "lane"] "green_moves" (defScope s_green_moves) f_ cdv_ A outer s_ H E).nox 5 "seconds" := ⟨rfl, by first | exact Or.inl rfl | exact Or.inr (Or.inl rfl) | exact Or.inr (Or.inr rfl), by decide, by decide⟩
  have lc5 : LcOk (cxOf CX0 P w K mg base ["yard", "tracks", "stand", "waiting", "firsts", "seconds", "gone", "found", "t", "b", "lane"] "green_moves" (defScope s_green_moves) f_ cdv_ A outer s_ H E).nox 5 "seconds" := ⟨rfl, by first | exact Or.inl rfl | exact Or.inr rfl, by first | exact Or.inl rfl | exact Or.inr rfl⟩
  have nm6 : NmOk (cxOf CX0 P w K mg base ["yard", "tracks", "stand", "waiting", "firsts", "seconds", "gone", "found", "t", "b", "lane"] "green_moves" (defScope s_green_moves) f_ cdv_ A outer s_ H E).nox 6 "gone" := ⟨rfl, by first | exact Or.inl rfl | exact Or.inr (Or.inl rfl) | exact Or.inr (Or.inr rfl), by decide, by decide⟩
  have lc6 : LcOk (cxOf CX0 P w K mg base ["yard", "tracks", "stand", "waiting", "firsts", "seconds", "gone", "found", "t", "b", "lane"] "green_moves" (defScope s_green_moves) f_ cdv_ A outer s_ H E).nox 6 "gone" := ⟨rfl, by first | exact Or.inl rfl | exact Or.inr rfl, by first | exact Or.inl rfl | exact Or.inr rfl⟩
  have nm7 : NmOk (cxOf CX0 P w K mg base ["yard", "tracks", "stand", "waiting", "firsts", "seconds", "gone", "found", "t", "b", "lane"] "green_moves" (defScope s_green_moves) f_ cdv_ A outer s_ H E).nox 7 "found" := ⟨rfl, by first | exact Or.inl rfl | exact Or.inr (Or.inl rfl) | exact Or.inr (Or.inr rfl), by decide, by decide⟩
  have lc7 : LcOk (cxOf CX0 P w K mg base ["yard", "tracks", "stand", "waiting", "firsts", "seconds", "gone", "found", "t", "b", "lane"] "green_moves" (defScope s_green_moves) f_ cdv_ A outer s_ H E).nox 7 "found" := ⟨rfl, by first | exact Or.inl rfl | exact Or.inr rfl, by first | exact Or.inl rfl | exact Or.inr rfl⟩
  have nm8 : NmOk (cxOf CX0 P w K mg base ["yard", "tracks", "stand", "waiting", "firsts", "seconds", "gone", "found", "t", "b", "lane"] "green_moves" (defScope s_green_moves) f_ cdv_ A outer s_ H E).nox 8 "t" := ⟨rfl, by first | exact Or.inl rfl | exact Or.inr (Or.inl rfl) | exact Or.inr (Or.inr rfl), by decide, by decide⟩
  have lc8 : LcOk (cxOf CX0 P w K mg base ["yard", "tracks", "stand", "waiting", "firsts", "seconds", "gone", "found", "t", "b", "lane"] "green_moves" (defScope s_green_moves) f_ cdv_ A outer s_ H E).nox 8 "t" := ⟨rfl, by first | exact Or.inl rfl | exact Or.inr rfl, by first | exact Or.inl rfl | exact Or.inr rfl⟩
  have nm9 : NmOk (cxOf CX0 P w K mg base ["yard", "tracks", "stand", "waiting", "firsts", "seconds", "gone", "found", "t", "b", "lane"] "green_moves" (defScope s_green_moves) f_ cdv_ A outer s_ H E).nox 9 "b" := ⟨rfl, by first | exact Or.inl rfl | exact Or.inr (Or.inl rfl) | exact Or.inr (Or.inr rfl), by decide, by decide⟩
  have lc9 : LcOk (cxOf CX0 P w K mg base ["yard", "tracks", "stand", "waiting", "firsts", "seconds", "gone", "found", "t", "b", "lane"] "green_moves" (defScope s_green_moves) f_ cdv_ A outer s_ H E).nox 9 "b" := ⟨rfl, by first | exact Or.inl rfl | exact Or.inr rfl, by first | exact Or.inl rfl | exact Or.inr rfl⟩
  have nm10 : NmOk (cxOf CX0 P w K mg base ["yard", "tracks", "stand", "waiting", "firsts", "seconds", "gone", "found", "t", "b", "lane"] "green_moves" (defScope s_green_moves) f_ cdv_ A outer s_ H E).nox 10 "lane" := ⟨rfl, by first | exact Or.inl rfl | exact Or.inr (Or.inl rfl) | exact Or.inr (Or.inr rfl), by decide, by decide⟩
  have lc10 : LcOk (cxOf CX0 P w K mg base ["yard", "tracks", "stand", "waiting", "firsts", "seconds", "gone", "found", "t", "b", "lane"] "green_moves" (defScope s_green_moves) f_ cdv_ A outer s_ H E).nox 10 "lane" := ⟨rfl, by first | exact Or.inl rfl | exact Or.inr rfl, by first | exact Or.inl rfl | exact Or.inr rfl⟩
  have dD1 : DefOk (cxOf CX0 P w K mg base ["yard", "tracks", "stand", "waiting", "firsts", "seconds", "gone", "found", "t", "b", "lane"] "green_moves" (defScope s_green_moves) f_ cdv_ A outer s_ H E).nox.prog (cxOf CX0 P w K mg base ["yard", "tracks", "stand", "waiting", "firsts", "seconds", "gone", "found", "t", "b", "lane"] "green_moves" (defScope s_green_moves) f_ cdv_ A outer s_ H E).nox.w (cxOf CX0 P w K mg base ["yard", "tracks", "stand", "waiting", "firsts", "seconds", "gone", "found", "t", "b", "lane"] "green_moves" (defScope s_green_moves) f_ cdv_ A outer s_ H E).nox.K (cxOf CX0 P w K mg base ["yard", "tracks", "stand", "waiting", "firsts", "seconds", "gone", "found", "t", "b", "lane"] "green_moves" (defScope s_green_moves) f_ cdv_ A outer s_ H E).nox.mg (cxOf CX0 P w K mg base ["yard", "tracks", "stand", "waiting", "firsts", "seconds", "gone", "found", "t", "b", "lane"] "green_moves" (defScope s_green_moves) f_ cdv_ A outer s_ H E).nox.base 1 "is_over_green" ["yard", "tracks", "stand", "t"] S_is_over_green := D1
  obtain ⟨y, tk, s, rfl, hy, hs, hk, hR⟩ := h
  have bl := hy.len
  have bs := hs.sl
  have bl2 := hy.l2
  iterate 19 walk_at "x"
  rename_i p
  walk_at "x"
  refine js_mid (fun ρ => ρ = [some (.dat (dY y)), some (.dat (.list (tk.map dN))), some (.dat (dS s)), some (.dat (dL s.w)), some (.dat (.tuple (s.f.map dL))), some (.dat (.tuple (s.s.map dL))), some (.dat (dN s.g)), some (.own p ((innG y tk s).map dM)), none, none, none]) ?_ fun ρ hρ => ?_
  · walk_at "go"
    refine Or.inr ⟨cm_L _, cm_nil, fun t ht => ?_⟩
    have e := tNe ht nil_iff
    cases hw : s.w with
    | nil =>
      refine okFe (by rw [e]; simp [hw]) ?_
      walk_at "go"
      show _ = _
      unfold innG
      rw [hw]
      rfl
    | cons h rest =>
      refine okTe (by rw [e]; simp [hw]) ?_
      have hm : h ∈ behind s := by unfold behind; rw [hw]; simp
      obtain ⟨k1, k2⟩ := tk_in hk hm
      obtain ⟨k3, k4, k5⟩ := tk_at hy k2
      have h0 := at0 (f := dN) (x := h) (xs := rest)
      walk_at "go"
      refine ⟨_, _, rfl, by simp, ?_⟩
      show _ = _
      unfold innG
      rw [hw]
      rfl
  · subst hρ
    walk_at "go"
    refine ⟨y.tr.length, by rw [List.length_map], by omega, ?_⟩
    refine ⟨fun i ρ => ∃ c, ρ = [some (.dat (dY y)), some (.dat (.list (tk.map dN))), some (.dat (dS s)), some (.dat (dL s.w)), some (.dat (.tuple (s.f.map dL))), some (.dat (.tuple (s.s.map dL))), some (.dat (dN s.g)), some (.own p ((innG y tk s ++ ((List.range i).filter (overG y tk s)).map (Mv.mk .over)).map dM)), c, none, none], ⟨none, by simp⟩, fun i ρ2 hi hI => ?_, fun ρ2 hI => ?_⟩
    · obtain ⟨c, rfl⟩ := hI
      walk_at "go"
      refine ⟨y, tk, s, i, rfl, hy, hs, hk, hi, ?_⟩
      walk_at "go"
      have hg := greens_le y tk s
      have hf := List.length_filter_le (overG y tk s) (List.range i)
      rw [List.length_range] at hf
      refine okB (fun z => ?_) (fun z => ?_)
      · walk_at "go"
        refine ⟨_, _, rfl, by simp only [List.length_map, List.length_append]; omega, some (.dat (dN i)), ?_⟩
        rw [range_filt, if_pos z]
        simp [dM, Wd.str]
        rfl
      · walk_at "go"
        refine ⟨some (.dat (dN i)), ?_⟩
        rw [range_filt, if_neg (by rw [z]; simp), List.append_nil]
        rfl
    · obtain ⟨c, rfl⟩ := hI
      walk_at "go"
      refine ⟨fun i ρ => ∃ c c1 c2, ρ = [some (.dat (dY y)), some (.dat (.list (tk.map dN))), some (.dat (dS s)), some (.dat (dL s.w)), some (.dat (.tuple (s.f.map dL))), some (.dat (.tuple (s.s.map dL))), some (.dat (dN s.g)), some (.own p ((innG y tk s ++ ((List.range y.tr.length).filter (overG y tk s)).map (Mv.mk .over) ++ ((List.range i).filter (outG s)).map (Mv.mk .out)).map dM)), c, c1, c2], ⟨c, none, none, by simp⟩, fun i ρ2 hi hI => ?_, fun ρ2 hI => ?_⟩
      · obtain ⟨c, c1, c2, rfl⟩ := hI
        rw [List.length_map] at hi
        obtain ⟨e1, e2⟩ := se_at (a := i) hs (by omega)
        refine jg_eq (d' := .tuple [.int i, dL (s.se i)]) (by dsimp only; rw [map_get e1]) ?_
        walk_at "go"
        have hg := greens_le y tk s
        have hf := List.length_filter_le (overG y tk s) (List.range y.tr.length)
        have hf2 := List.length_filter_le (outG s) (List.range i)
        rw [List.length_range] at hf hf2
        refine Or.inr ⟨cm_L _, cm_nil, fun t ht => ?_⟩
        have e := tNe ht nil_iff
        cases hw : s.se i with
        | nil =>
          refine okFe (by rw [e]; simp [hw]) ?_
          refine okF ?_
          walk_at "go"
          refine ⟨c, some (.dat (.int i)), some (.dat (dL [])), ?_⟩
          rw [range_filt, if_neg (by unfold outG; rw [hw]; simp), List.append_nil]
          rfl
        | cons h rest =>
          refine okTe (by rw [e]; simp [hw]) ?_
          have h0 := at0 (f := dN) (x := h) (xs := rest)
          walk_at "go"
          refine Or.inr ⟨cm_N _, cm_N _, fun t ht => ?_⟩
          have e := tEq ht dN_inj
          have eo : outG s i = decide (h = s.g) := by unfold outG; rw [hw]
          refine okB (fun z => ?_) (fun z => ?_)
          · walk_at "go"
            refine ⟨_, _, rfl, by simp only [List.length_map, List.length_append]; omega, c, some (.dat (.int i)), some (.dat (dL (h :: rest))), ?_⟩
            rw [range_filt, if_pos (by rw [eo, ← e]; exact z)]
            simp [dM, Wd.str]
          · walk_at "go"
            refine ⟨c, some (.dat (.int i)), some (.dat (dL (h :: rest))), ?_⟩
            rw [range_filt, if_neg (by rw [eo, ← e, z]; simp), List.append_nil]
            rfl
      · obtain ⟨c, c1, c2, rfl⟩ := hI
        walk_at "go"
        refine ⟨by walk_at "bk", ?_⟩
        rw [List.length_map, bs]
        exact hR

end
end
section
section
variable {P : Program} {w : World} {K : PySem.W.Frag} {mg : Str → Option Value} {base : Heap}
def play (y : Yd) (s : Sd) (j : List Mv) : Sd := j.foldl (step y) s
/-- each move of the journal can be made -/
def AllCan (y : Yd) (s : Sd) : List Mv → Prop
  | [] => True
  | m :: j => Shp y s ∧ Can y s m ∧ AllCan y (step y s m) j
def beg (y : Yd) (r : List Nat) : Sd := ⟨r, List.replicate y.k [], List.replicate y.l [], 0⟩
theorem allCan_at {y : Yd} : ∀ {j : List Mv} {s : Sd} {i : Nat} {m : Mv}, AllCan y s j → j[i]? = some m → Shp y (play y s (j.take i)) ∧ Can y (play y s (j.take i)) m
  | [], _, _, _, _, h => by simp at h
  | m :: j, s, 0, m', ⟨h1, h2, _⟩, h => by
    cases (Option.some.inj h)
    exact ⟨h1, h2⟩
  | m :: j, s, i + 1, m', ⟨_, _, h3⟩, h => by
    have := allCan_at (i := i) h3 (by simpa using h)
    simpa [play] using this
theorem play_step {y : Yd} {s : Sd} {j : List Mv} {i : Nat} {m : Mv} (h : j[i]? = some m) : play y s (j.take (i + 1)) = step y (play y s (j.take i)) m := by
  unfold play
  rw [List.take_add_one, h, List.foldl_append]
  rfl
def S_check_journal : Spec := fun cs R => ∃ j : List Mv, cs = [.dat (dJ j)] ∧ R cs (.dat .none)
theorem sc_check_journal : FnScope ["thing"] ["thing"] (defScope s_check_journal) := ⟨rfl, rfl, rfl, by decide +kernel, rfl, by decide +kernel, by decide +kernel⟩
theorem ok_check_journal (g : GD K mg "check_journal" s_check_journal) (m1 : mg "isinstance" = none) (m2 : mg "tuple" = none) : DefOk P w K mg base 1 "check_journal" ["thing"] S_check_journal := by
  refine defD g sc_check_journal (by decide) (fun _ _ _ _ _ _ us hl => match us, hl with | [_], _ => rfl) (fun cs R h => ?_) fun f_ cdv_ A outer s_ H E cs R hr h => ?_
  · obtain ⟨j, rfl, _⟩ := h
    rfl
  have hN : (["thing"] : List Str).Nodup := by decide +kernel
  have nm0 : NmOk (cxOf CX0 P w K mg base ["thing"] "check_journal" (defScope s_check_journal) f_ cdv_ A outer s_ H E).nox 0 "thing" := ⟨rfl, by first | exact Or.inl rfl | exact Or.inr (Or.inl rfl) | exact Or.inr (Or.inr rfl), by decide, by decide⟩
  have lc0 : LcOk (cxOf CX0 P w K mg base ["thing"] "check_journal" (defScope s_check_journal) f_ cdv_ A outer s_ H E).nox 0 "thing" := ⟨rfl, by first | exact Or.inl rfl | exact Or.inr rfl, by first | exact Or.inl rfl | exact Or.inr rfl⟩
  obtain ⟨j, rfl, hR⟩ := h
  walk_at "go"
  refine ⟨_, kit_tt, ?_⟩
  walk_at "go"
  refine okF ?_
  walk_at "go"
  exact ⟨by walk_at "bk", hR⟩
def S_stand_behind : Spec := fun cs R => ∃ (y : Yd) (r : List Nat) (j : List Mv), cs = [.dat (dY y), .dat (dL r), .dat (dJ j)] ∧ YdOk y ∧ AllCan y (beg y r) j ∧ R cs (.dat (dS (play y (beg y r) j)))
theorem sc_stand_behind : FnScope ["yard", "row", "journal", "stand", "index", "move"] ["yard", "row", "journal"] (defScope s_stand_behind) := ⟨rfl, rfl, rfl, by decide +kernel, rfl, by decide +kernel, by decide +kernel⟩
theorem ok_stand_behind (g : GD K mg "stand_behind" s_stand_behind) (m1 : mg "enumerate" = none) (D1 : DefOk P w K mg base 1 "first_stand" ["yard", "row"] S_first_stand) (D2 : DefOk P w K mg base 5 "after_move" ["yard", "stand", "move"] S_after_move) : DefOk P w K mg base 6 "stand_behind" ["yard", "row", "journal"] S_stand_behind := by
  refine defD g sc_stand_behind (by decide) (fun _ _ _ _ _ _ us hl => match us, hl with | [_, _, _], _ => rfl) (fun cs R h => ?_) fun f_ cdv_ A outer s_ H E cs R hr h => ?_
  · obtain ⟨y, r, j, rfl, _⟩ := h
    rfl
  have hN : (["yard", "row", "journal", "stand", "index", "move"] : List Str).Nodup := by decide +kernel
  have nm0 : NmOk (cxOf CX0 P w K mg base ["yard", "row", "journal", "stand", "index", "move"] "stand_behind" (defScope s_stand_behind) f_ cdv_ A outer s_ H E).nox 0 "yard" := ⟨rfl, by first | exact Or.inl rfl | exact Or.inr (Or.inl rfl) | exact Or.inr (Or.inr rfl), by decide, by decide⟩
  have lc0 : LcOk (cxOf CX0 P w K mg base ["yard", "row", "journal", "stand", "index", "move"] "stand_behind" (defScope s_stand_behind) f_ cdv_ A outer s_ H E).nox 0 "yard" := ⟨rfl, by first | exact Or.inl rfl | exact Or.inr rfl, by first | exact Or.inl rfl | exact Or.inr rfl⟩
  have nm1 : NmOk (cxOf CX0 P w K mg base ["yard", "row", "journal", "stand", "index", "move"] "stand_behind" (defScope s_stand_behind) f_ cdv_ A outer s_ H E).nox 1 "row" := ⟨rfl, by first | exact Or.inl rfl | exact Or.inr (Or.inl rfl) | exact Or.inr (Or.inr rfl), by decide, by decide⟩
  have lc1 : LcOk (cxOf CX0 P w K mg base ["yard", "row", "journal", "stand", "index", "move"] "stand_behind" (defScope s_stand_behind) f_ cdv_ A outer s_ H E).nox 1 "row" := ⟨rfl, by first | exact Or.inl rfl | exact Or.inr rfl, by first | exact Or.inl rfl | exact Or.inr rfl⟩
  have nm2 : NmOk (cxOf CX0 P w K mg base ["yard", "row", "journal", "stand", "index", "move"] "stand_behind" (defScope s_stand_behind) f_ cdv_ A outer s_ H E).nox 2 "journal" := ⟨rfl, by first | exact Or.inl rfl | exact Or.inr (Or.inl rfl) | exact Or.inr (Or.inr rfl), by decide, by decide⟩
  have lc2 : LcOk (cxOf CX0 P w K mg base ["yard", "row", "journal", "stand", "index", "move"] "stand_behind" (defScope s_stand_behind) f_ cdv_ A outer s_ H E).nox 2 "journal" := ⟨rfl, by first | exact Or.inl rfl | exact Or.inr rfl, by first | exact Or.inl rfl | exact Or.inr rfl⟩
  have nm3 : NmOk (cxOf CX0 P w K mg base ["yard", "row", "journal", "stand", "index", "move"] "stand_behind" (defScope s_stand_behind) f_ cdv_ A outer s_ H E).nox 3 "stand" := ⟨rfl, by first | exact Or.inl rfl | exact Or.inr (Or.inl rfl) | exact Or.inr (Or.inr rfl), by decide, by decide⟩
  have lc3 : LcOk (cxOf CX0 P w K mg base ["yard", "row", "journal", "stand", "index", "move"] "stand_behind" (defScope s_stand_behind) f_ cdv_ A outer s_ H E).nox 3 "stand" := ⟨rfl, by first | exact Or.inl rfl | exact Or.inr rfl, by first | exact Or.inl rfl | exact Or.inr rfl⟩
  have nm4 : NmOk (cxOf CX0 P w K mg base ["yard", "row", "journal", "stand", "index", "move"] "stand_behind" (defScope s_stand_behind) f_ cdv_ A outer s_ H E).nox 4 "index" := ⟨rfl, by first | exact Or.inl rfl | exact Or.inr (Or.inl rfl) | exact Or.inr (Or.inr rfl), by decide, by decide⟩
  have lc4 : LcOk (cxOf CX0 P w K mg base ["yard", "row", "journal", "stand", "index", "move"] "stand_behind" (defScope s_stand_behind) f_ cdv_ A outer s_ H E).nox 4 "index" := ⟨rfl, by first | exact Or.inl rfl | exact Or.inr rfl, by first | exact Or.inl rfl | exact Or.inr rfl⟩
  have nm5 : NmOk (cxOf CX0 P w K mg base ["yard", "row", "journal", "stand", "index", "move"] "stand_behind" (defScope s_stand_behind) f_ cdv_ A outer s_ H E).nox 5 "move" := ⟨rfl, by first | exact Or.inl rfl | exact Or.inr (Or.inl rfl) | exact Or.inr (Or.inr rfl), by decide, by decide⟩
  have lc5 : LcOk (cxOf CX0 P w K mg base ["yard", "row", "journal", "stand", "index", "move"] "stand_behind" (defScope s_stand_behind) f_ cdv_ A outer s_ H E).nox 5 "move" := ⟨rfl, by first | exact Or.inl rfl | exact Or.inr rfl, by first | exact Or.inl rfl | exact Or.inr rfl⟩
  have dD1 : DefOk (cxOf CX0 P w K mg base ["yard", "row", "journal", "stand", "index", "move"] "stand_behind" (defScope s_stand_behind) f_ cdv_ A outer s_ H E).nox.prog (cxOf CX0 P w K mg base ["yard", "row", "journal", "stand", "index", "move"] "stand_behind" (defScope s_stand_behind) f_ cdv_ A outer s_ H E).nox.w (cxOf CX0 P w K mg base ["yard", "row", "journal", "stand", "index", "move"] "stand_behind" (defScope s_stand_behind) f_ cdv_ A outer s_ H E).nox.K (cxOf CX0 P w K mg base ["yard", "row", "journal", "stand", "index", "move"] "stand_behind" (defScope s_stand_behind) f_ cdv_ A outer s_ H E).nox.mg (cxOf CX0 P w K mg base ["yard", "row", "journal", "stand", "index", "move"] "stand_behind" (defScope s_stand_behind) f_ cdv_ A outer s_ H E).nox.base 1 "first_stand" ["yard", "row"] S_first_stand := D1
  have dD2 : DefOk (cxOf CX0 P w K mg base ["yard", "row", "journal", "stand", "index", "move"] "stand_behind" (defScope s_stand_behind) f_ cdv_ A outer s_ H E).nox.prog (cxOf CX0 P w K mg base ["yard", "row", "journal", "stand", "index", "move"] "stand_behind" (defScope s_stand_behind) f_ cdv_ A outer s_ H E).nox.w (cxOf CX0 P w K mg base ["yard", "row", "journal", "stand", "index", "move"] "stand_behind" (defScope s_stand_behind) f_ cdv_ A outer s_ H E).nox.K (cxOf CX0 P w K mg base ["yard", "row", "journal", "stand", "index", "move"] "stand_behind" (defScope s_stand_behind) f_ cdv_ A outer s_ H E).nox.mg (cxOf CX0 P w K mg base ["yard", "row", "journal", "stand", "index", "move"] "stand_behind" (defScope s_stand_behind) f_ cdv_ A outer s_ H E).nox.base 5 "after_move" ["yard", "stand", "move"] S_after_move := D2
  obtain ⟨y, r, j, rfl, hy, hj, hR⟩ := h
  walk_at "go"
  refine ⟨y, r, rfl, hy.k1, hy.k2, hy.l1, hy.l2, ?_⟩
  walk_at "go"
  refine ⟨fun i ρ => ∃ c1 c2, ρ = [some (.dat (dY y)), some (.dat (dL r)), some (.dat (dJ j)), some (.dat (dS (play y (beg y r) (j.take i)))), c1, c2], ⟨none, none, rfl⟩, fun i ρ2 hi hI => ?_, fun ρ2 hI => ?_⟩
  · obtain ⟨c1, c2, rfl⟩ := hI
    rw [List.length_map] at hi
    obtain ⟨m, hm⟩ : ∃ x, j[i]? = some x := ⟨_, List.getElem?_eq_getElem hi⟩
    obtain ⟨k1, k2⟩ := allCan_at hj hm
    refine jg_eq (d' := .tuple [.int i, dM m]) (by dsimp only; rw [map_get hm]) ?_
    walk_at "go"
    refine js_try ?_
    walk_at "go"
    refine ⟨y, _, m, rfl, hy, k1, k2, ?_⟩
    walk_at "go"
    refine ⟨some (.dat (.int i)), some (.dat (dM m)), ?_⟩
    rw [play_step hm]
    rfl
  · obtain ⟨c1, c2, rfl⟩ := hI
    walk_at "go"
    refine ⟨by walk_at "bk", ?_⟩
    rw [List.length_map, List.take_length]
    exact hR
def S_leads_to : Spec := fun cs R => ∃ (y : Yd) (r : List Nat) (j : List Mv) (s : Sd), cs = [.dat (dY y), .dat (dL r), .dat (dJ j), .dat (dS s)] ∧ YdOk y ∧ AllCan y (beg y r) j ∧ ∀ t : Bool, (t = true ↔ play y (beg y r) j = s) → R cs (.dat (.bool t))
theorem sc_leads_to : FnScope ["yard", "row", "journal", "stand"] ["yard", "row", "journal", "stand"] (defScope s_leads_to) := ⟨rfl, rfl, rfl, by decide +kernel, rfl, by decide +kernel, by decide +kernel⟩
theorem ok_leads_to (g : GD K mg "leads_to" s_leads_to) (D1 : DefOk P w K mg base 6 "stand_behind" ["yard", "row", "journal"] S_stand_behind) : DefOk P w K mg base 7 "leads_to" ["yard", "row", "journal", "stand"] S_leads_to := by
  refine defD g sc_leads_to (by decide) (fun _ _ _ _ _ _ us hl => match us, hl with | [_, _, _, _], _ => rfl) (fun cs R h => ?_) fun f_ cdv_ A outer s_ H E cs R hr h => ?_
  · obtain ⟨y, r, j, s, rfl, _⟩ := h
    rfl
  have hN : (["yard", "row", "journal", "stand"] : List Str).Nodup := by decide +kernel
  have nm0 : NmOk (cxOf CX0 P w K mg base ["yard", "row", "journal", "stand"] "leads_to" (defScope s_leads_to) f_ cdv_ A outer s_ H E).nox 0 "yard" := ⟨rfl, by first | exact Or.inl rfl | exact Or.inr (Or.inl rfl) | exact Or.inr (Or.inr rfl), by decide, by decide⟩
  have lc0 : LcOk (cxOf CX0 P w K mg base ["yard", "row", "journal", "stand"] "leads_to" (defScope s_leads_to) f_ cdv_ A outer s_ H E).nox 0 "yard" := ⟨rfl, by first | exact Or.inl rfl | exact Or.inr rfl, by first | exact Or.inl rfl | exact Or.inr rfl⟩
  have nm1 : NmOk (cxOf CX0 P w K mg base ["yard", "row", "journal", "stand"] "leads_to" (defScope s_leads_to) f_ cdv_ A outer s_ H E).nox 1 "row" := ⟨rfl, by first | exact Or.inl rfl | exact Or.inr (Or.inl rfl) | exact Or.inr (Or.inr rfl), by decide, by decide⟩
  have lc1 : LcOk (cxOf CX0 P w K mg base ["yard", "row", "journal", "stand"] "leads_to" (defScope s_leads_to) f_ cdv_ A outer s_ H E).nox 1 "row" := ⟨rfl, by first | exact Or.inl rfl | exact Or.inr rfl, by first | exact Or.inl rfl | exact Or.inr rfl⟩
  have nm2 : NmOk (cxOf CX0 P w K mg base ["yard", "row", "journal", "stand"] "leads_to" (defScope s_leads_to) f_ cdv_ A outer s_ H E).nox 2 "journal" := ⟨rfl, by first | exact Or.inl rfl | exact Or.inr (Or.inl rfl) | exact Or.inr (Or.inr rfl), by decide, by decide⟩
  have lc2 : LcOk (cxOf CX0 P w K mg base ["yard", "row", "journal", "stand"] "leads_to" (defScope s_leads_to) f_ cdv_ A outer s_ H E).nox 2 "journal" := ⟨rfl, by first | exact Or.inl rfl | exact Or.inr rfl, by first | exact Or.inl rfl | exact Or.inr rfl⟩
  have nm3 : NmOk (cxOf CX0 P w K mg base ["yard", "row", "journal", "stand"] "leads_to" (defScope s_leads_to) f_ cdv_ A outer s_ H E).nox 3 "stand" := ⟨rfl, by first | exact Or.inl rfl | exact Or.inr (Or.inl rfl) | exact Or.inr (Or.inr rfl), by decide, by decide⟩
  have lc3 : LcOk (cxOf CX0 P w K mg base ["yard", "row", "journal", "stand"] "leads_to" (defScope s_leads_to) f_ cdv_ A outer s_ H E).nox 3 "stand" := ⟨rfl, by first | exact Or.inl rfl | exact Or.inr rfl, by first | exact Or.inl rfl | exact Or.inr rfl⟩
  have dD1 : DefOk (cxOf CX0 P w K mg base ["yard", "row", "journal", "stand"] "leads_to" (defScope s_leads_to) f_ cdv_ A outer s_ H E).nox.prog (cxOf CX0 P w K mg base ["yard", "row", "journal", "stand"] "leads_to" (defScope s_leads_to) f_ cdv_ A outer s_ H E).nox.w (cxOf CX0 P w K mg base ["yard", "row", "journal", "stand"] "leads_to" (defScope s_leads_to) f_ cdv_ A outer s_ H E).nox.K (cxOf CX0 P w K mg base ["yard", "row", "journal", "stand"] "leads_to" (defScope s_leads_to) f_ cdv_ A outer s_ H E).nox.mg (cxOf CX0 P w K mg base ["yard", "row", "journal", "stand"] "leads_to" (defScope s_leads_to) f_ cdv_ A outer s_ H E).nox.base 6 "stand_behind" ["yard", "row", "journal"] S_stand_behind := D1
  obtain ⟨y, r, j, s, rfl, hy, hj, hR⟩ := h
  walk_at "go"
  refine js_try ?_
  walk_at "go"
  refine ⟨y, r, j, rfl, hy, hj, ?_⟩
  walk_at "go"
  refine Or.inr ⟨cm_S _, cm_S _, fun t ht => ?_⟩
  exact ⟨by walk_at "bk", hR t (ht.trans ⟨dS_inj, fun e => by rw [e]⟩)⟩
def S_replayed : Spec := fun cs R => ∃ (y : Yd) (r : List Nat) (j : List Mv), cs = [.dat (dY y), .dat (dL r), .dat (dJ j)] ∧ YdOk y ∧ RowOk r ∧ AllCan y (beg y r) j ∧ R cs (.dat (dS (play y (beg y r) j)))
theorem sc_replayed : FnScope ["yard", "row", "journal"] ["yard", "row", "journal"] (defScope s_replayed) := ⟨rfl, rfl, rfl, by decide +kernel, rfl, by decide +kernel, by decide +kernel⟩
theorem ok_replayed (g : GD K mg "replayed" s_replayed) (D1 : DefOk P w K mg base 6 "stand_behind" ["yard", "row", "journal"] S_stand_behind) (D2 : DefOk P w K mg base 4 "made_yard" ["thing"] S_made_yard) (D3 : DefOk P w K mg base 2 "made_row" ["thing"] S_made_row) (D4 : DefOk P w K mg base 1 "check_journal" ["thing"] S_check_journal) : DefOk P w K mg base 7 "replayed" ["yard", "row", "journal"] S_replayed := by
  refine defD g sc_replayed (by decide) (fun _ _ _ _ _ _ us hl => match us, hl with | [_, _, _], _ => rfl) (fun cs R h => ?_) fun f_ cdv_ A outer s_ H E cs R hr h => ?_
  · obtain ⟨y, r, j, rfl, _⟩ := h
    rfl
  have hN : (["yard", "row", "journal"] : List Str).Nodup := by decide +kernel
  have nm0 : NmOk (cxOf CX0 P w K mg base ["yard", "row", "journal"] "replayed" (defScope s_replayed) f_ cdv_ A outer s_ H E).nox 0 "yard" := ⟨rfl, by first | exact Or.inl rfl | exact Or.inr (Or.inl rfl) | exact Or.inr (Or.inr rfl), by decide, by decide⟩
  have lc0 : LcOk (cxOf CX0 P w K mg base ["yard", "row", "journal"] "replayed" (defScope s_replayed) f_ cdv_ A outer s_ H E).nox 0 "yard" := ⟨rfl, by first | exact Or.inl rfl | exact Or.inr rfl, by first | exact Or.inl rfl | exact Or.inr rfl⟩
  have nm1 : NmOk (cxOf CX0 P w K mg base ["yard", "row", "journal"] "replayed" (defScope s_replayed) f_ cdv_ A outer s_ H E).nox 1 "row" := ⟨rfl, by first | exact Or.inl rfl | exact Or.inr (Or.inl rfl) | exact Or.inr (Or.inr rfl), by decide, by decide⟩
  have lc1 : LcOk (cxOf CX0 P w K mg base ["yard", "row", "journal"] "replayed" (defScope s_replayed) f_ cdv_ A outer s_ H E).nox 1 "row" := ⟨rfl, by first | exact Or.inl rfl | exact Or.inr rfl, by first | exact Or.inl rfl | exact Or.inr rfl⟩
  have nm2 : NmOk (cxOf CX0 P w K mg base ["yard", "row", "journal"] "replayed" (defScope s_replayed) f_ cdv_ A outer s_ H E).nox 2 "journal" := ⟨rfl, by first | exact Or.inl rfl | exact Or.inr (Or.inl rfl) | exact Or.inr (Or.inr rfl), by decide, by decide⟩
  have lc2 : LcOk (cxOf CX0 P w K mg base ["yard", "row", "journal"] "replayed" (defScope s_replayed) f_ cdv_ A outer s_ H E).nox 2 "journal" := ⟨rfl, by first | exact Or.inl rfl | exact Or.inr rfl, by first | exact Or.inl rfl | exact Or.inr rfl⟩
  have dD1 : DefOk (cxOf CX0 P w K mg base ["yard", "row", "journal"] "replayed" (defScope s_replayed) f_ cdv_ A outer s_ H E).nox.prog (cxOf CX0 P w K mg base ["yard", "row", "journal"] "replayed" (defScope s_replayed) f_ cdv_ A outer s_ H E).nox.w (cxOf CX0 P w K mg base ["yard", "row", "journal"] "replayed" (defScope s_replayed) f_ cdv_ A outer s_ H E).nox.K (cxOf CX0 P w K mg base ["yard", "row", "journal"] "replayed" (defScope s_replayed) f_ cdv_ A outer s_ H E).nox.mg (cxOf CX0 P w K mg base ["yard", "row", "journal"] "replayed" (defScope s_replayed) f_ cdv_ A outer s_ H E).nox.base 6 "stand_behind" ["yard", "row", "journal"] S_stand_behind := D1
  have dD2 : DefOk (cxOf CX0 P w K mg base ["yard", "row", "journal"] "replayed" (defScope s_replayed) f_ cdv_ A outer s_ H E).nox.prog (cxOf CX0 P w K mg base ["yard", "row", "journal"] "replayed" (defScope s_replayed) f_ cdv_ A outer s_ H E).nox.w (cxOf CX0 P w K mg base ["yard", "row", "journal"] "replayed" (defScope s_replayed) f_ cdv_ A outer s_ H E).nox.K (cxOf CX0 P w K mg base ["yard", "row", "journal"] "replayed" (defScope s_replayed) f_ cdv_ A outer s_ H E).nox.mg (cxOf CX0 P w K mg base ["yard", "row", "journal"] "replayed" (defScope s_replayed) f_ cdv_ A outer s_ H E).nox.base 4 "made_yard" ["thing"] S_made_yard := D2
  have dD3 : DefOk (cxOf CX0 P w K mg base ["yard", "row", "journal"] "replayed" (defScope s_replayed) f_ cdv_ A outer s_ H E).nox.prog (cxOf CX0 P w K mg base ["yard", "row", "journal"] "replayed" (defScope s_replayed) f_ cdv_ A outer s_ H E).nox.w (cxOf CX0 P w K mg base ["yard", "row", "journal"] "replayed" (defScope s_replayed) f_ cdv_ A outer s_ H E).nox.K (cxOf CX0 P w K mg base ["yard", "row", "journal"] "replayed" (defScope s_replayed) f_ cdv_ A outer s_ H E).nox.mg (cxOf CX0 P w K mg base ["yard", "row", "journal"] "replayed" (defScope s_replayed) f_ cdv_ A outer s_ H E).nox.base 2 "made_row" ["thing"] S_made_row := D3
  have dD4 : DefOk (cxOf CX0 P w K mg base ["yard", "row", "journal"] "replayed" (defScope s_replayed) f_ cdv_ A outer s_ H E).nox.prog (cxOf CX0 P w K mg base ["yard", "row", "journal"] "replayed" (defScope s_replayed) f_ cdv_ A outer s_ H E).nox.w (cxOf CX0 P w K mg base ["yard", "row", "journal"] "replayed" (defScope s_replayed) f_ cdv_ A outer s_ H E).nox.K (cxOf CX0 P w K mg base ["yard", "row", "journal"] "replayed" (defScope s_replayed) f_ cdv_ A outer s_ H E).nox.mg (cxOf CX0 P w K mg base ["yard", "row", "journal"] "replayed" (defScope s_replayed) f_ cdv_ A outer s_ H E).nox.base 1 "check_journal" ["thing"] S_check_journal := D4
  obtain ⟨y, r, j, rfl, hy, hr', hj, hR⟩ := h
  walk_at "go"
  refine ⟨y, rfl, hy, ?_⟩
  walk_at "go"
  refine ⟨r, rfl, hr', ?_⟩
  walk_at "go"
  refine ⟨j, rfl, ?_⟩
  walk_at "go"
  exact ⟨y, r, j, rfl, hy, hj, by walk_at "bk", hR⟩
theorem jnil_iff {j : List Mv} : dJ j = .tuple [] ↔ j = [] := by simp [dJ]
/-- what opening finds: the journal, or the journal without its last entry -/
def Opens (y : Yd) (r : List Nat) (j : List Mv) (s : Sd) (j' : List Mv) : Prop := (play y (beg y r) j = s ∧ j' = j) ∨ (¬ play y (beg y r) j = s ∧ j ≠ [] ∧ play y (beg y r) j.dropLast = s ∧ AllCan y (beg y r) j.dropLast ∧ j' = j.dropLast)
def S_opened : Spec := fun cs R => ∃ (y : Yd) (r : List Nat) (j : List Mv) (s : Sd) (j' : List Mv), cs = [.dat (dY y), .dat (dL r), .dat (dJ j), .dat (dS s)] ∧ YdOk y ∧ RowOk r ∧ AllCan y (beg y r) j ∧ StOk y r s ∧ Opens y r j s j' ∧ R cs (.dat (dJ j'))
theorem sc_opened : FnScope ["yard", "row", "journal", "stand"] ["yard", "row", "journal", "stand"] (defScope s_opened) := ⟨rfl, rfl, rfl, by decide +kernel, rfl, by decide +kernel, by decide +kernel⟩
theorem ok_opened (g : GD K mg "opened" s_opened) (D1 : DefOk P w K mg base 7 "leads_to" ["yard", "row", "journal", "stand"] S_leads_to) (D2 : DefOk P w K mg base 4 "made_yard" ["thing"] S_made_yard) (D3 : DefOk P w K mg base 2 "made_row" ["thing"] S_made_row) (D4 : DefOk P w K mg base 1 "check_journal" ["thing"] S_check_journal) (D5 : DefOk P w K mg base 5 "check_stand" ["yard", "row", "thing"] S_check_stand) : DefOk P w K mg base 8 "opened" ["yard", "row", "journal", "stand"] S_opened := by
  refine defD g sc_opened (by decide) (fun _ _ _ _ _ _ us hl => match us, hl with | [_, _, _, _], _ => rfl) (fun cs R h => ?_) fun f_ cdv_ A outer s_ H E cs R hr h => ?_
  · obtain ⟨y, r, j, s, j', rfl, _⟩ := h
    rfl
  have hN : (["yard", "row", "journal", "stand"] : List Str).Nodup := by decide +kernel
  have nm0 : NmOk (cxOf CX0 P w K mg base ["yard", "row", "journal", "stand"] "opened" (defScope s_opened) f_ cdv_ A outer s_ H E).nox 0 "yard" := ⟨rfl, by first | exact Or.inl rfl | exact Or.inr (Or.inl rfl) | exact Or.inr (Or.inr rfl), by decide, by decide⟩
  have lc0 : LcOk (cxOf CX0 P w K mg base ["yard", "row", "journal", "stand"] "opened" (defScope s_opened) f_ cdv_ A outer s_ H E).nox 0 "yard" := ⟨rfl, by first | exact Or.inl rfl | exact Or.inr rfl, by first | exact Or.inl rfl | exact Or.inr rfl⟩
  have nm1 : NmOk (cxOf CX0 P w K mg base ["yard", "row", "journal", "stand"] "opened" (defScope s_opened) f_ cdv_ A outer s_ H E).nox 1 "row" := ⟨rfl, by first | exact Or.inl rfl | exact Or.inr (Or.inl rfl) | exact Or.inr (Or.inr rfl), by decide, by decide⟩
  have lc1 : LcOk (cxOf CX0 P w K mg base ["yard", "row", "journal", "stand"] "opened" (defScope s_opened) f_ cdv_ A outer s_ H E).nox 1 "row" := ⟨rfl, by first | exact Or.inl rfl | exact Or.inr rfl, by first | exact Or.inl rfl | exact Or.inr rfl⟩
  have nm2 : NmOk (cxOf CX0 P w K mg base ["yard", "row", "journal", "stand"] "opened" (defScope s_opened) f_ cdv_ A outer s_ H E).nox 2 "journal" := ⟨rfl, by first | exact Or.inl rfl | exact Or.inr (Or.inl rfl) | exact Or.inr (Or.inr rfl), by decide, by decide⟩
  have lc2 : LcOk (cxOf CX0 P w K mg base ["yard", "row", "journal", "stand"] "opened" (defScope s_opened) f_ cdv_ A outer s_ H E).nox 2 "journal" := ⟨rfl, by first | exact Or.inl rfl | exact Or.inr rfl, by first | exact Or.inl rfl | exact Or.inr rfl⟩
  have nm3 : NmOk (cxOf CX0 P w K mg base ["yard", "row", "journal", "stand"] "opened" (defScope s_opened) f_ cdv_ A outer s_ H E).nox 3 "stand" := ⟨rfl, by first | exact Or.inl rfl | exact Or.inr (Or.inl rfl) | exact Or.inr (Or.inr rfl), by decide, by decide⟩
  have lc3 : LcOk (cxOf CX0 P w K mg base ["yard", "row", "journal", "stand"] "opened" (defScope s_opened) f_ cdv_ A outer s_ H E).nox 3 "stand" := ⟨rfl, by first | exact Or.inl rfl | exact Or.inr rfl, by first | exact Or.inl rfl | exact Or.inr rfl⟩
  have dD1 : DefOk (cxOf CX0 P w K mg base ["yard", "row", "journal", "stand"] "opened" (defScope s_opened) f_ cdv_ A outer s_ H E).nox.prog (cxOf CX0 P w K mg base ["yard", "row", "journal", "stand"] "opened" (defScope s_opened) f_ cdv_ A outer s_ H E).nox.w (cxOf CX0 P w K mg base ["yard", "row", "journal", "stand"] "opened" (defScope s_opened) f_ cdv_ A outer s_ H E).nox.K (cxOf CX0 P w K mg base ["yard", "row", "journal", "stand"] "opened" (defScope s_opened) f_ cdv_ A outer s_ H E).nox.mg (cxOf CX0 P w K mg base ["yard", "row", "journal", "stand"] "opened" (defScope s_opened) f_ cdv_ A outer s_ H E).nox.base 7 "leads_to" ["yard", "row", "journal", "stand"] S_leads_to := D1
  have dD2 : DefOk (cxOf CX0 P w K mg base ["yard", "row", "journal", "stand"] "opened" (defScope s_opened) f_ cdv_ A outer s_ H E).nox.prog (cxOf CX0 P w K mg base ["yard", "row", "journal", "stand"] "opened" (defScope s_opened) f_ cdv_ A outer s_ H E).nox.w (cxOf CX0 P w K mg base ["yard", "row", "journal", "stand"] "opened" (defScope s_opened) f_ cdv_ A outer s_ H E).nox.K (cxOf CX0 P w K mg base ["yard", "row", "journal", "stand"] "opened" (defScope s_opened) f_ cdv_ A outer s_ H E).nox.mg (cxOf CX0 P w K mg base ["yard", "row", "journal", "stand"] "opened" (defScope s_opened) f_ cdv_ A outer s_ H E).nox.base 4 "made_yard" ["thing"] S_made_yard := D2
  have dD3 : DefOk (cxOf CX0 P w K mg base ["yard", "row", "journal", "stand"] "opened" (defScope s_opened) f_ cdv_ A outer s_ H E).nox.prog (cxOf CX0 P w K mg base ["yard", "row", "journal", "stand"] "opened" (defScope s_opened) f_ cdv_ A outer s_ H E).nox.w (cxOf CX0 P w K mg base ["yard", "row", "journal", "stand"] "opened" (defScope s_opened) f_ cdv_ A outer s_ H E).nox.K (cxOf CX0 P w K mg base ["yard", "row", "journal", "stand"] "opened" (defScope s_opened) f_ cdv_ A outer s_ H E).nox.mg (cxOf CX0 P w K mg base ["yard", "row", "journal", "stand"] "opened" (defScope s_opened) f_ cdv_ A outer s_ H E).nox.base 2 "made_row" ["thing"] S_made_row := D3
  have dD4 : DefOk (cxOf CX0 P w K mg base ["yard", "row", "journal", "stand"] "opened" (defScope s_opened) f_ cdv_ A outer s_ H E).nox.prog (cxOf CX0 P w K mg base ["yard", "row", "journal", "stand"] "opened" (defScope s_opened) f_ cdv_ A outer s_ H E).nox.w (cxOf CX0 P w K mg base ["yard", "row", "journal", "stand"] "opened" (defScope s_opened) f_ cdv_ A outer s_ H E).nox.K (cxOf CX0 P w K mg base ["yard", "row", "journal", "stand"] "opened" (defScope s_opened) f_ cdv_ A outer s_ H E).nox.mg (cxOf CX0 P w K mg base ["yard", "row", "journal", "stand"] "opened" (defScope s_opened) f_ cdv_ A outer s_ H E).nox.base 1 "check_journal" ["thing"] S_check_journal := D4
  have dD5 : DefOk (cxOf CX0 P w K mg base ["yard", "row", "journal", "stand"] "opened" (defScope s_opened) f_ cdv_ A outer s_ H E).nox.prog (cxOf CX0 P w K mg base ["yard", "row", "journal", "stand"] "opened" (defScope s_opened) f_ cdv_ A outer s_ H E).nox.w (cxOf CX0 P w K mg base ["yard", "row", "journal", "stand"] "opened" (defScope s_opened) f_ cdv_ A outer s_ H E).nox.K (cxOf CX0 P w K mg base ["yard", "row", "journal", "stand"] "opened" (defScope s_opened) f_ cdv_ A outer s_ H E).nox.mg (cxOf CX0 P w K mg base ["yard", "row", "journal", "stand"] "opened" (defScope s_opened) f_ cdv_ A outer s_ H E).nox.base 5 "check_stand" ["yard", "row", "thing"] S_check_stand := D5
  obtain ⟨y, r, j, s, j', rfl, hy, hr', hj, hs, ho, hR⟩ := h
  walk_at "go"
  refine ⟨y, rfl, hy, ?_⟩
  walk_at "go"
  refine ⟨r, rfl, hr', ?_⟩
  walk_at "go"
  refine ⟨j, rfl, ?_⟩
  walk_at "go"
  refine ⟨y, r, s, rfl, hy, hr', hs, ?_⟩
  walk_at "go"
  refine ⟨y, r, j, s, rfl, hy, hj, fun t ht => ?_⟩
  walk_at "go"
  rcases ho with ⟨h1, rfl⟩ | ⟨h1, h2, h3, h4, rfl⟩
  · have e : t = true := ht.mpr h1
    subst e
    refine okT ?_
    walk_at "go"
    exact ⟨by walk_at "bk", hR⟩
  · have e : t = false := by
      cases t with
      | true => exact absurd (ht.mp rfl) h1
      | false => rfl
    subst e
    refine okF ?_
    walk_at "go"
    refine Or.inr ⟨cm_J _, cm_nil, fun t ht => ?_⟩
    refine okTe ((tNe ht jnil_iff).trans (by simp [h2])) ?_
    walk_at "go"
    refine ⟨y, r, j.dropLast, s, rfl, hy, h4, fun t ht => ?_⟩
    walk_at "go"
    refine okTe (ht.mpr h3) ?_
    walk_at "go"
    exact ⟨by walk_at "bk", hR⟩

end
end
section
section
variable {P : Program} {w : World} {K : PySem.W.Frag} {mg : Str → Option Value} {base : Heap}
def S_check_picks : Spec := fun cs R => ∃ v : List Nat, cs = [.dat (dL v)] ∧ v.length ≤ 1000 ∧ R cs (.dat .none)
theorem sc_check_picks : FnScope ["thing", "index", "number"] ["thing"] (defScope s_check_picks) := ⟨rfl, rfl, rfl, by decide +kernel, rfl, by decide +kernel, by decide +kernel⟩
theorem ok_check_picks (g : GD K mg "check_picks" s_check_picks) (m1 : mg "isinstance" = none) (m2 : mg "tuple" = none) (m3 : mg "enumerate" = none) (m4 : mg "int" = none) (m5 : mg "bool" = none) : DefOk P w K mg base 1 "check_picks" ["thing"] S_check_picks := by
  refine defD g sc_check_picks (by decide) (fun _ _ _ _ _ _ us hl => match us, hl with | [_], _ => rfl) (fun cs R h => ?_) fun f_ cdv_ A outer s_ H E cs R hr h => ?_
  · obtain ⟨v, rfl, _⟩ := h
    rfl
  have hN : (["thing", "index", "number"] : List Str).Nodup := by decide +kernel
  have nm0 : NmOk (cxOf CX0 P w K mg base ["thing", "index", "number"] "check_picks" (defScope s_check_picks) f_ cdv_ A outer s_ H E).nox 0 "thing" := ⟨rfl, by first | exact Or.inl rfl | exact Or.inr (Or.inl rfl) | exact Or.inr (Or.inr rfl), by decide, by decide⟩
  have lc0 : LcOk (cxOf CX0 P w K mg base ["thing", "index", "number"] "check_picks" (defScope s_check_picks) f_ cdv_ A outer s_ H E).nox 0 "thing" := ⟨rfl, by first | exact Or.inl rfl | exact Or.inr rfl, by first | exact Or.inl rfl | exact Or.inr rfl⟩
  have nm1 : NmOk (cxOf CX0 P w K mg base ["thing", "index", "number"] "check_picks" (defScope s_check_picks) f_ cdv_ A outer s_ H E).nox 1 "index" := ⟨rfl, by first | exact Or.inl rfl | exact Or.inr (Or.inl rfl) | exact Or.inr (Or.inr rfl), by decide, by decide⟩
  have lc1 : LcOk (cxOf CX0 P w K mg base ["thing", "index", "number"] "check_picks" (defScope s_check_picks) f_ cdv_ A outer s_ H E).nox 1 "index" := ⟨rfl, by first | exact Or.inl rfl | exact Or.inr rfl, by first | exact Or.inl rfl | exact Or.inr rfl⟩
  have nm2 : NmOk (cxOf CX0 P w K mg base ["thing", "index", "number"] "check_picks" (defScope s_check_picks) f_ cdv_ A outer s_ H E).nox 2 "number" := ⟨rfl, by first | exact Or.inl rfl | exact Or.inr (Or.inl rfl) | exact Or.inr (Or.inr rfl), by decide, by decide⟩
  have lc2 : LcOk (cxOf CX0 P w K mg base ["thing", "index", "number"] "check_picks" (defScope s_check_picks) f_ cdv_ A outer s_ H E).nox 2 "number" := ⟨rfl, by first | exact Or.inl rfl | exact Or.inr rfl, by first | exact Or.inl rfl | exact Or.inr rfl⟩
  obtain ⟨v, rfl, hz, hR⟩ := h
  walk_at "go"
  refine ⟨_, kit_tt, ?_⟩
  walk_at "go"
  refine okF ?_
  walk_at "go"
  refine ⟨fun i ρ => ∃ c1 c2, ρ = [some (.dat (dL v)), c1, c2], ⟨none, none, rfl⟩, fun i ρ2 hi hI => ?_, fun ρ2 hI => ?_⟩
  · obtain ⟨c1, c2, rfl⟩ := hI
    rw [List.length_map] at hi
    obtain ⟨x, hx⟩ : ∃ x, v[i]? = some x := ⟨_, List.getElem?_eq_getElem hi⟩
    refine jg_eq (d' := .tuple [.int i, dN x]) (by dsimp only; rw [map_get hx]) ?_
    walk_at "go"
    refine ⟨_, kit_ii, ?_⟩
    walk_at "go"
    refine okF ?_
    walk_at "go"
    refine ⟨_, kit_ib, ?_⟩
    walk_at "go"
    refine okF ?_
    walk_at "go"
    refine okFe (by simp) ?_
    walk_at "go"
    exact ⟨_, _, rfl⟩
  · obtain ⟨c1, c2, rfl⟩ := hI
    walk_at "go"
    exact ⟨by walk_at "bk", hR⟩

end
end
section
local macro_rules | `(tactic| walk_at "e") => `(tactic| first
  | ((with_reducible refine isAt ?_); first | refine je_attr 0 (by assumption) (by assumption) rfl rfl ?_ rfl (by first | exact Or.inl rfl | exact Or.inr (Or.inl rfl) | exact Or.inr (Or.inr rfl)) (by decide) (by decide) rfl | refine je_attr 4 (by assumption) (by assumption) rfl rfl ?_ rfl (by first | exact Or.inl rfl | exact Or.inr (Or.inl rfl) | exact Or.inr (Or.inr rfl)) (by decide) (by decide) rfl | refine je_attr 5 (by assumption) (by assumption) rfl rfl ?_ rfl (by first | exact Or.inl rfl | exact Or.inr (Or.inl rfl) | exact Or.inr (Or.inr rfl)) (by decide) (by decide) rfl | refine je_attr 8 (by assumption) (by assumption) rfl rfl ?_ rfl (by first | exact Or.inl rfl | exact Or.inr (Or.inl rfl) | exact Or.inr (Or.inr rfl)) (by decide) (by decide) rfl)
  | ((with_reducible refine isMc ?_); first | refine je_meth0D 0 (by assumption) (by assumption) (Room.mono (by assumption) (by decide)) rfl rfl ?_ rfl (by first | exact Or.inl rfl | exact Or.inr (Or.inl rfl) | exact Or.inr (Or.inr rfl)) (by decide) (by decide) rfl | refine je_methD 0 (by assumption) (by assumption) (Room.mono (by assumption) (by decide)) rfl rfl ?_ rfl (by first | exact Or.inl rfl | exact Or.inr (Or.inl rfl) | exact Or.inr (Or.inr rfl)) (by decide) (by decide) rfl rfl rfl | refine je_meth0D 4 (by assumption) (by assumption) (Room.mono (by assumption) (by decide)) rfl rfl ?_ rfl (by first | exact Or.inl rfl | exact Or.inr (Or.inl rfl) | exact Or.inr (Or.inr rfl)) (by decide) (by decide) rfl | refine je_methD 4 (by assumption) (by assumption) (Room.mono (by assumption) (by decide)) rfl rfl ?_ rfl (by first | exact Or.inl rfl | exact Or.inr (Or.inl rfl) | exact Or.inr (Or.inr rfl)) (by decide) (by decide) rfl rfl rfl | refine je_meth0D 8 (by assumption) (by assumption) (Room.mono (by assumption) (by decide)) rfl rfl ?_ rfl (by first | exact Or.inl rfl | exact Or.inr (Or.inl rfl) | exact Or.inr (Or.inr rfl)) (by decide) (by decide) rfl | refine je_methD 8 (by assumption) (by assumption) (Room.mono (by assumption) (by decide)) rfl rfl ?_ rfl (by first | exact Or.inl rfl | exact Or.inr (Or.inl rfl) | exact Or.inr (Or.inr rfl)) (by decide) (by decide) rfl rfl rfl))
local macro_rules | `(tactic| walk_at "s") => `(tactic| first
  | ((with_reducible refine isAs ?_); first | refine js_attr 0 (by assumption) (by assumption) ?_ rfl (by first | exact Or.inl rfl | exact Or.inr (Or.inl rfl) | exact Or.inr (Or.inr rfl)) (by decide) (by decide) rfl | refine js_attr 5 (by assumption) (by assumption) ?_ rfl (by first | exact Or.inl rfl | exact Or.inr (Or.inl rfl) | exact Or.inr (Or.inr rfl)) (by decide) (by decide) rfl)
  | refine js_retN ?_)
local macro_rules | `(tactic| walk_at "c") => `(tactic| first | refine exC rfl (celND rfl) ?_ | refine exAt rfl rfl ?_)
section
variable {P : Program} {w : World} {K : PySem.W.Frag} {mg : Str → Option Value} {base : Heap}
/-- what an engine holds -/
abbrev eng (y : Yd) (tk : List Nat) (s : Sd) (j : List Mv) : List (Str × PyData) := [("yard", dY y), ("tracks", .list (tk.map dN)), ("here", dS s), ("entries", dJ j)]
def S_Engine_stand : Spec := fun cs R => ∃ p y tk s j, cs = [.ins p (eng y tk s j)] ∧ R cs (.dat (dS s))
theorem sc_Engine_stand : FnScope ["self"] ["self"] (defScope s_Engine_stand) := ⟨rfl, rfl, rfl, by decide +kernel, rfl, by decide +kernel, by decide +kernel⟩
theorem ok_Engine_stand (g : GM K "stand" "Engine.stand" s_Engine_stand) (cl : Cls K (engC K)) (a3 : NoAttr K (engC K) "here") : MetOk P w K mg base 1 "stand" ["self"] S_Engine_stand := by
  refine metD g sc_Engine_stand (by decide) (fun _ _ _ _ _ _ us hl => match us, hl with | [_], _ => rfl) (fun cs R h => ?_) fun f_ cdv_ A outer s_ H E cs R hr h => ?_
  · obtain ⟨p, y, tk, s, j, rfl, _⟩ := h
    rfl
  have hN : (["self"] : List Str).Nodup := by decide +kernel
  have nm0 : NmOk (cxOf CX0 P w K mg base ["self"] "Engine.stand" (defScope s_Engine_stand) f_ cdv_ A outer s_ H E).nox 0 "self" := ⟨rfl, by first | exact Or.inl rfl | exact Or.inr (Or.inl rfl) | exact Or.inr (Or.inr rfl), by decide, by decide⟩
  have lc0 : LcOk (cxOf CX0 P w K mg base ["self"] "Engine.stand" (defScope s_Engine_stand) f_ cdv_ A outer s_ H E).nox 0 "self" := ⟨rfl, by first | exact Or.inl rfl | exact Or.inr rfl, by first | exact Or.inl rfl | exact Or.inr rfl⟩
  obtain ⟨p, y, tk, s, j, rfl, hR⟩ := h
  walk_at "go"
  exact ⟨by walk_at "bk", hR⟩
def S_Engine_journal : Spec := fun cs R => ∃ p y tk s j, cs = [.ins p (eng y tk s j)] ∧ R cs (.dat (dJ j))
theorem sc_Engine_journal : FnScope ["self"] ["self"] (defScope s_Engine_journal) := ⟨rfl, rfl, rfl, by decide +kernel, rfl, by decide +kernel, by decide +kernel⟩
theorem ok_Engine_journal (g : GM K "journal" "Engine.journal" s_Engine_journal) (cl : Cls K (engC K)) (a4 : NoAttr K (engC K) "entries") : MetOk P w K mg base 1 "journal" ["self"] S_Engine_journal := by
  refine metD g sc_Engine_journal (by decide) (fun _ _ _ _ _ _ us hl => match us, hl with | [_], _ => rfl) (fun cs R h => ?_) fun f_ cdv_ A outer s_ H E cs R hr h => ?_
  · obtain ⟨p, y, tk, s, j, rfl, _⟩ := h
    rfl
  have hN : (["self"] : List Str).Nodup := by decide +kernel
  have nm0 : NmOk (cxOf CX0 P w K mg base ["self"] "Engine.journal" (defScope s_Engine_journal) f_ cdv_ A outer s_ H E).nox 0 "self" := ⟨rfl, by first | exact Or.inl rfl | exact Or.inr (Or.inl rfl) | exact Or.inr (Or.inr rfl), by decide, by decide⟩
  have lc0 : LcOk (cxOf CX0 P w K mg base ["self"] "Engine.journal" (defScope s_Engine_journal) f_ cdv_ A outer s_ H E).nox 0 "self" := ⟨rfl, by first | exact Or.inl rfl | exact Or.inr rfl, by first | exact Or.inl rfl | exact Or.inr rfl⟩
  obtain ⟨p, y, tk, s, j, rfl, hR⟩ := h
  walk_at "go"
  exact ⟨by walk_at "bk", hR⟩
def S_Engine_greens : Spec := fun cs R => ∃ p y tk s j, cs = [.ins p (eng y tk s j)] ∧ YdOk y ∧ Shp y s ∧ TkOk y tk s ∧ R cs (.dat (dJ (greens y tk s)))
theorem sc_Engine_greens : FnScope ["self"] ["self"] (defScope s_Engine_greens) := ⟨rfl, rfl, rfl, by decide +kernel, rfl, by decide +kernel, by decide +kernel⟩
theorem ok_Engine_greens (g : GM K "greens" "Engine.greens" s_Engine_greens) (cl : Cls K (engC K)) (a1 : NoAttr K (engC K) "yard") (a2 : NoAttr K (engC K) "tracks") (a3 : NoAttr K (engC K) "here") (D1 : DefOk P w K mg base 2 "green_moves" ["yard", "tracks", "stand"] S_green_moves) : MetOk P w K mg base 3 "greens" ["self"] S_Engine_greens := by
  refine metD g sc_Engine_greens (by decide) (fun _ _ _ _ _ _ us hl => match us, hl with | [_], _ => rfl) (fun cs R h => ?_) fun f_ cdv_ A outer s_ H E cs R hr h => ?_
  · obtain ⟨p, y, tk, s, j, rfl, _⟩ := h
    rfl
  have hN : (["self"] : List Str).Nodup := by decide +kernel
  have nm0 : NmOk (cxOf CX0 P w K mg base ["self"] "Engine.greens" (defScope s_Engine_greens) f_ cdv_ A outer s_ H E).nox 0 "self" := ⟨rfl, by first | exact Or.inl rfl | exact Or.inr (Or.inl rfl) | exact Or.inr (Or.inr rfl), by decide, by decide⟩
  have lc0 : LcOk (cxOf CX0 P w K mg base ["self"] "Engine.greens" (defScope s_Engine_greens) f_ cdv_ A outer s_ H E).nox 0 "self" := ⟨rfl, by first | exact Or.inl rfl | exact Or.inr rfl, by first | exact Or.inl rfl | exact Or.inr rfl⟩
  have dD1 : DefOk (cxOf CX0 P w K mg base ["self"] "Engine.greens" (defScope s_Engine_greens) f_ cdv_ A outer s_ H E).nox.prog (cxOf CX0 P w K mg base ["self"] "Engine.greens" (defScope s_Engine_greens) f_ cdv_ A outer s_ H E).nox.w (cxOf CX0 P w K mg base ["self"] "Engine.greens" (defScope s_Engine_greens) f_ cdv_ A outer s_ H E).nox.K (cxOf CX0 P w K mg base ["self"] "Engine.greens" (defScope s_Engine_greens) f_ cdv_ A outer s_ H E).nox.mg (cxOf CX0 P w K mg base ["self"] "Engine.greens" (defScope s_Engine_greens) f_ cdv_ A outer s_ H E).nox.base 2 "green_moves" ["yard", "tracks", "stand"] S_green_moves := D1
  obtain ⟨p, y, tk, s, j, rfl, hy, hs, hk, hR⟩ := h
  walk_at "go"
  exact ⟨y, tk, s, rfl, hy, hs, hk, by walk_at "bk", hR⟩
def S_Engine_home : Spec := fun cs R => ∃ p y tk s j, cs = [.ins p (eng y tk s j)] ∧ YdOk y ∧ Shp y s ∧ R cs (.dat (.bool (decide (s.w = [] ∧ (∀ l ∈ s.f, l = []) ∧ ∀ l ∈ s.s, l = []))))
theorem sc_Engine_home : FnScope ["self"] ["self"] (defScope s_Engine_home) := ⟨rfl, rfl, rfl, by decide +kernel, rfl, by decide +kernel, by decide +kernel⟩
theorem ok_Engine_home (g : GM K "home" "Engine.home" s_Engine_home) (cl : Cls K (engC K)) (a3 : NoAttr K (engC K) "here") (D1 : DefOk P w K mg base 1 "all_home" ["stand"] S_all_home) : MetOk P w K mg base 2 "home" ["self"] S_Engine_home := by
  refine metD g sc_Engine_home (by decide) (fun _ _ _ _ _ _ us hl => match us, hl with | [_], _ => rfl) (fun cs R h => ?_) fun f_ cdv_ A outer s_ H E cs R hr h => ?_
  · obtain ⟨p, y, tk, s, j, rfl, _⟩ := h
    rfl
  have hN : (["self"] : List Str).Nodup := by decide +kernel
  have nm0 : NmOk (cxOf CX0 P w K mg base ["self"] "Engine.home" (defScope s_Engine_home) f_ cdv_ A outer s_ H E).nox 0 "self" := ⟨rfl, by first | exact Or.inl rfl | exact Or.inr (Or.inl rfl) | exact Or.inr (Or.inr rfl), by decide, by decide⟩
  have lc0 : LcOk (cxOf CX0 P w K mg base ["self"] "Engine.home" (defScope s_Engine_home) f_ cdv_ A outer s_ H E).nox 0 "self" := ⟨rfl, by first | exact Or.inl rfl | exact Or.inr rfl, by first | exact Or.inl rfl | exact Or.inr rfl⟩
  have dD1 : DefOk (cxOf CX0 P w K mg base ["self"] "Engine.home" (defScope s_Engine_home) f_ cdv_ A outer s_ H E).nox.prog (cxOf CX0 P w K mg base ["self"] "Engine.home" (defScope s_Engine_home) f_ cdv_ A outer s_ H E).nox.w (cxOf CX0 P w K mg base ["self"] "Engine.home" (defScope s_Engine_home) f_ cdv_ A outer s_ H E).nox.K (cxOf CX0 P w K mg base ["self"] "Engine.home" (defScope s_Engine_home) f_ cdv_ A outer s_ H E).nox.mg (cxOf CX0 P w K mg base ["self"] "Engine.home" (defScope s_Engine_home) f_ cdv_ A outer s_ H E).nox.base 1 "all_home" ["stand"] S_all_home := D1
  obtain ⟨p, y, tk, s, j, rfl, hy, hs, hR⟩ := h
  have b1 := hs.fl
  have b2 := hs.sl
  have b3 := hy.k2
  have b4 := hy.l2
  walk_at "go"
  exact ⟨s, rfl, by omega, by walk_at "bk", hR⟩
def S_Engine_check_green : Spec := fun cs R => ∃ p y tk s j m, cs = [.ins p (eng y tk s j), .dat (dM m)] ∧ YdOk y ∧ Shp y s ∧ TkOk y tk s ∧ m ∈ greens y tk s ∧ R cs (.dat .none)
theorem sc_Engine_check_green : FnScope ["self", "move", "green"] ["self", "move"] (defScope s_Engine_check_green) := ⟨rfl, rfl, rfl, by decide +kernel, rfl, by decide +kernel, by decide +kernel⟩
theorem ok_Engine_check_green (g : GM K "check_green" "Engine.check_green" s_Engine_check_green) (cl : Cls K (engC K)) (m1 : mg "isinstance" = none) (m2 : mg "tuple" = none) (m3 : mg "bool" = none) (D1 : MetOk P w K mg base 3 "greens" ["self"] S_Engine_greens) : MetOk P w K mg base 4 "check_green" ["self", "move"] S_Engine_check_green := by
  refine metD g sc_Engine_check_green (by decide) (fun _ _ _ _ _ _ us hl => match us, hl with | [_, _], _ => rfl) (fun cs R h => ?_) fun f_ cdv_ A outer s_ H E cs R hr h => ?_
  · obtain ⟨p, y, tk, s, j, m, rfl, _⟩ := h
    rfl
  have hN : (["self", "move", "green"] : List Str).Nodup := by decide +kernel
  have nm0 : NmOk (cxOf CX0 P w K mg base ["self", "move", "green"] "Engine.check_green" (defScope s_Engine_check_green) f_ cdv_ A outer s_ H E).nox 0 "self" := ⟨rfl, by first | exact Or.inl rfl | exact Or.inr (Or.inl rfl) | exact Or.inr (Or.inr rfl), by decide, by decide⟩
  have lc0 : LcOk (cxOf CX0 P w K mg base ["self", "move", "green"] "Engine.check_green" (defScope s_Engine_check_green) f_ cdv_ A outer s_ H E).nox 0 "self" := ⟨rfl, by first | exact Or.inl rfl | exact Or.inr rfl, by first | exact Or.inl rfl | exact Or.inr rfl⟩
  have nm1 : NmOk (cxOf CX0 P w K mg base ["self", "move", "green"] "Engine.check_green" (defScope s_Engine_check_green) f_ cdv_ A outer s_ H E).nox 1 "move" := ⟨rfl, by first | exact Or.inl rfl | exact Or.inr (Or.inl rfl) | exact Or.inr (Or.inr rfl), by decide, by decide⟩
  have lc1 : LcOk (cxOf CX0 P w K mg base ["self", "move", "green"] "Engine.check_green" (defScope s_Engine_check_green) f_ cdv_ A outer s_ H E).nox 1 "move" := ⟨rfl, by first | exact Or.inl rfl | exact Or.inr rfl, by first | exact Or.inl rfl | exact Or.inr rfl⟩
  have nm2 : NmOk (cxOf CX0 P w K mg base ["self", "move", "green"] "Engine.check_green" (defScope s_Engine_check_green) f_ cdv_ A outer s_ H E).nox 2 "green" := ⟨rfl, by first | exact Or.inl rfl | exact Or.inr (Or.inl rfl) | exact Or.inr (Or.inr rfl), by decide, by decide⟩
  have lc2 : LcOk (cxOf CX0 P w K mg base ["self", "move", "green"] "Engine.check_green" (defScope s_Engine_check_green) f_ cdv_ A outer s_ H E).nox 2 "green" := ⟨rfl, by first | exact Or.inl rfl | exact Or.inr rfl, by first | exact Or.inl rfl | exact Or.inr rfl⟩
  obtain ⟨p, y, tk, s, j, m, rfl, hy, hs, hk, hm, hR⟩ := h
  walk_at "go"
  refine ji_tup ?_
  walk_at "go"
  refine ⟨p, y, tk, s, j, rfl, hy, hs, hk, ?_⟩
  walk_at "go"
  refine ⟨fun i ρ => ∃ c, ρ = [some (.ins p (eng y tk s j)), some (.dat (dM m)), c] ∧ m ∉ (greens y tk s).take i, ⟨none, rfl, by simp⟩, fun i ρ2 hi hI => ?_, fun ρ2 hI => ?_⟩
  · obtain ⟨c, rfl, hI⟩ := hI
    rw [List.length_map] at hi
    obtain ⟨x, hx⟩ : ∃ x, (greens y tk s)[i]? = some x := ⟨_, List.getElem?_eq_getElem hi⟩
    refine jg_eq (d' := dM x) (by dsimp only; rw [map_get hx]) ?_
    walk_at "go"
    refine ⟨_, kit_tt, ?_⟩
    walk_at "go"
    refine okT ?_
    walk_at "go"
    refine Or.inr ⟨cm_M _, cm_M _, fun t ht => ?_⟩
    refine okB (fun z => ?_) (fun z => ?_)
    · walk_at "go"
      refine ⟨_, kit_ib, ?_⟩
      walk_at "go"
      refine okT ?_
      walk_at "go"
      exact ⟨by walk_at "bk", hR⟩
    · refine okF ?_
      walk_at "go"
      refine ⟨_, rfl, fun q => ?_⟩
      rw [List.take_add_one, hx] at q
      rcases List.mem_append.mp q with q | q
      · exact hI q
      · have e : m = x := by simpa using q
        rw [e] at ht
        have := ht.mpr rfl
        rw [z] at this
        cases this
  · obtain ⟨c, rfl, hI⟩ := hI
    rw [List.length_map, List.take_length] at hI
    exact absurd hm hI
def S_Engine_do : Spec := fun cs R => ∃ p y tk s j m, cs = [.ins p (eng y tk s j), .dat (dM m)] ∧ YdOk y ∧ Shp y s ∧ TkOk y tk s ∧ Can y s m ∧ m ∈ greens y tk s ∧ j.length ≤ 1000 ∧ R [.ins p (eng y tk (step y s m) (j ++ [m])), .dat (dM m)] (.dat .none)
theorem sc_Engine_do : FnScope ["self", "move"] ["self", "move"] (defScope s_Engine_do) := ⟨rfl, rfl, rfl, by decide +kernel, rfl, by decide +kernel, by decide +kernel⟩
theorem ok_Engine_do (g : GM K "do" "Engine.do" s_Engine_do) (cl : Cls K (engC K)) (a1 : NoAttr K (engC K) "yard") (a2 : NoAttr K (engC K) "tracks") (a3 : NoAttr K (engC K) "here") (a4 : NoAttr K (engC K) "entries") (D1 : MetOk P w K mg base 4 "check_green" ["self", "move"] S_Engine_check_green) (D2 : DefOk P w K mg base 5 "after_move" ["yard", "stand", "move"] S_after_move) : MetOk P w K mg base 6 "do" ["self", "move"] S_Engine_do := by
  refine metD g sc_Engine_do (by decide) (fun _ _ _ _ _ _ us hl => match us, hl with | [_, _], _ => rfl) (fun cs R h => ?_) fun f_ cdv_ A outer s_ H E cs R hr h => ?_
  · obtain ⟨p, y, tk, s, j, m, rfl, _⟩ := h
    rfl
  have hN : (["self", "move"] : List Str).Nodup := by decide +kernel
  have nm0 : NmOk (cxOf CX0 P w K mg base ["self", "move"] "Engine.do" (defScope s_Engine_do) f_ cdv_ A outer s_ H E).nox 0 "self" := ⟨rfl, by first | exact Or.inl rfl | exact Or.inr (Or.inl rfl) | exact Or.inr (Or.inr rfl), by decide, by decide⟩
  have lc0 : LcOk (cxOf CX0 P w K mg base ["self", "move"] "Engine.do" (defScope s_Engine_do) f_ cdv_ A outer s_ H E).nox 0 "self" := ⟨rfl, by first | exact Or.inl rfl | exact Or.inr rfl, by first | exact Or.inl rfl | exact Or.inr rfl⟩
  have nm1 : NmOk (cxOf CX0 P w K mg base ["self", "move"] "Engine.do" (defScope s_Engine_do) f_ cdv_ A outer s_ H E).nox 1 "move" := ⟨rfl, by first | exact Or.inl rfl | exact Or.inr (Or.inl rfl) | exact Or.inr (Or.inr rfl), by decide, by decide⟩
  have lc1 : LcOk (cxOf CX0 P w K mg base ["self", "move"] "Engine.do" (defScope s_Engine_do) f_ cdv_ A outer s_ H E).nox 1 "move" := ⟨rfl, by first | exact Or.inl rfl | exact Or.inr rfl, by first | exact Or.inl rfl | exact Or.inr rfl⟩
  have dD2 : DefOk (cxOf CX0 P w K mg base ["self", "move"] "Engine.do" (defScope s_Engine_do) f_ cdv_ A outer s_ H E).nox.prog (cxOf CX0 P w K mg base ["self", "move"] "Engine.do" (defScope s_Engine_do) f_ cdv_ A outer s_ H E).nox.w (cxOf CX0 P w K mg base ["self", "move"] "Engine.do" (defScope s_Engine_do) f_ cdv_ A outer s_ H E).nox.K (cxOf CX0 P w K mg base ["self", "move"] "Engine.do" (defScope s_Engine_do) f_ cdv_ A outer s_ H E).nox.mg (cxOf CX0 P w K mg base ["self", "move"] "Engine.do" (defScope s_Engine_do) f_ cdv_ A outer s_ H E).nox.base 5 "after_move" ["yard", "stand", "move"] S_after_move := D2
  obtain ⟨p, y, tk, s, j, m, rfl, hy, hs, hk, hc, hm, hz, hR⟩ := h
  walk_at "go"
  refine ⟨p, y, tk, s, j, m, rfl, hy, hs, hk, hm, ?_⟩
  walk_at "go"
  refine ⟨by simp only [List.length_map, List.length_cons, List.length_nil]; omega, ?_⟩
  walk_at "go"
  refine ⟨y, s, m, rfl, hy, hs, hc, ?_⟩
  walk_at "go"
  refine ⟨by walk_at "bk", ?_⟩
  have e : dJ (j ++ [m]) = .tuple (j.map dM ++ [dM m]) := by simp [dJ]
  unfold eng at hR
  rw [e] at hR
  exact hR
def S_Engine_cut : Spec := fun cs R => ∃ p y tk s j m, ∃ b : Bool, cs = [.ins p (eng y tk s j), .dat (dM m), .dat (.bool b)] ∧ YdOk y ∧ Shp y s ∧ TkOk y tk s ∧ Can y s m ∧ m ∈ greens y tk s ∧ j.length ≤ 1000 ∧ R cs (.dat (.tuple [dJ (j ++ [m]), dS (if b = true then step y s m else s)]))
theorem sc_Engine_cut : FnScope ["self", "move", "done", "stand"] ["self", "move", "done"] (defScope s_Engine_cut) := ⟨rfl, rfl, rfl, by decide +kernel, rfl, by decide +kernel, by decide +kernel⟩
theorem ok_Engine_cut (g : GM K "cut" "Engine.cut" s_Engine_cut) (cl : Cls K (engC K)) (m1 : mg "isinstance" = none) (m3 : mg "bool" = none) (a1 : NoAttr K (engC K) "yard") (a2 : NoAttr K (engC K) "tracks") (a3 : NoAttr K (engC K) "here") (a4 : NoAttr K (engC K) "entries") (D1 : MetOk P w K mg base 4 "check_green" ["self", "move"] S_Engine_check_green) (D2 : DefOk P w K mg base 5 "after_move" ["yard", "stand", "move"] S_after_move) : MetOk P w K mg base 6 "cut" ["self", "move", "done"] S_Engine_cut := by
  refine metD g sc_Engine_cut (by decide) (fun _ _ _ _ _ _ us hl => match us, hl with | [_, _, _], _ => rfl) (fun cs R h => ?_) fun f_ cdv_ A outer s_ H E cs R hr h => ?_
  · obtain ⟨p, y, tk, s, j, m, b, rfl, _⟩ := h
    rfl
  have hN : (["self", "move", "done", "stand"] : List Str).Nodup := by decide +kernel
  have nm0 : NmOk (cxOf CX0 P w K mg base ["self", "move", "done", "stand"] "Engine.cut" (defScope s_Engine_cut) f_ cdv_ A outer s_ H E).nox 0 "self" := ⟨rfl, by first | exact Or.inl rfl | exact Or.inr (Or.inl rfl) | exact Or.inr (Or.inr rfl), by decide, by decide⟩
  have lc0 : LcOk (cxOf CX0 P w K mg base ["self", "move", "done", "stand"] "Engine.cut" (defScope s_Engine_cut) f_ cdv_ A outer s_ H E).nox 0 "self" := ⟨rfl, by first | exact Or.inl rfl | exact Or.inr rfl, by first | exact Or.inl rfl | exact Or.inr rfl⟩
  have nm1 : NmOk (cxOf CX0 P w K mg base ["self", "move", "done", "stand"] "Engine.cut" (defScope s_Engine_cut) f_ cdv_ A outer s_ H E).nox 1 "move" := ⟨rfl, by first | exact Or.inl rfl | exact Or.inr (Or.inl rfl) | exact Or.inr (Or.inr rfl), by decide, by decide⟩
  have lc1 : LcOk (cxOf CX0 P w K mg base ["self", "move", "done", "stand"] "Engine.cut" (defScope s_Engine_cut) f_ cdv_ A outer s_ H E).nox 1 "move" := ⟨rfl, by first | exact Or.inl rfl | exact Or.inr rfl, by first | exact Or.inl rfl | exact Or.inr rfl⟩
  have nm2 : NmOk (cxOf CX0 P w K mg base ["self", "move", "done", "stand"] "Engine.cut" (defScope s_Engine_cut) f_ cdv_ A outer s_ H E).nox 2 "done" := ⟨rfl, by first | exact Or.inl rfl | exact Or.inr (Or.inl rfl) | exact Or.inr (Or.inr rfl), by decide, by decide⟩
  have lc2 : LcOk (cxOf CX0 P w K mg base ["self", "move", "done", "stand"] "Engine.cut" (defScope s_Engine_cut) f_ cdv_ A outer s_ H E).nox 2 "done" := ⟨rfl, by first | exact Or.inl rfl | exact Or.inr rfl, by first | exact Or.inl rfl | exact Or.inr rfl⟩
  have nm3 : NmOk (cxOf CX0 P w K mg base ["self", "move", "done", "stand"] "Engine.cut" (defScope s_Engine_cut) f_ cdv_ A outer s_ H E).nox 3 "stand" := ⟨rfl, by first | exact Or.inl rfl | exact Or.inr (Or.inl rfl) | exact Or.inr (Or.inr rfl), by decide, by decide⟩
  have lc3 : LcOk (cxOf CX0 P w K mg base ["self", "move", "done", "stand"] "Engine.cut" (defScope s_Engine_cut) f_ cdv_ A outer s_ H E).nox 3 "stand" := ⟨rfl, by first | exact Or.inl rfl | exact Or.inr rfl, by first | exact Or.inl rfl | exact Or.inr rfl⟩
  have dD2 : DefOk (cxOf CX0 P w K mg base ["self", "move", "done", "stand"] "Engine.cut" (defScope s_Engine_cut) f_ cdv_ A outer s_ H E).nox.prog (cxOf CX0 P w K mg base ["self", "move", "done", "stand"] "Engine.cut" (defScope s_Engine_cut) f_ cdv_ A outer s_ H E).nox.w (cxOf CX0 P w K mg base ["self", "move", "done", "stand"] "Engine.cut" (defScope s_Engine_cut) f_ cdv_ A outer s_ H E).nox.K (cxOf CX0 P w K mg base ["self", "move", "done", "stand"] "Engine.cut" (defScope s_Engine_cut) f_ cdv_ A outer s_ H E).nox.mg (cxOf CX0 P w K mg base ["self", "move", "done", "stand"] "Engine.cut" (defScope s_Engine_cut) f_ cdv_ A outer s_ H E).nox.base 5 "after_move" ["yard", "stand", "move"] S_after_move := D2
  obtain ⟨p, y, tk, s, j, m, b, rfl, hy, hs, hk, hc, hm, hz, hR⟩ := h
  walk_at "go"
  refine ⟨p, y, tk, s, j, m, rfl, hy, hs, hk, hm, ?_⟩
  walk_at "go"
  refine ⟨_, kit_bb, ?_⟩
  walk_at "go"
  refine okF ?_
  walk_at "go"
  have e : dJ (j ++ [m]) = .tuple (j.map dM ++ [dM m]) := by simp [dJ]
  rw [e] at hR
  refine okB (fun z => ?_) (fun z => ?_)
  · rw [if_pos z] at hR
    walk_at "go"
    refine ⟨y, s, m, rfl, hy, hs, hc, ?_⟩
    walk_at "go"
    refine ⟨by simp only [List.length_map, List.length_cons, List.length_nil]; omega, ?_⟩
    walk_at "go"
    exact ⟨by walk_at "bk", hR⟩
  · rw [if_neg (by rw [z]; simp)] at hR
    walk_at "go"
    refine ⟨by simp only [List.length_map, List.length_cons, List.length_nil]; omega, ?_⟩
    walk_at "go"
    exact ⟨by walk_at "bk", hR⟩
def S_Engine_init : Spec := fun cs R => ∃ p y r d, cs = [.ins p [], .dat (dY y), .dat (dL r), .dat (dL d)] ∧ YdOk y ∧ RowOk r ∧ DealOk y r d ∧ R [.ins p (eng y (tks r d) (beg y r) []), .dat (dY y), .dat (dL r), .dat (dL d)] (.dat .none)
theorem sc_Engine_init : FnScope ["self", "yard", "row", "dealing"] ["self", "yard", "row", "dealing"] (defScope s_Engine_init) := ⟨rfl, rfl, rfl, by decide +kernel, rfl, by decide +kernel, by decide +kernel⟩
theorem ok_Engine_init (g : GI K mg s_Engine_init) (cl : Cls K (engC K)) (a1 : NoAttr K (engC K) "yard") (a2 : NoAttr K (engC K) "tracks") (a3 : NoAttr K (engC K) "here") (a4 : NoAttr K (engC K) "entries") (D1 : DefOk P w K mg base 4 "made_yard" ["thing"] S_made_yard) (D2 : DefOk P w K mg base 2 "made_row" ["thing"] S_made_row) (D3 : DefOk P w K mg base 5 "made_dealing" ["yard", "row", "thing"] S_made_dealing) (D4 : DefOk P w K mg base 1 "tracks_of" ["row", "dealing"] S_tracks_of) (D5 : DefOk P w K mg base 1 "first_stand" ["yard", "row"] S_first_stand) : MkOk P w K mg base 6 ["self", "yard", "row", "dealing"] S_Engine_init := by
  refine iniD g sc_Engine_init (by decide) (fun _ _ _ _ _ _ us hl => match us, hl with | [_, _, _, _], _ => rfl) (fun cs R h => ?_) fun f_ cdv_ A outer s_ H E cs R hr h => ?_
  · obtain ⟨p, y, r, d, rfl, _⟩ := h
    rfl
  have hN : (["self", "yard", "row", "dealing"] : List Str).Nodup := by decide +kernel
  have nm0 : NmOk (cxOf CX0 P w K mg base ["self", "yard", "row", "dealing"] "Engine.__init__" (defScope s_Engine_init) f_ cdv_ A outer s_ H E).nox 0 "self" := ⟨rfl, by first | exact Or.inl rfl | exact Or.inr (Or.inl rfl) | exact Or.inr (Or.inr rfl), by decide, by decide⟩
  have lc0 : LcOk (cxOf CX0 P w K mg base ["self", "yard", "row", "dealing"] "Engine.__init__" (defScope s_Engine_init) f_ cdv_ A outer s_ H E).nox 0 "self" := ⟨rfl, by first | exact Or.inl rfl | exact Or.inr rfl, by first | exact Or.inl rfl | exact Or.inr rfl⟩
  have nm1 : NmOk (cxOf CX0 P w K mg base ["self", "yard", "row", "dealing"] "Engine.__init__" (defScope s_Engine_init) f_ cdv_ A outer s_ H E).nox 1 "yard" := ⟨rfl, by first | exact Or.inl rfl | exact Or.inr (Or.inl rfl) | exact Or.inr (Or.inr rfl), by decide, by decide⟩
  have lc1 : LcOk (cxOf CX0 P w K mg base ["self", "yard", "row", "dealing"] "Engine.__init__" (defScope s_Engine_init) f_ cdv_ A outer s_ H E).nox 1 "yard" := ⟨rfl, by first | exact Or.inl rfl | exact Or.inr rfl, by first | exact Or.inl rfl | exact Or.inr rfl⟩
  have nm2 : NmOk (cxOf CX0 P w K mg base ["self", "yard", "row", "dealing"] "Engine.__init__" (defScope s_Engine_init) f_ cdv_ A outer s_ H E).nox 2 "row" := ⟨rfl, by first | exact Or.inl rfl | exact Or.inr (Or.inl rfl) | exact Or.inr (Or.inr rfl), by decide, by decide⟩
  have lc2 : LcOk (cxOf CX0 P w K mg base ["self", "yard", "row", "dealing"] "Engine.__init__" (defScope s_Engine_init) f_ cdv_ A outer s_ H E).nox 2 "row" := ⟨rfl, by first | exact Or.inl rfl | exact Or.inr rfl, by first | exact Or.inl rfl | exact Or.inr rfl⟩
  have nm3 : NmOk (cxOf CX0 P w K mg base ["self", "yard", "row", "dealing"] "Engine.__init__" (defScope s_Engine_init) f_ cdv_ A outer s_ H E).nox 3 "dealing" := ⟨rfl, by first | exact Or.inl rfl | exact Or.inr (Or.inl rfl) | exact Or.inr (Or.inr rfl), by decide, by decide⟩
  have lc3 : LcOk (cxOf CX0 P w K mg base ["self", "yard", "row", "dealing"] "Engine.__init__" (defScope s_Engine_init) f_ cdv_ A outer s_ H E).nox 3 "dealing" := ⟨rfl, by first | exact Or.inl rfl | exact Or.inr rfl, by first | exact Or.inl rfl | exact Or.inr rfl⟩
  have dD1 : DefOk (cxOf CX0 P w K mg base ["self", "yard", "row", "dealing"] "Engine.__init__" (defScope s_Engine_init) f_ cdv_ A outer s_ H E).nox.prog (cxOf CX0 P w K mg base ["self", "yard", "row", "dealing"] "Engine.__init__" (defScope s_Engine_init) f_ cdv_ A outer s_ H E).nox.w (cxOf CX0 P w K mg base ["self", "yard", "row", "dealing"] "Engine.__init__" (defScope s_Engine_init) f_ cdv_ A outer s_ H E).nox.K (cxOf CX0 P w K mg base ["self", "yard", "row", "dealing"] "Engine.__init__" (defScope s_Engine_init) f_ cdv_ A outer s_ H E).nox.mg (cxOf CX0 P w K mg base ["self", "yard", "row", "dealing"] "Engine.__init__" (defScope s_Engine_init) f_ cdv_ A outer s_ H E).nox.base 4 "made_yard" ["thing"] S_made_yard := D1
  have dD2 : DefOk (cxOf CX0 P w K mg base ["self", "yard", "row", "dealing"] "Engine.__init__" (defScope s_Engine_init) f_ cdv_ A outer s_ H E).nox.prog (cxOf CX0 P w K mg base ["self", "yard", "row", "dealing"] "Engine.__init__" (defScope s_Engine_init) f_ cdv_ A outer s_ H E).nox.w (cxOf CX0 P w K mg base ["self", "yard", "row", "dealing"] "Engine.__init__" (defScope s_Engine_init) f_ cdv_ A outer s_ H E).nox.K (cxOf CX0 P w K mg base ["self", "yard", "row", "dealing"] "Engine.__init__" (defScope s_Engine_init) f_ cdv_ A outer s_ H E).nox.mg (cxOf CX0 P w K mg base ["self", "yard", "row", "dealing"] "Engine.__init__" (defScope s_Engine_init) f_ cdv_ A outer s_ H E).nox.base 2 "made_row" ["thing"] S_made_row := D2
  have dD3 : DefOk (cxOf CX0 P w K mg base ["self", "yard", "row", "dealing"] "Engine.__init__" (defScope s_Engine_init) f_ cdv_ A outer s_ H E).nox.prog (cxOf CX0 P w K mg base ["self", "yard", "row", "dealing"] "Engine.__init__" (defScope s_Engine_init) f_ cdv_ A outer s_ H E).nox.w (cxOf CX0 P w K mg base ["self", "yard", "row", "dealing"] "Engine.__init__" (defScope s_Engine_init) f_ cdv_ A outer s_ H E).nox.K (cxOf CX0 P w K mg base ["self", "yard", "row", "dealing"] "Engine.__init__" (defScope s_Engine_init) f_ cdv_ A outer s_ H E).nox.mg (cxOf CX0 P w K mg base ["self", "yard", "row", "dealing"] "Engine.__init__" (defScope s_Engine_init) f_ cdv_ A outer s_ H E).nox.base 5 "made_dealing" ["yard", "row", "thing"] S_made_dealing := D3
  have dD4 : DefOk (cxOf CX0 P w K mg base ["self", "yard", "row", "dealing"] "Engine.__init__" (defScope s_Engine_init) f_ cdv_ A outer s_ H E).nox.prog (cxOf CX0 P w K mg base ["self", "yard", "row", "dealing"] "Engine.__init__" (defScope s_Engine_init) f_ cdv_ A outer s_ H E).nox.w (cxOf CX0 P w K mg base ["self", "yard", "row", "dealing"] "Engine.__init__" (defScope s_Engine_init) f_ cdv_ A outer s_ H E).nox.K (cxOf CX0 P w K mg base ["self", "yard", "row", "dealing"] "Engine.__init__" (defScope s_Engine_init) f_ cdv_ A outer s_ H E).nox.mg (cxOf CX0 P w K mg base ["self", "yard", "row", "dealing"] "Engine.__init__" (defScope s_Engine_init) f_ cdv_ A outer s_ H E).nox.base 1 "tracks_of" ["row", "dealing"] S_tracks_of := D4
  have dD5 : DefOk (cxOf CX0 P w K mg base ["self", "yard", "row", "dealing"] "Engine.__init__" (defScope s_Engine_init) f_ cdv_ A outer s_ H E).nox.prog (cxOf CX0 P w K mg base ["self", "yard", "row", "dealing"] "Engine.__init__" (defScope s_Engine_init) f_ cdv_ A outer s_ H E).nox.w (cxOf CX0 P w K mg base ["self", "yard", "row", "dealing"] "Engine.__init__" (defScope s_Engine_init) f_ cdv_ A outer s_ H E).nox.K (cxOf CX0 P w K mg base ["self", "yard", "row", "dealing"] "Engine.__init__" (defScope s_Engine_init) f_ cdv_ A outer s_ H E).nox.mg (cxOf CX0 P w K mg base ["self", "yard", "row", "dealing"] "Engine.__init__" (defScope s_Engine_init) f_ cdv_ A outer s_ H E).nox.base 1 "first_stand" ["yard", "row"] S_first_stand := D5
  obtain ⟨p, y, r, d, rfl, hy, hr', hd, hR⟩ := h
  walk_at "go"
  refine ⟨y, rfl, hy, ?_⟩
  walk_at "go"
  refine ⟨r, rfl, hr', ?_⟩
  walk_at "go"
  refine ⟨y, r, d, rfl, hy, hr', hd, ?_⟩
  walk_at "go"
  refine ⟨r, d, rfl, hr', hd.len, fun q => ?_⟩
  walk_at "go"
  refine ⟨y, r, rfl, hy.k1, hy.k2, hy.l1, hy.l2, ?_⟩
  walk_at "go"
  exact ⟨by walk_at "bk", hR⟩
def S_Engine_again : Spec := fun cs R => ∃ y r d j s j', cs = [.dat (dY y), .dat (dL r), .dat (dL d), .dat (dJ j), .dat (dS s)] ∧ YdOk y ∧ RowOk r ∧ DealOk y r d ∧ AllCan y (beg y r) j ∧ StOk y r s ∧ Opens y r j s j' ∧ ∀ p, R cs (.new (.ins p (eng y (tks r d) s j')))
theorem sc_Engine_again : FnScope ["yard", "row", "dealing", "journal", "stand", "engine"] ["yard", "row", "dealing", "journal", "stand"] (defScope s_Engine_again) := ⟨rfl, rfl, rfl, by decide +kernel, rfl, by decide +kernel, by decide +kernel⟩
theorem ok_Engine_again (g : GS K mg "again" "Engine.again" s_Engine_again) (cl : Cls K (engC K)) (a3 : NoAttr K (engC K) "here") (a4 : NoAttr K (engC K) "entries") (M1 : MkOk P w K mg base 6 ["self", "yard", "row", "dealing"] S_Engine_init) (D1 : DefOk P w K mg base 8 "opened" ["yard", "row", "journal", "stand"] S_opened) : StaOk P w K mg base 9 "again" ["yard", "row", "dealing", "journal", "stand"] S_Engine_again := by
  refine staD g sc_Engine_again (by decide) (fun _ _ _ _ _ _ us hl => match us, hl with | [_, _, _, _, _], _ => rfl) (fun cs R h => ?_) fun f_ cdv_ A outer s_ H E cs R hr h => ?_
  · obtain ⟨y, r, d, j, s, j', rfl, _⟩ := h
    rfl
  have hN : (["yard", "row", "dealing", "journal", "stand", "engine"] : List Str).Nodup := by decide +kernel
  have nm0 : NmOk (cxOf CX0 P w K mg base ["yard", "row", "dealing", "journal", "stand", "engine"] "Engine.again" (defScope s_Engine_again) f_ cdv_ A outer s_ H E).nox 0 "yard" := ⟨rfl, by first | exact Or.inl rfl | exact Or.inr (Or.inl rfl) | exact Or.inr (Or.inr rfl), by decide, by decide⟩
  have lc0 : LcOk (cxOf CX0 P w K mg base ["yard", "row", "dealing", "journal", "stand", "engine"] "Engine.again" (defScope s_Engine_again) f_ cdv_ A outer s_ H E).nox 0 "yard" := ⟨rfl, by first | exact Or.inl rfl | exact Or.inr rfl, by first | exact Or.inl rfl | exact Or.inr rfl⟩
  have nm1 : NmOk (cxOf CX0 P w K mg base ["yard", "row", "dealing", "journal", "stand", "engine"] "Engine.again" (defScope s_Engine_again) f_ cdv_ A outer s_ H E).nox 1 "row" := ⟨rfl, by first | exact Or.inl rfl | exact Or.inr (Or.inl rfl) | exact Or.inr (Or.inr rfl), by decide, by decide⟩
  have lc1 : LcOk (cxOf CX0 P w K mg base ["yard", "row", "dealing", "journal", "stand", "engine"] "Engine.again" (defScope s_Engine_again) f_ cdv_ A outer s_ H E).nox 1 "row" := ⟨rfl, by first | exact Or.inl rfl | exact Or.inr rfl, by first | exact Or.inl rfl | exact Or.inr rfl⟩
  have nm2 : NmOk (cxOf CX0 P w K mg base ["yard", "row", "dealing", "journal", "stand", "engine"] "Engine.again" (defScope s_Engine_again) f_ cdv_ A outer s_ H E).nox 2 "dealing" := ⟨rfl, by first | exact Or.inl rfl | exact Or.inr (Or.inl rfl) | exact Or.inr (Or.inr rfl), by decide, by decide⟩
  have lc2 : LcOk (cxOf CX0 P w K mg base ["yard", "row", "dealing", "journal", "stand", "engine"] "Engine.again" (defScope s_Engine_again) f_ cdv_ A outer s_ H E).nox 2 "dealing" := ⟨rfl, by first | exact Or.inl rfl | exact Or.inr rfl, by first | exact Or.inl rfl | exact Or.inr rfl⟩
  have nm3 : NmOk (cxOf CX0 P w K mg base ["yard", "row", "dealing", "journal", "stand", "engine"] "Engine.again" (defScope s_Engine_again) f_ cdv_ A outer s_ H E).nox 3 "journal" := ⟨rfl, by first | exact Or.inl rfl | exact Or.inr (Or.inl rfl) | exact Or.inr (Or.inr rfl), by decide, by decide⟩
  have lc3 : LcOk (cxOf CX0 P w K mg base ["yard", "row", "dealing", "journal", "stand", "engine"] "Engine.again" (defScope s_Engine_again) f_ cdv_ A outer s_ H E).nox 3 "journal" := ⟨rfl, by first | exact Or.inl rfl | exact Or.inr rfl, by first | exact Or.inl rfl | exact Or.inr rfl⟩
  have nm4 : NmOk (cxOf CX0 P w K mg base ["yard", "row", "dealing", "journal", "stand", "engine"] "Engine.again" (defScope s_Engine_again) f_ cdv_ A outer s_ H E).nox 4 "stand" := ⟨rfl, by first | exact Or.inl rfl | exact Or.inr (Or.inl rfl) | exact Or.inr (Or.inr rfl), by decide, by decide⟩
  have lc4 : LcOk (cxOf CX0 P w K mg base ["yard", "row", "dealing", "journal", "stand", "engine"] "Engine.again" (defScope s_Engine_again) f_ cdv_ A outer s_ H E).nox 4 "stand" := ⟨rfl, by first | exact Or.inl rfl | exact Or.inr rfl, by first | exact Or.inl rfl | exact Or.inr rfl⟩
  have nm5 : NmOk (cxOf CX0 P w K mg base ["yard", "row", "dealing", "journal", "stand", "engine"] "Engine.again" (defScope s_Engine_again) f_ cdv_ A outer s_ H E).nox 5 "engine" := ⟨rfl, by first | exact Or.inl rfl | exact Or.inr (Or.inl rfl) | exact Or.inr (Or.inr rfl), by decide, by decide⟩
  have lc5 : LcOk (cxOf CX0 P w K mg base ["yard", "row", "dealing", "journal", "stand", "engine"] "Engine.again" (defScope s_Engine_again) f_ cdv_ A outer s_ H E).nox 5 "engine" := ⟨rfl, by first | exact Or.inl rfl | exact Or.inr rfl, by first | exact Or.inl rfl | exact Or.inr rfl⟩
  have dD1 : DefOk (cxOf CX0 P w K mg base ["yard", "row", "dealing", "journal", "stand", "engine"] "Engine.again" (defScope s_Engine_again) f_ cdv_ A outer s_ H E).nox.prog (cxOf CX0 P w K mg base ["yard", "row", "dealing", "journal", "stand", "engine"] "Engine.again" (defScope s_Engine_again) f_ cdv_ A outer s_ H E).nox.w (cxOf CX0 P w K mg base ["yard", "row", "dealing", "journal", "stand", "engine"] "Engine.again" (defScope s_Engine_again) f_ cdv_ A outer s_ H E).nox.K (cxOf CX0 P w K mg base ["yard", "row", "dealing", "journal", "stand", "engine"] "Engine.again" (defScope s_Engine_again) f_ cdv_ A outer s_ H E).nox.mg (cxOf CX0 P w K mg base ["yard", "row", "dealing", "journal", "stand", "engine"] "Engine.again" (defScope s_Engine_again) f_ cdv_ A outer s_ H E).nox.base 8 "opened" ["yard", "row", "journal", "stand"] S_opened := D1
  obtain ⟨y, r, d, j, s, j', rfl, hy, hr', hd, hj, hs, ho, hR⟩ := h
  walk_at "x"
  walk_at "x"
  refine je_makeD (by assumption) (Room.mono (by assumption) (by decide)) ?_ rfl rfl rfl
  walk_at "go"
  refine ⟨_, rfl, fun p => ⟨p, y, r, d, rfl, hy, hr', hd, _, rfl, rfl, ?_⟩⟩
  walk_at "go"
  refine ⟨y, r, j, s, j', rfl, hy, hr', hj, hs, ho, ?_⟩
  walk_at "go"
  exact ⟨by walk_at "bk", Nat.le_of_ble_eq_true rfl, _, rfl, hR p⟩

end
end
section
local macro_rules | `(tactic| walk_at "e") => `(tactic| first
  | ((with_reducible refine isAt ?_); first | refine je_attr 0 (by assumption) (by assumption) rfl rfl ?_ rfl (by first | exact Or.inl rfl | exact Or.inr (Or.inl rfl) | exact Or.inr (Or.inr rfl)) (by decide) (by decide) rfl | refine je_attr 4 (by assumption) (by assumption) rfl rfl ?_ rfl (by first | exact Or.inl rfl | exact Or.inr (Or.inl rfl) | exact Or.inr (Or.inr rfl)) (by decide) (by decide) rfl | refine je_attr 5 (by assumption) (by assumption) rfl rfl ?_ rfl (by first | exact Or.inl rfl | exact Or.inr (Or.inl rfl) | exact Or.inr (Or.inr rfl)) (by decide) (by decide) rfl | refine je_attr 8 (by assumption) (by assumption) rfl rfl ?_ rfl (by first | exact Or.inl rfl | exact Or.inr (Or.inl rfl) | exact Or.inr (Or.inr rfl)) (by decide) (by decide) rfl)
  | ((with_reducible refine isMc ?_); first | refine je_meth0D 0 (by assumption) (by assumption) (Room.mono (by assumption) (by decide)) rfl rfl ?_ rfl (by first | exact Or.inl rfl | exact Or.inr (Or.inl rfl) | exact Or.inr (Or.inr rfl)) (by decide) (by decide) rfl | refine je_methD 0 (by assumption) (by assumption) (Room.mono (by assumption) (by decide)) rfl rfl ?_ rfl (by first | exact Or.inl rfl | exact Or.inr (Or.inl rfl) | exact Or.inr (Or.inr rfl)) (by decide) (by decide) rfl rfl rfl | refine je_meth0D 4 (by assumption) (by assumption) (Room.mono (by assumption) (by decide)) rfl rfl ?_ rfl (by first | exact Or.inl rfl | exact Or.inr (Or.inl rfl) | exact Or.inr (Or.inr rfl)) (by decide) (by decide) rfl | refine je_methD 4 (by assumption) (by assumption) (Room.mono (by assumption) (by decide)) rfl rfl ?_ rfl (by first | exact Or.inl rfl | exact Or.inr (Or.inl rfl) | exact Or.inr (Or.inr rfl)) (by decide) (by decide) rfl rfl rfl | refine je_meth0D 8 (by assumption) (by assumption) (Room.mono (by assumption) (by decide)) rfl rfl ?_ rfl (by first | exact Or.inl rfl | exact Or.inr (Or.inl rfl) | exact Or.inr (Or.inr rfl)) (by decide) (by decide) rfl | refine je_methD 8 (by assumption) (by assumption) (Room.mono (by assumption) (by decide)) rfl rfl ?_ rfl (by first | exact Or.inl rfl | exact Or.inr (Or.inl rfl) | exact Or.inr (Or.inr rfl)) (by decide) (by decide) rfl rfl rfl))
local macro_rules | `(tactic| walk_at "s") => `(tactic| first
  | ((with_reducible refine isAs ?_); first | refine js_attr 0 (by assumption) (by assumption) ?_ rfl (by first | exact Or.inl rfl | exact Or.inr (Or.inl rfl) | exact Or.inr (Or.inr rfl)) (by decide) (by decide) rfl | refine js_attr 5 (by assumption) (by assumption) ?_ rfl (by first | exact Or.inl rfl | exact Or.inr (Or.inl rfl) | exact Or.inr (Or.inr rfl)) (by decide) (by decide) rfl)
  | refine js_retN ?_)
local macro_rules | `(tactic| walk_at "c") => `(tactic| first | refine exC rfl (celND rfl) ?_ | refine exAt rfl rfl ?_)
local macro_rules | `(tactic| walk_at "x") => `(tactic| (refine isN ?_; first | refine jn_cons ?_ rfl | refine jn_nil ?_))
section
variable {P : Program} {w : World} {K : PySem.W.Frag} {mg : Str → Option Value} {base : Heap}
def pick (v : List Nat) (f : List Mv) : Nat := if f.length < v.length then v.getD f.length 0 else 0
def nxt (y : Yd) (tk v : List Nat) (f : List Mv) (s : Sd) : Mv := (greens y tk s).getD (pick v f % (greens y tk s).length) ⟨.inn, 0⟩
/-- the run: take the picked green move, as long as there is one -/
inductive RunN (y : Yd) (tk v : List Nat) : Nat → List Mv → Sd → List Mv → Sd → Prop where
  | stop {f : List Mv} {s : Sd} (h : greens y tk s = []) : RunN y tk v 0 f s f s
  | go {n : Nat} {f F : List Mv} {s S : Sd} (h : greens y tk s ≠ []) (t : RunN y tk v n (f ++ [nxt y tk v f s]) (step y s (nxt y tk v f s)) F S) : RunN y tk v (n + 1) f s F S
/-- what the run needs: a property that holds at each stand -/
structure Flow (y : Yd) (tk : List Nat) (I : Sd → Prop) : Prop where
  shp : ∀ s, I s → Shp y s
  tko : ∀ s, I s → TkOk y tk s
  can : ∀ s m, I s → m ∈ greens y tk s → Can y s m
  next : ∀ s m, I s → m ∈ greens y tk s → I (step y s m)
theorem RunN.len {y : Yd} {tk v : List Nat} {n : Nat} {f F : List Mv} {s S : Sd} (h : RunN y tk v n f s F S) : f.length + n = F.length := by
  induction h with
  | stop h => rfl
  | go h t ih =>
    rw [List.length_append, List.length_singleton] at ih
    omega
theorem nxt_at {y : Yd} {tk v : List Nat} {f : List Mv} {s : Sd} (h : greens y tk s ≠ []) : (greens y tk s)[pick v f % (greens y tk s).length]? = some (nxt y tk v f s) := by
  have l : 0 < (greens y tk s).length := List.length_pos_iff.mpr h
  have l2 := Nat.mod_lt (pick v f) l
  unfold nxt
  rw [List.getD_eq_getElem?_getD, List.getElem?_eq_getElem l2]
  rfl
def S_run : Spec := fun cs R => ∃ (y : Yd) (r d v : List Nat) (F : List Mv) (S : Sd) (n : Nat) (I : Sd → Prop), cs = [.dat (dY y), .dat (dL r), .dat (dL d), .dat (dL v)] ∧ YdOk y ∧ RowOk r ∧ DealOk y r d ∧ v.length ≤ 1000 ∧ Flow y (tks r d) I ∧ I (beg y r) ∧ n ≤ 1000 ∧ RunN y (tks r d) v n [] (beg y r) F S ∧ R cs (.dat (.tuple [dJ F, dS S]))
theorem sc_run : FnScope ["yard", "row", "dealing", "picks", "tracks", "stand", "found", "moves", "pick"] ["yard", "row", "dealing", "picks"] (defScope s_run) := ⟨rfl, rfl, rfl, by decide +kernel, rfl, by decide +kernel, by decide +kernel⟩
theorem ok_run (g : GD K mg "run" s_run) (m1 : mg "len" = none) (m2 : mg "tuple" = none) (D1 : DefOk P w K mg base 4 "made_yard" ["thing"] S_made_yard) (D2 : DefOk P w K mg base 2 "made_row" ["thing"] S_made_row) (D3 : DefOk P w K mg base 5 "made_dealing" ["yard", "row", "thing"] S_made_dealing) (D4 : DefOk P w K mg base 1 "tracks_of" ["row", "dealing"] S_tracks_of) (D5 : DefOk P w K mg base 1 "first_stand" ["yard", "row"] S_first_stand) (D6 : DefOk P w K mg base 1 "check_picks" ["thing"] S_check_picks) (D7 : DefOk P w K mg base 2 "green_moves" ["yard", "tracks", "stand"] S_green_moves) (D8 : DefOk P w K mg base 5 "after_move" ["yard", "stand", "move"] S_after_move) : DefOk P w K mg base 6 "run" ["yard", "row", "dealing", "picks"] S_run := by
  refine defD g sc_run (by decide) (fun _ _ _ _ _ _ us hl => match us, hl with | [_, _, _, _], _ => rfl) (fun cs R h => ?_) fun f_ cdv_ A outer s_ H E cs R hr h => ?_
  · obtain ⟨y, r, d, v, F, S, n, I, rfl, _⟩ := h
    rfl
  have hN : (["yard", "row", "dealing", "picks", "tracks", "stand", "found", "moves", "pick"] : List Str).Nodup := by decide +kernel
  have nm0 : NmOk (cxOf CX0 P w K mg base ["yard", "row", "dealing", "picks", "tracks", "stand", "found", "moves", "pick"] "run" (defScope s_run) f_ cdv_ A outer s_ H E).nox 0 "yard" := ⟨rfl, by first | exact Or.inl rfl | exact Or.inr (Or.inl rfl) | exact Or.inr (Or.inr rfl), by decide, by decide⟩
  have lc0 : LcOk (cxOf CX0 P w K mg base ["yard", "row", "dealing", "picks", "tracks", "stand", "found", "moves", "pick"] "run" (defScope s_run) f_ cdv_ A outer s_ H E).nox 0 "yard" := ⟨rfl, by first | exact Or.inl rfl | exact Or.inr rfl, by first | exact Or.inl rfl | exact Or.inr rfl⟩
  have nm1 : NmOk (cxOf CX0 P w K mg base ["yard", "row", "dealing", "picks", "tracks", "stand", "found", "moves", "pick"] "run" (defScope s_run) f_ cdv_ A outer s_ H E).nox 1 "row" := ⟨rfl, by first | exact Or.inl rfl | exact Or.inr (Or.inl rfl) | exact Or.inr (Or.inr rfl), by decide, by decide⟩
  have lc1 : LcOk (cxOf CX0 P w K mg base ["yard", "row", "dealing", "picks", "tracks", "stand", "found", "moves", "pick"] "run" (defScope s_run) f_ cdv_ A outer s_ H E).nox 1 "row" := ⟨rfl, by first | exact Or.inl rfl | exact Or.inr rfl, by first | exact Or.inl rfl | exact Or.inr rfl⟩
  have nm2 : NmOk (cxOf CX0 P w K mg base ["yard", "row", "dealing", "picks", "tracks", "stand", "found", "moves", "pick"] "run" (defScope s_run) f_ cdv_ A outer s_ H E).nox 2 "dealing" := ⟨rfl, by first | exact Or.inl rfl | exact Or.inr (Or.inl rfl) | exact Or.inr (Or.inr rfl), by decide, by decide⟩
  have lc2 : LcOk (cxOf CX0 P w K mg base ["yard", "row", "dealing", "picks", "tracks", "stand", "found", "moves", "pick"] "run" (defScope s_run) f_ cdv_ A outer s_ H E).nox 2 "dealing" := ⟨rfl, by first | exact Or.inl rfl | exact Or.inr rfl, by first | exact Or.inl rfl | exact Or.inr rfl⟩
  have nm3 : NmOk (cxOf CX0 P w K mg base ["yard", "row", "dealing", "picks", "tracks", "stand", "found", "moves", "pick"] "run" (defScope s_run) f_ cdv_ A outer s_ H E).nox 3 "picks" := ⟨rfl, by first | exact Or.inl rfl | exact Or.inr (Or.inl rfl) | exact Or.inr (Or.inr rfl), by decide, by decide⟩
  have lc3 : LcOk (cxOf CX0 P w K mg base ["yard", "row", "dealing", "picks", "tracks", "stand", "found", "moves", "pick"] "run" (defScope s_run) f_ cdv_ A outer s_ H E).nox 3 "picks" := ⟨rfl, by first | exact Or.inl rfl | exact Or.inr rfl, by first | exact Or.inl rfl | exact Or.inr rfl⟩
  have nm4 : NmOk (cxOf CX0 P w K mg base ["yard", "row", "dealing", "picks", "tracks", "stand", "found", "moves", "pick"] "run" (defScope s_run) f_ cdv_ A outer s_ H E).nox 4 "tracks" := ⟨rfl, by first | exact Or.inl rfl | exact Or.inr (Or.inl rfl) | exact Or.inr (Or.inr rfl), by decide, by decide⟩
  have lc4 : LcOk (cxOf CX0 P w K mg base ["yard", "row", "dealing", "picks", "tracks", "stand", "found", "moves", "pick"] "run" (defScope s_run) f_ cdv_ A outer s_ H E).nox 4 "tracks" := ⟨rfl, by first | exact Or.inl rfl | exact Or.inr rfl, by first | exact Or.inl rfl | exact Or.inr rfl⟩
  have nm5 : NmOk (cxOf CX0 P w K mg base ["yard", "row", "dealing", "picks", "tracks", "stand", "found", "moves", "pick"] "run" (defScope s_run) f_ cdv_ A outer s_ H E).nox 5 "stand" := ⟨rfl, by first | exact Or.inl rfl | exact Or.inr (Or.inl rfl) | exact Or.inr (Or.inr rfl), by decide, by decide⟩
  have lc5 : LcOk (cxOf CX0 P w K mg base ["yard", "row", "dealing", "picks", "tracks", "stand", "found", "moves", "pick"] "run" (defScope s_run) f_ cdv_ A outer s_ H E).nox 5 "stand" := ⟨rfl, by first | exact Or.inl rfl | exact Or.inr rfl, by first | exact Or.inl rfl | exact Or.inr rfl⟩
  have nm6 : NmOk (cxOf CX0 P w K mg base ["yard", "row", "dealing", "picks", "tracks", "stand", "found", "moves", "pick"] "run" (defScope s_run) f_ cdv_ A outer s_ H E).nox 6 "found" := ⟨rfl, by first | exact Or.inl rfl | exact Or.inr (Or.inl rfl) | exact Or.inr (Or.inr rfl), by decide, by decide⟩
  have lc6 : LcOk (cxOf CX0 P w K mg base ["yard", "row", "dealing", "picks", "tracks", "stand", "found", "moves", "pick"] "run" (defScope s_run) f_ cdv_ A outer s_ H E).nox 6 "found" := ⟨rfl, by first | exact Or.inl rfl | exact Or.inr rfl, by first | exact Or.inl rfl | exact Or.inr rfl⟩
  have nm7 : NmOk (cxOf CX0 P w K mg base ["yard", "row", "dealing", "picks", "tracks", "stand", "found", "moves", "pick"] "run" (defScope s_run) f_ cdv_ A outer s_ H E).nox 7 "moves" := ⟨rfl, by first | exact Or.inl rfl | exact Or.inr (Or.inl rfl) | exact Or.inr (Or.inr rfl), by decide, by decide⟩
  have lc7 : LcOk (cxOf CX0 P w K mg base ["yard", "row", "dealing", "picks", "tracks", "stand", "found", "moves", "pick"] "run" (defScope s_run) f_ cdv_ A outer s_ H E).nox 7 "moves" := ⟨rfl, by first | exact Or.inl rfl | exact Or.inr rfl, by first | exact Or.inl rfl | exact Or.inr rfl⟩
  have nm8 : NmOk (cxOf CX0 P w K mg base ["yard", "row", "dealing", "picks", "tracks", "stand", "found", "moves", "pick"] "run" (defScope s_run) f_ cdv_ A outer s_ H E).nox 8 "pick" := ⟨rfl, by first | exact Or.inl rfl | exact Or.inr (Or.inl rfl) | exact Or.inr (Or.inr rfl), by decide, by decide⟩
  have lc8 : LcOk (cxOf CX0 P w K mg base ["yard", "row", "dealing", "picks", "tracks", "stand", "found", "moves", "pick"] "run" (defScope s_run) f_ cdv_ A outer s_ H E).nox 8 "pick" := ⟨rfl, by first | exact Or.inl rfl | exact Or.inr rfl, by first | exact Or.inl rfl | exact Or.inr rfl⟩
  have dD1 : DefOk (cxOf CX0 P w K mg base ["yard", "row", "dealing", "picks", "tracks", "stand", "found", "moves", "pick"] "run" (defScope s_run) f_ cdv_ A outer s_ H E).nox.prog (cxOf CX0 P w K mg base ["yard", "row", "dealing", "picks", "tracks", "stand", "found", "moves", "pick"] "run" (defScope s_run) f_ cdv_ A outer s_ H E).nox.w (cxOf CX0 P w K mg base ["yard", "row", "dealing", "picks", "tracks", "stand", "found", "moves", "pick"] "run" (defScope s_run) f_ cdv_ A outer s_ H E).nox.K (cxOf CX0 P w K mg base ["yard", "row", "dealing", "picks", "tracks", "stand", "found", "moves", "pick"] "run" (defScope s_run) f_ cdv_ A outer s_ H E).nox.mg (cxOf CX0 P w K mg base ["yard", "row", "dealing", "picks", "tracks", "stand", "found", "moves", "pick"] "run" (defScope s_run) f_ cdv_ A outer s_ H E).nox.base 4 "made_yard" ["thing"] S_made_yard := D1
  have dD2 : DefOk (cxOf CX0 P w K mg base ["yard", "row", "dealing", "picks", "tracks", "stand", "found", "moves", "pick"] "run" (defScope s_run) f_ cdv_ A outer s_ H E).nox.prog (cxOf CX0 P w K mg base ["yard", "row", "dealing", "picks", "tracks", "stand", "found", "moves", "pick"] "run" (defScope s_run) f_ cdv_ A outer s_ H E).nox.w (cxOf CX0 P w K mg base ["yard", "row", "dealing", "picks", "tracks", "stand", "found", "moves", "pick"] "run" (defScope s_run) f_ cdv_ A outer s_ H E).nox.K (cxOf CX0 P w K mg base ["yard", "row", "dealing", "picks", "tracks", "stand", "found", "moves", "pick"] "run" (defScope s_run) f_ cdv_ A outer s_ H E).nox.mg (cxOf CX0 P w K mg base ["yard", "row", "dealing", "picks", "tracks", "stand", "found", "moves", "pick"] "run" (defScope s_run) f_ cdv_ A outer s_ H E).nox.base 2 "made_row" ["thing"] S_made_row := D2
  have dD3 : DefOk (cxOf CX0 P w K mg base ["yard", "row", "dealing", "picks", "tracks", "stand", "found", "moves", "pick"] "run" (defScope s_run) f_ cdv_ A outer s_ H E).nox.prog (cxOf CX0 P w K mg base ["yard", "row", "dealing", "picks", "tracks", "stand", "found", "moves", "pick"] "run" (defScope s_run) f_ cdv_ A outer s_ H E).nox.w (cxOf CX0 P w K mg base ["yard", "row", "dealing", "picks", "tracks", "stand", "found", "moves", "pick"] "run" (defScope s_run) f_ cdv_ A outer s_ H E).nox.K (cxOf CX0 P w K mg base ["yard", "row", "dealing", "picks", "tracks", "stand", "found", "moves", "pick"] "run" (defScope s_run) f_ cdv_ A outer s_ H E).nox.mg (cxOf CX0 P w K mg base ["yard", "row", "dealing", "picks", "tracks", "stand", "found", "moves", "pick"] "run" (defScope s_run) f_ cdv_ A outer s_ H E).nox.base 5 "made_dealing" ["yard", "row", "thing"] S_made_dealing := D3
  have dD4 : DefOk (cxOf CX0 P w K mg base ["yard", "row", "dealing", "picks", "tracks", "stand", "found", "moves", "pick"] "run" (defScope s_run) f_ cdv_ A outer s_ H E).nox.prog (cxOf CX0 P w K mg base ["yard", "row", "dealing", "picks", "tracks", "stand", "found", "moves", "pick"] "run" (defScope s_run) f_ cdv_ A outer s_ H E).nox.w (cxOf CX0 P w K mg base ["yard", "row", "dealing", "picks", "tracks", "stand", "found", "moves", "pick"] "run" (defScope s_run) f_ cdv_ A outer s_ H E).nox.K (cxOf CX0 P w K mg base ["yard", "row", "dealing", "picks", "tracks", "stand", "found", "moves", "pick"] "run" (defScope s_run) f_ cdv_ A outer s_ H E).nox.mg (cxOf CX0 P w K mg base ["yard", "row", "dealing", "picks", "tracks", "stand", "found", "moves", "pick"] "run" (defScope s_run) f_ cdv_ A outer s_ H E).nox.base 1 "tracks_of" ["row", "dealing"] S_tracks_of := D4
  have dD5 : DefOk (cxOf CX0 P w K mg base ["yard", "row", "dealing", "picks", "tracks", "stand", "found", "moves", "pick"] "run" (defScope s_run) f_ cdv_ A outer s_ H E).nox.prog (cxOf CX0 P w K mg base ["yard", "row", "dealing", "picks", "tracks", "stand", "found", "moves", "pick"] "run" (defScope s_run) f_ cdv_ A outer s_ H E).nox.w (cxOf CX0 P w K mg base ["yard", "row", "dealing", "picks", "tracks", "stand", "found", "moves", "pick"] "run" (defScope s_run) f_ cdv_ A outer s_ H E).nox.K (cxOf CX0 P w K mg base ["yard", "row", "dealing", "picks", "tracks", "stand", "found", "moves", "pick"] "run" (defScope s_run) f_ cdv_ A outer s_ H E).nox.mg (cxOf CX0 P w K mg base ["yard", "row", "dealing", "picks", "tracks", "stand", "found", "moves", "pick"] "run" (defScope s_run) f_ cdv_ A outer s_ H E).nox.base 1 "first_stand" ["yard", "row"] S_first_stand := D5
  have dD6 : DefOk (cxOf CX0 P w K mg base ["yard", "row", "dealing", "picks", "tracks", "stand", "found", "moves", "pick"] "run" (defScope s_run) f_ cdv_ A outer s_ H E).nox.prog (cxOf CX0 P w K mg base ["yard", "row", "dealing", "picks", "tracks", "stand", "found", "moves", "pick"] "run" (defScope s_run) f_ cdv_ A outer s_ H E).nox.w (cxOf CX0 P w K mg base ["yard", "row", "dealing", "picks", "tracks", "stand", "found", "moves", "pick"] "run" (defScope s_run) f_ cdv_ A outer s_ H E).nox.K (cxOf CX0 P w K mg base ["yard", "row", "dealing", "picks", "tracks", "stand", "found", "moves", "pick"] "run" (defScope s_run) f_ cdv_ A outer s_ H E).nox.mg (cxOf CX0 P w K mg base ["yard", "row", "dealing", "picks", "tracks", "stand", "found", "moves", "pick"] "run" (defScope s_run) f_ cdv_ A outer s_ H E).nox.base 1 "check_picks" ["thing"] S_check_picks := D6
  have dD7 : DefOk (cxOf CX0 P w K mg base ["yard", "row", "dealing", "picks", "tracks", "stand", "found", "moves", "pick"] "run" (defScope s_run) f_ cdv_ A outer s_ H E).nox.prog (cxOf CX0 P w K mg base ["yard", "row", "dealing", "picks", "tracks", "stand", "found", "moves", "pick"] "run" (defScope s_run) f_ cdv_ A outer s_ H E).nox.w (cxOf CX0 P w K mg base ["yard", "row", "dealing", "picks", "tracks", "stand", "found", "moves", "pick"] "run" (defScope s_run) f_ cdv_ A outer s_ H E).nox.K (cxOf CX0 P w K mg base ["yard", "row", "dealing", "picks", "tracks", "stand", "found", "moves", "pick"] "run" (defScope s_run) f_ cdv_ A outer s_ H E).nox.mg (cxOf CX0 P w K mg base ["yard", "row", "dealing", "picks", "tracks", "stand", "found", "moves", "pick"] "run" (defScope s_run) f_ cdv_ A outer s_ H E).nox.base 2 "green_moves" ["yard", "tracks", "stand"] S_green_moves := D7
  have dD8 : DefOk (cxOf CX0 P w K mg base ["yard", "row", "dealing", "picks", "tracks", "stand", "found", "moves", "pick"] "run" (defScope s_run) f_ cdv_ A outer s_ H E).nox.prog (cxOf CX0 P w K mg base ["yard", "row", "dealing", "picks", "tracks", "stand", "found", "moves", "pick"] "run" (defScope s_run) f_ cdv_ A outer s_ H E).nox.w (cxOf CX0 P w K mg base ["yard", "row", "dealing", "picks", "tracks", "stand", "found", "moves", "pick"] "run" (defScope s_run) f_ cdv_ A outer s_ H E).nox.K (cxOf CX0 P w K mg base ["yard", "row", "dealing", "picks", "tracks", "stand", "found", "moves", "pick"] "run" (defScope s_run) f_ cdv_ A outer s_ H E).nox.mg (cxOf CX0 P w K mg base ["yard", "row", "dealing", "picks", "tracks", "stand", "found", "moves", "pick"] "run" (defScope s_run) f_ cdv_ A outer s_ H E).nox.base 5 "after_move" ["yard", "stand", "move"] S_after_move := D8
  obtain ⟨y, r, d, v, F, S, n, I, rfl, hy, hr', hd, hv, hF, hI, hn, hrun, hR⟩ := h
  walk_at "go"
  refine ⟨y, rfl, hy, ?_⟩
  walk_at "go"
  refine ⟨r, rfl, hr', ?_⟩
  walk_at "go"
  refine ⟨y, r, d, rfl, hy, hr', hd, ?_⟩
  walk_at "go"
  refine ⟨v, rfl, hv, ?_⟩
  walk_at "go"
  refine js_par3 4 5 6 (by decide) (by decide) (by decide) ?_ rfl hN rfl rfl rfl rfl rfl rfl rfl rfl
  walk_at "go"
  refine ⟨r, d, rfl, hr', hd.len, fun q => ?_⟩
  walk_at "go"
  refine ⟨y, r, rfl, hy.k1, hy.k2, hy.l1, hy.l2, ?_⟩
  walk_at "go"
  rename_i p
  refine exN3 rfl rfl rfl ?_
  refine jss_freeze 4 rfl ?_
  walk_at "go"
  refine ⟨y, tks r d, beg y r, rfl, hy, hF.shp _ hI, hF.tko _ hI, ?_⟩
  walk_at "go"
  refine js_while (fun n ρ => ∃ f s c, ρ = [some (.dat (dY y)), some (.dat (dL r)), some (.dat (dL d)), some (.dat (dL v)), some (.dat (.list ((tks r d).map dN))), some (.dat (dS s)), some (.own p (f.map dM)), some (.dat (dJ (greens y (tks r d) s))), c] ∧ I s ∧ F.length ≤ 1000 ∧ RunN y (tks r d) v n f s F S) ⟨n, [], beg y r, none, rfl, hI, by have := hrun.len; simp at this; omega, hrun⟩ (fun n ρ1 hi => ?_) PassesOwn.never
  obtain ⟨f, s, c, rfl, hi, hFl, hrn⟩ := hi
  have hlen := hrn.len
  walk_at "go"
  refine Or.inr ⟨cm_J _, cm_nil, fun t ht => ?_⟩
  have e := tNe ht jnil_iff
  cases hrn with
  | stop hg =>
    refine okFe (by rw [e]; simp [hg]) ?_
    walk_at "go"
    exact ⟨by walk_at "bk", hR⟩
  | go hg ht2 =>
    refine okTe (by rw [e]; simp [hg]) ?_
    refine js_mid (fun ρ => ρ = [some (.dat (dY y)), some (.dat (dL r)), some (.dat (dL d)), some (.dat (dL v)), some (.dat (.list ((tks r d).map dN))), some (.dat (dS s)), some (.own p (f.map dM)), some (.dat (dJ (greens y (tks r d) s))), some (.dat (dN (pick v f)))]) ?_ fun ρ hρ => ?_
    · walk_at "go"
      refine okB (fun z => ?_) (fun z => ?_)
      · have z1 : f.length < v.length := by have := of_decide_eq_true z; simp at this; exact this
        obtain ⟨x, hx⟩ : ∃ x, v[f.length]? = some x := ⟨_, List.getElem?_eq_getElem z1⟩
        have hx2 : v[(f.map dM).length]? = some x := by rw [List.length_map]; exact hx
        walk_at "go"
        have ep : pick v f = x := by
          unfold pick
          rw [if_pos z1, List.getD_eq_getElem?_getD, hx]
          rfl
        rw [ep]
        rfl
      · have z1 : ¬ f.length < v.length := by have := of_decide_eq_false z; simp at this; omega
        walk_at "go"
        have ep : pick v f = 0 := by
          unfold pick
          rw [if_neg z1]
        rw [ep]
        rfl
    · subst hρ
      have hgl : 0 < (greens y (tks r d) s).length := List.length_pos_iff.mpr hg
      have hnx := nxt_at (v := v) (f := f) hg
      have hmem := List.mem_of_getElem? hnx
      walk_at "go"
      refine ⟨by simp; omega, ?_⟩
      walk_at "go"
      refine ⟨_, _, _, rfl, rfl, by rw [List.length_map]; exact atI_map (i := pick v f % (greens y (tks r d) s).length) hnx, ?_⟩
      walk_at "go"
      refine ⟨_, _, rfl, by rw [List.length_map]; omega, ?_⟩
      have e1 : f.map dM ++ [dM (nxt y (tks r d) v f s)] = (f ++ [nxt y (tks r d) v f s]).map dM := by simp
      rw [e1]
      walk_at "go"
      refine ⟨_, _, _, rfl, rfl, atI_last, ?_⟩
      walk_at "go"
      refine ⟨y, s, _, rfl, hy, hF.shp _ hi, hF.can _ _ hi hmem, ?_⟩
      walk_at "go"
      have hi2 := hF.next _ _ hi hmem
      refine ⟨y, tks r d, _, rfl, hy, hF.shp _ hi2, hF.tko _ hi2, ?_⟩
      walk_at "go"
      exact ⟨_, Nat.lt_succ_self _, _, _, some (.dat (dN (pick v f))), rfl, hi2, hFl, ht2⟩

end
end
section
local macro_rules | `(tactic| walk_at "e") => `(tactic| first
  | ((with_reducible refine isAt ?_); first | refine je_attr 0 (by assumption) (by assumption) rfl rfl ?_ rfl (by first | exact Or.inl rfl | exact Or.inr (Or.inl rfl) | exact Or.inr (Or.inr rfl)) (by decide) (by decide) rfl | refine je_attr 4 (by assumption) (by assumption) rfl rfl ?_ rfl (by first | exact Or.inl rfl | exact Or.inr (Or.inl rfl) | exact Or.inr (Or.inr rfl)) (by decide) (by decide) rfl | refine je_attr 5 (by assumption) (by assumption) rfl rfl ?_ rfl (by first | exact Or.inl rfl | exact Or.inr (Or.inl rfl) | exact Or.inr (Or.inr rfl)) (by decide) (by decide) rfl | refine je_attr 8 (by assumption) (by assumption) rfl rfl ?_ rfl (by first | exact Or.inl rfl | exact Or.inr (Or.inl rfl) | exact Or.inr (Or.inr rfl)) (by decide) (by decide) rfl)
  | ((with_reducible refine isMc ?_); first | refine je_meth0D 0 (by assumption) (by assumption) (Room.mono (by assumption) (by decide)) rfl rfl ?_ rfl (by first | exact Or.inl rfl | exact Or.inr (Or.inl rfl) | exact Or.inr (Or.inr rfl)) (by decide) (by decide) rfl | refine je_methD 0 (by assumption) (by assumption) (Room.mono (by assumption) (by decide)) rfl rfl ?_ rfl (by first | exact Or.inl rfl | exact Or.inr (Or.inl rfl) | exact Or.inr (Or.inr rfl)) (by decide) (by decide) rfl rfl rfl | refine je_meth0D 4 (by assumption) (by assumption) (Room.mono (by assumption) (by decide)) rfl rfl ?_ rfl (by first | exact Or.inl rfl | exact Or.inr (Or.inl rfl) | exact Or.inr (Or.inr rfl)) (by decide) (by decide) rfl | refine je_methD 4 (by assumption) (by assumption) (Room.mono (by assumption) (by decide)) rfl rfl ?_ rfl (by first | exact Or.inl rfl | exact Or.inr (Or.inl rfl) | exact Or.inr (Or.inr rfl)) (by decide) (by decide) rfl rfl rfl | refine je_meth0D 8 (by assumption) (by assumption) (Room.mono (by assumption) (by decide)) rfl rfl ?_ rfl (by first | exact Or.inl rfl | exact Or.inr (Or.inl rfl) | exact Or.inr (Or.inr rfl)) (by decide) (by decide) rfl | refine je_methD 8 (by assumption) (by assumption) (Room.mono (by assumption) (by decide)) rfl rfl ?_ rfl (by first | exact Or.inl rfl | exact Or.inr (Or.inl rfl) | exact Or.inr (Or.inr rfl)) (by decide) (by decide) rfl rfl rfl))
local macro_rules | `(tactic| walk_at "s") => `(tactic| first
  | ((with_reducible refine isAs ?_); first | refine js_attr 0 (by assumption) (by assumption) ?_ rfl (by first | exact Or.inl rfl | exact Or.inr (Or.inl rfl) | exact Or.inr (Or.inr rfl)) (by decide) (by decide) rfl | refine js_attr 5 (by assumption) (by assumption) ?_ rfl (by first | exact Or.inl rfl | exact Or.inr (Or.inl rfl) | exact Or.inr (Or.inr rfl)) (by decide) (by decide) rfl)
  | refine js_retN ?_)
local macro_rules | `(tactic| walk_at "c") => `(tactic| first | refine exC rfl (celND rfl) ?_ | refine exAt rfl rfl ?_)
local macro_rules | `(tactic| walk_at "x") => `(tactic| (refine isN ?_; first | refine jn_cons ?_ rfl | refine jn_nil ?_))
local macro_rules | `(tactic| walk_at "e") => `(tactic| ((with_reducible refine isSb ?_); first | refine je_pol0 0 rfl (by first | exact Or.inl rfl | exact Or.inr (Or.inl rfl) | exact Or.inr (Or.inr rfl)) (by decide) (by decide) rfl ?_ (fun _ _ => rfl) | refine je_pol1 0 rfl (by first | exact Or.inl rfl | exact Or.inr (Or.inl rfl) | exact Or.inr (Or.inr rfl)) (by decide) (by decide) rfl ?_ (fun _ _ => rfl) | refine je_slLo ?_))
local macro_rules | `(tactic| walk_at "e") => `(tactic| ((with_reducible refine isMc ?_); refine je_polPop 0 rfl (by first | exact Or.inl rfl | exact Or.inr (Or.inl rfl) | exact Or.inr (Or.inr rfl)) (by decide) (by decide) rfl ?_ (fun _ _ => rfl) rfl rfl rfl rfl rfl))
local macro_rules | `(tactic| walk_at "t") => `(tactic| refine jt_polNe (Room.units (by assumption)) 0 rfl (by first | exact Or.inl rfl | exact Or.inr (Or.inl rfl) | exact Or.inr (Or.inr rfl)) (by decide) (by decide) rfl ?_ (fun _ _ => rfl) rfl)
local macro_rules | `(tactic| walk_at "s") => `(tactic| first | refine js_pol0 0 ?_ rfl (by first | exact Or.inl rfl | exact Or.inr (Or.inl rfl) | exact Or.inr (Or.inr rfl)) (by decide) (by decide) (fun _ => rfl) rfl rfl rfl | refine js_pol1 0 ?_ rfl (by first | exact Or.inl rfl | exact Or.inr (Or.inl rfl) | exact Or.inr (Or.inr rfl)) (by decide) (by decide) (fun _ => rfl) rfl rfl rfl)
section
variable {P : Program} {w : World} {K : PySem.W.Frag} {mg : Str → Option Value} {base : Heap}
def S_law_pool : Spec := fun cs R => ∃ ns : List Int, cs = [.dat (.list (ns.map .int))] ∧ ∀ p, R cs (.new (.pool p))
theorem sc_law_pool : FnScope ["_law_script", "_law_first", "_law_size"] ["_law_script"] (defScope s_law_pool) := ⟨rfl, rfl, rfl, by decide +kernel, rfl, by decide +kernel, by decide +kernel⟩
theorem ok_law_pool (g : GD K mg "_law_pool" s_law_pool) (m1 : mg "len" = none) (m2 : mg "int" = none) (m3 : mg "list" = none) : DefOk P w K mg base 1 "_law_pool" ["_law_script"] S_law_pool := by
  refine defD g sc_law_pool (by decide) (fun _ _ _ _ _ _ us hl => match us, hl with | [_], _ => rfl) (fun cs R h => ?_) fun f_ cdv_ A outer s_ H E cs R hr h => ?_
  · obtain ⟨ns, rfl, _⟩ := h
    rfl
  have hN : (["_law_script", "_law_first", "_law_size"] : List Str).Nodup := by decide +kernel
  have nm0 : NmOk (cxOf CX0 P w K mg base ["_law_script", "_law_first", "_law_size"] "_law_pool" (defScope s_law_pool) f_ cdv_ A outer s_ H E).nox 0 "_law_script" := ⟨rfl, by first | exact Or.inl rfl | exact Or.inr (Or.inl rfl) | exact Or.inr (Or.inr rfl), by decide, by decide⟩
  have lc0 : LcOk (cxOf CX0 P w K mg base ["_law_script", "_law_first", "_law_size"] "_law_pool" (defScope s_law_pool) f_ cdv_ A outer s_ H E).nox 0 "_law_script" := ⟨rfl, by first | exact Or.inl rfl | exact Or.inr rfl, by first | exact Or.inl rfl | exact Or.inr rfl⟩
  have nm1 : NmOk (cxOf CX0 P w K mg base ["_law_script", "_law_first", "_law_size"] "_law_pool" (defScope s_law_pool) f_ cdv_ A outer s_ H E).nox 1 "_law_first" := ⟨rfl, by first | exact Or.inl rfl | exact Or.inr (Or.inl rfl) | exact Or.inr (Or.inr rfl), by decide, by decide⟩
  have lc1 : LcOk (cxOf CX0 P w K mg base ["_law_script", "_law_first", "_law_size"] "_law_pool" (defScope s_law_pool) f_ cdv_ A outer s_ H E).nox 1 "_law_first" := ⟨rfl, by first | exact Or.inl rfl | exact Or.inr rfl, by first | exact Or.inl rfl | exact Or.inr rfl⟩
  have nm2 : NmOk (cxOf CX0 P w K mg base ["_law_script", "_law_first", "_law_size"] "_law_pool" (defScope s_law_pool) f_ cdv_ A outer s_ H E).nox 2 "_law_size" := ⟨rfl, by first | exact Or.inl rfl | exact Or.inr (Or.inl rfl) | exact Or.inr (Or.inr rfl), by decide, by decide⟩
  have lc2 : LcOk (cxOf CX0 P w K mg base ["_law_script", "_law_first", "_law_size"] "_law_pool" (defScope s_law_pool) f_ cdv_ A outer s_ H E).nox 2 "_law_size" := ⟨rfl, by first | exact Or.inl rfl | exact Or.inr rfl, by first | exact Or.inl rfl | exact Or.inr rfl⟩
  obtain ⟨ns, rfl, hR⟩ := h
  refine js_mid (fun ρ => ∃ a : Int, ρ = [some (.dat (.list (ns.map .int))), some (.dat (.int a)), none]) ?_ fun ρ hρ => ?_
  · cases ns with
    | nil =>
      walk_at "go"
      refine okFe (by simp) ?_
      walk_at "go"
      exact ⟨_, rfl⟩
    | cons n ns =>
      have h0 := at0 (f := PyData.int) (x := n) (xs := ns)
      walk_at "go"
      refine okTe (by simp) ?_
      walk_at "go"
      exact ⟨_, rfl⟩
  · obtain ⟨a, rfl⟩ := hρ
    refine js_mid (fun ρ => ∃ b : Int, 0 ≤ b ∧ ρ = [some (.dat (.list (ns.map .int))), some (.dat (.int a)), some (.dat (.int b))]) ?_ fun ρ hρ => ?_
    · walk_at "go"
      refine okB (fun z => ?_) (fun z => ?_)
      · have z1 : 0 ≤ a := of_decide_eq_true z
        walk_at "go"
        refine ⟨Or.inl ⟨by decide, by decide⟩, ?_⟩
        walk_at "go"
        exact ⟨_, by dsimp only; omega, rfl⟩
      · have z1 : ¬ 0 ≤ a := of_decide_eq_false z
        walk_at "go"
        refine ⟨Or.inl ⟨by decide, by decide⟩, ?_⟩
        walk_at "go"
        exact ⟨_, by dsimp only; omega, rfl⟩
    · obtain ⟨b, hb, rfl⟩ := hρ
      iterate 2 walk_at "x"
      refine je_poolNew ?_
      walk_at "go"
      refine ⟨⟨by decide, by decide, by decide⟩, ?_⟩
      walk_at "go"
      refine okB (fun z => ?_) (fun z => ?_)
      · walk_at "go"
        refine ⟨Or.inr ⟨by decide, by decide⟩, ?_⟩
        walk_at "go"
        refine ⟨by show (0 : Int) < 2147483629; decide, ?_⟩
        walk_at "go"
        exact ⟨_, _, _, ns.drop 1, by rw [cut_lo1], hb, by dsimp only; omega, by dsimp only; omega, fun p => ⟨by walk_at "bk", hR p⟩⟩
      · walk_at "go"
        refine ⟨Or.inr ⟨by decide, by decide⟩, ?_⟩
        walk_at "go"
        refine ⟨by show (0 : Int) < 2147483629; decide, ?_⟩
        walk_at "go"
        exact ⟨_, _, _, ns.drop 1, by rw [cut_lo1], by omega, by dsimp only; omega, by dsimp only; omega, fun p => ⟨by walk_at "bk", hR p⟩⟩
theorem intI {a b : Int} : PyData.int a = .int b ↔ a = b := by simp
def S_law_draw : Spec := fun cs R => ∃ (p : Addr) (n : Nat), cs = [.pool p, .dat (dN n)] ∧ 1 ≤ n ∧ n ≤ 1000000 ∧ ∀ v, v < n → R cs (.dat (dN v))
theorem sc_law_draw : FnScope ["_law_pool_here", "_law_many", "_law_cell", "_law_size", "_law_found"] ["_law_pool_here", "_law_many"] (defScope s_law_draw) := ⟨rfl, rfl, rfl, by decide +kernel, rfl, by decide +kernel, by decide +kernel⟩
theorem ok_law_draw (g : GD K mg "_law_draw" s_law_draw) (m2 : mg "int" = none) : DefOk P w K mg base 1 "_law_draw" ["_law_pool_here", "_law_many"] S_law_draw := by
  refine defD g sc_law_draw (by decide) (fun _ _ _ _ _ _ us hl => match us, hl with | [_, _], _ => rfl) (fun cs R h => ?_) fun f_ cdv_ A outer s_ H E cs R hr h => ?_
  · obtain ⟨p, n, rfl, _⟩ := h
    rfl
  have hN : (["_law_pool_here", "_law_many", "_law_cell", "_law_size", "_law_found"] : List Str).Nodup := by decide +kernel
  have nm0 : NmOk (cxOf CX0 P w K mg base ["_law_pool_here", "_law_many", "_law_cell", "_law_size", "_law_found"] "_law_draw" (defScope s_law_draw) f_ cdv_ A outer s_ H E).nox 0 "_law_pool_here" := ⟨rfl, by first | exact Or.inl rfl | exact Or.inr (Or.inl rfl) | exact Or.inr (Or.inr rfl), by decide, by decide⟩
  have lc0 : LcOk (cxOf CX0 P w K mg base ["_law_pool_here", "_law_many", "_law_cell", "_law_size", "_law_found"] "_law_draw" (defScope s_law_draw) f_ cdv_ A outer s_ H E).nox 0 "_law_pool_here" := ⟨rfl, by first | exact Or.inl rfl | exact Or.inr rfl, by first | exact Or.inl rfl | exact Or.inr rfl⟩
  have nm1 : NmOk (cxOf CX0 P w K mg base ["_law_pool_here", "_law_many", "_law_cell", "_law_size", "_law_found"] "_law_draw" (defScope s_law_draw) f_ cdv_ A outer s_ H E).nox 1 "_law_many" := ⟨rfl, by first | exact Or.inl rfl | exact Or.inr (Or.inl rfl) | exact Or.inr (Or.inr rfl), by decide, by decide⟩
  have lc1 : LcOk (cxOf CX0 P w K mg base ["_law_pool_here", "_law_many", "_law_cell", "_law_size", "_law_found"] "_law_draw" (defScope s_law_draw) f_ cdv_ A outer s_ H E).nox 1 "_law_many" := ⟨rfl, by first | exact Or.inl rfl | exact Or.inr rfl, by first | exact Or.inl rfl | exact Or.inr rfl⟩
  have nm2 : NmOk (cxOf CX0 P w K mg base ["_law_pool_here", "_law_many", "_law_cell", "_law_size", "_law_found"] "_law_draw" (defScope s_law_draw) f_ cdv_ A outer s_ H E).nox 2 "_law_cell" := ⟨rfl, by first | exact Or.inl rfl | exact Or.inr (Or.inl rfl) | exact Or.inr (Or.inr rfl), by decide, by decide⟩
  have lc2 : LcOk (cxOf CX0 P w K mg base ["_law_pool_here", "_law_many", "_law_cell", "_law_size", "_law_found"] "_law_draw" (defScope s_law_draw) f_ cdv_ A outer s_ H E).nox 2 "_law_cell" := ⟨rfl, by first | exact Or.inl rfl | exact Or.inr rfl, by first | exact Or.inl rfl | exact Or.inr rfl⟩
  have nm3 : NmOk (cxOf CX0 P w K mg base ["_law_pool_here", "_law_many", "_law_cell", "_law_size", "_law_found"] "_law_draw" (defScope s_law_draw) f_ cdv_ A outer s_ H E).nox 3 "_law_size" := ⟨rfl, by first | exact Or.inl rfl | exact Or.inr (Or.inl rfl) | exact Or.inr (Or.inr rfl), by decide, by decide⟩
  have lc3 : LcOk (cxOf CX0 P w K mg base ["_law_pool_here", "_law_many", "_law_cell", "_law_size", "_law_found"] "_law_draw" (defScope s_law_draw) f_ cdv_ A outer s_ H E).nox 3 "_law_size" := ⟨rfl, by first | exact Or.inl rfl | exact Or.inr rfl, by first | exact Or.inl rfl | exact Or.inr rfl⟩
  have nm4 : NmOk (cxOf CX0 P w K mg base ["_law_pool_here", "_law_many", "_law_cell", "_law_size", "_law_found"] "_law_draw" (defScope s_law_draw) f_ cdv_ A outer s_ H E).nox 4 "_law_found" := ⟨rfl, by first | exact Or.inl rfl | exact Or.inr (Or.inl rfl) | exact Or.inr (Or.inr rfl), by decide, by decide⟩
  have lc4 : LcOk (cxOf CX0 P w K mg base ["_law_pool_here", "_law_many", "_law_cell", "_law_size", "_law_found"] "_law_draw" (defScope s_law_draw) f_ cdv_ A outer s_ H E).nox 4 "_law_found" := ⟨rfl, by first | exact Or.inl rfl | exact Or.inr rfl, by first | exact Or.inl rfl | exact Or.inr rfl⟩
  obtain ⟨p, n, rfl, h1, h2, hR⟩ := h
  refine jss_open 0 rfl fun a b ns ha hb hb2 => ?_
  refine js_mid (fun ρ => ∃ (a b : Int) (ns : List Int) (c1 c2 : Option Cell), 0 ≤ a ∧ 0 ≤ b ∧ b < 4294967296 ∧ ρ = [some (.pol p a b ns), some (.dat (dN n)), c1, c2, none]) ?_ fun ρ hρ => ?_
  · walk_at "go"
    refine Or.inr ⟨cm_I _, cm_I _, fun t ht => ?_⟩
    refine okB (fun z => ?_) (fun z => ?_)
    · walk_at "go"
      intro t2 ht2
      refine okB (fun z2 => ?_) (fun z2 => ?_)
      · cases ns with
        | nil => exact absurd rfl (ht2.mp z2)
        | cons c ns =>
          walk_at "x"
          walk_at "x"
          walk_at "x"
          walk_at "x"
          walk_at "x"
          walk_at "x"
          refine js_mid (fun ρ => ∃ b' : Int, 0 ≤ b' ∧ ρ = [some (.pol p a b ns), some (.dat (dN n)), some (.dat (.int c)), some (.dat (.int b')), none]) ?_ fun ρ hρ => ?_
          · walk_at "go"
            refine okB (fun z => ?_) (fun z => ?_)
            · have z1 : 0 ≤ c := of_decide_eq_true z
              walk_at "go"
              refine ⟨Or.inl ⟨by decide, by decide⟩, ?_⟩
              walk_at "go"
              exact ⟨_, by dsimp only; omega, rfl⟩
            · have z1 : ¬ 0 ≤ c := of_decide_eq_false z
              walk_at "go"
              refine ⟨Or.inl ⟨by decide, by decide⟩, ?_⟩
              walk_at "go"
              exact ⟨_, by dsimp only; omega, rfl⟩
          · obtain ⟨b', hb', rfl⟩ := hρ
            refine js_mid (fun ρ => ∃ a' : Int, 0 ≤ a' ∧ ρ = [some (.pol p a' b ns), some (.dat (dN n)), some (.dat (.int c)), some (.dat (.int b')), none]) ?_ fun ρ hρ => ?_
            · walk_at "go"
              refine ⟨⟨by decide, by decide, by decide⟩, ?_⟩
              walk_at "go"
              refine okB (fun z => ?_) (fun z => ?_)
              · walk_at "go"
                exact ⟨_, _, _, _, _, rfl, rfl, _, hb', rfl⟩
              · walk_at "go"
                exact ⟨_, _, _, _, _, rfl, rfl, _, Int.le_refl 0, rfl⟩
            · obtain ⟨a', ha', rfl⟩ := hρ
              walk_at "go"
              refine ⟨Or.inr ⟨by decide, by decide⟩, ?_⟩
              walk_at "go"
              refine ⟨by show (0 : Int) < 2147483629; decide, ?_⟩
              walk_at "go"
              exact ⟨_, _, _, _, _, rfl, rfl, _, _, _, _, _, ha', by dsimp only; omega, by dsimp only; omega, rfl⟩
      · walk_at "go"
        exact ⟨_, _, _, _, _, ha, hb, hb2, rfl⟩
    · refine okF ?_
      walk_at "go"
      exact ⟨_, _, _, _, _, ha, hb, hb2, rfl⟩
  · obtain ⟨a, b, ns, c1, c2, ha, hb, hb2, rfl⟩ := hρ
    walk_at "go"
    refine okB (fun z => ?_) (fun z => ?_)
    · have z1 : 0 < a := of_decide_eq_true z
      have hn : (0 : Int) < n := by omega
      walk_at "go"
      refine ⟨by omega, ?_⟩
      walk_at "go"
      refine ⟨⟨hn, by show (n : Int) < 1073741824; omega⟩, ?_⟩
      walk_at "go"
      refine ⟨_, _, _, _, _, rfl, rfl, ?_⟩
      walk_at "go"
      have m1 := Int.emod_nonneg a (show (n : Int) ≠ 0 by omega)
      have m2 := Int.emod_lt_of_pos a hn
      refine ⟨_, _, _, _, rfl, rfl, Int.ediv_nonneg ha (Int.le_of_lt hn), hb, hb2, by walk_at "bk", ?_⟩
      have := hR (a % n).toNat (by omega)
      have e : dN (a % n).toNat = .int (a % n) := by show PyData.int (((a % n).toNat : Nat) : Int) = _; rw [Int.toNat_of_nonneg m1]
      rw [e] at this
      exact this
    · walk_at "go"
      refine ⟨Or.inr ⟨by decide, by decide⟩, ?_⟩
      walk_at "go"
      refine ⟨by show (0 : Int) < 2147483647; decide, ?_⟩
      walk_at "go"
      refine ⟨_, _, _, _, _, rfl, rfl, ?_⟩
      have hn : (0 : Int) < n := by omega
      have q1 := Int.emod_nonneg (b * 48271 + 11) (show (2147483647 : Int) ≠ 0 by decide)
      have q2 := Int.emod_lt_of_pos (b * 48271 + 11) (show (0 : Int) < 2147483647 by decide)
      walk_at "go"
      refine ⟨Or.inl ⟨by dsimp only; omega, by dsimp only; omega⟩, ?_⟩
      walk_at "go"
      refine ⟨by show (0 : Int) < 2147483629; decide, ?_⟩
      walk_at "go"
      refine ⟨⟨by show (0 : Int) < 32; decide, by show (32 : Int) < 1073741824; decide⟩, ?_⟩
      walk_at "go"
      refine ⟨hn, ?_⟩
      refine ⟨_, _, _, _, rfl, rfl, ha, q1, by dsimp only; omega, by walk_at "bk", ?_⟩
      dsimp only
      generalize ((b * 48271 + 11) % 2147483647 * ((b * 48271 + 11) % 2147483647)) % 2147483629 / 32 = z9
      have m1 := Int.emod_nonneg z9 (show (n : Int) ≠ 0 by omega)
      have m2 := Int.emod_lt_of_pos z9 hn
      have := hR (z9 % n).toNat (by omega)
      have e : dN (z9 % n).toNat = .int (z9 % n) := by show PyData.int (((z9 % n).toNat : Nat) : Int) = _; rw [Int.toNat_of_nonneg m1]
      rw [e] at this
      exact this

end
end
section
local macro_rules | `(tactic| walk_at "e") => `(tactic| first
  | ((with_reducible refine isAt ?_); first | refine je_attr 0 (by assumption) (by assumption) rfl rfl ?_ rfl (by first | exact Or.inl rfl | exact Or.inr (Or.inl rfl) | exact Or.inr (Or.inr rfl)) (by decide) (by decide) rfl | refine je_attr 4 (by assumption) (by assumption) rfl rfl ?_ rfl (by first | exact Or.inl rfl | exact Or.inr (Or.inl rfl) | exact Or.inr (Or.inr rfl)) (by decide) (by decide) rfl | refine je_attr 5 (by assumption) (by assumption) rfl rfl ?_ rfl (by first | exact Or.inl rfl | exact Or.inr (Or.inl rfl) | exact Or.inr (Or.inr rfl)) (by decide) (by decide) rfl | refine je_attr 8 (by assumption) (by assumption) rfl rfl ?_ rfl (by first | exact Or.inl rfl | exact Or.inr (Or.inl rfl) | exact Or.inr (Or.inr rfl)) (by decide) (by decide) rfl)
  | ((with_reducible refine isMc ?_); first | refine je_meth0D 0 (by assumption) (by assumption) (Room.mono (by assumption) (by decide)) rfl rfl ?_ rfl (by first | exact Or.inl rfl | exact Or.inr (Or.inl rfl) | exact Or.inr (Or.inr rfl)) (by decide) (by decide) rfl | refine je_methD 0 (by assumption) (by assumption) (Room.mono (by assumption) (by decide)) rfl rfl ?_ rfl (by first | exact Or.inl rfl | exact Or.inr (Or.inl rfl) | exact Or.inr (Or.inr rfl)) (by decide) (by decide) rfl rfl rfl | refine je_meth0D 4 (by assumption) (by assumption) (Room.mono (by assumption) (by decide)) rfl rfl ?_ rfl (by first | exact Or.inl rfl | exact Or.inr (Or.inl rfl) | exact Or.inr (Or.inr rfl)) (by decide) (by decide) rfl | refine je_methD 4 (by assumption) (by assumption) (Room.mono (by assumption) (by decide)) rfl rfl ?_ rfl (by first | exact Or.inl rfl | exact Or.inr (Or.inl rfl) | exact Or.inr (Or.inr rfl)) (by decide) (by decide) rfl rfl rfl | refine je_meth0D 8 (by assumption) (by assumption) (Room.mono (by assumption) (by decide)) rfl rfl ?_ rfl (by first | exact Or.inl rfl | exact Or.inr (Or.inl rfl) | exact Or.inr (Or.inr rfl)) (by decide) (by decide) rfl | refine je_methD 8 (by assumption) (by assumption) (Room.mono (by assumption) (by decide)) rfl rfl ?_ rfl (by first | exact Or.inl rfl | exact Or.inr (Or.inl rfl) | exact Or.inr (Or.inr rfl)) (by decide) (by decide) rfl rfl rfl))
local macro_rules | `(tactic| walk_at "s") => `(tactic| first
  | ((with_reducible refine isAs ?_); first | refine js_attr 0 (by assumption) (by assumption) ?_ rfl (by first | exact Or.inl rfl | exact Or.inr (Or.inl rfl) | exact Or.inr (Or.inr rfl)) (by decide) (by decide) rfl | refine js_attr 5 (by assumption) (by assumption) ?_ rfl (by first | exact Or.inl rfl | exact Or.inr (Or.inl rfl) | exact Or.inr (Or.inr rfl)) (by decide) (by decide) rfl)
  | refine js_retN ?_)
local macro_rules | `(tactic| walk_at "c") => `(tactic| first | refine exC rfl (celND rfl) ?_ | refine exAt rfl rfl ?_)
local macro_rules | `(tactic| walk_at "x") => `(tactic| (refine isN ?_; first | refine jn_cons ?_ rfl | refine jn_nil ?_))
local macro_rules | `(tactic| walk_at "e") => `(tactic| ((with_reducible refine isMc ?_); first | refine je_pop 2 rfl ?_ rfl (by first | exact Or.inl rfl | exact Or.inr (Or.inl rfl) | exact Or.inr (Or.inr rfl)) (by decide) (by decide) rfl rfl rfl rfl rfl | refine je_pop 6 rfl ?_ rfl (by first | exact Or.inl rfl | exact Or.inr (Or.inl rfl) | exact Or.inr (Or.inr rfl)) (by decide) (by decide) rfl rfl rfl rfl rfl))
section
variable {P : Program} {w : World} {K : PySem.W.Frag} {mg : Str → Option Value} {base : Heap}
theorem erase_cons {α : Type} : ∀ {L : List α} {v : Nat} {x : α}, L[v]? = some x → (x :: L.eraseIdx v).Perm L
  | [], _, _, h => by simp at h
  | y :: L, 0, x, h => by
    cases (Option.some.inj h)
    exact List.Perm.refl _
  | y :: L, v + 1, x, h => by
    have ih := erase_cons (L := L) (v := v) (x := x) (by simpa using h)
    exact (List.Perm.swap y x _).trans (ih.cons y)
theorem erase_map {α β : Type} (f : α → β) : ∀ (L : List α) (v : Nat), (L.map f).eraseIdx v = (L.eraseIdx v).map f
  | [], _ => rfl
  | _ :: _, 0 => rfl
  | y :: L, v + 1 => by
    show f y :: (L.map f).eraseIdx v = f y :: (L.eraseIdx v).map f
    rw [erase_map f L v]
theorem erase_perm {F L : List Nat} {v x : Nat} (h : L[v]? = some x) : ((F ++ [x]) ++ L.eraseIdx v).Perm (F ++ L) := by
  rw [List.append_assoc]
  exact List.Perm.append_left F (erase_cons h)
def S_law_turned : Spec := fun cs R => ∃ (p : Addr) (n : Nat), cs = [.pool p, .dat (dN n)] ∧ n ≤ 1000 ∧ ∀ (L : List Nat) (q : Addr), L.Perm (List.range n) → R cs (.new (.own q (L.map dN)))
theorem sc_law_turned : FnScope ["_law_pool_here", "_law_many", "_law_left", "_law_found", "_law_turn"] ["_law_pool_here", "_law_many"] (defScope s_law_turned) := ⟨rfl, rfl, rfl, by decide +kernel, rfl, by decide +kernel, by decide +kernel⟩
theorem ok_law_turned (g : GD K mg "_law_turned" s_law_turned) (m1 : mg "len" = none) (m2 : mg "range" = none) (m3 : mg "list" = none) (D1 : DefOk P w K mg base 1 "_law_draw" ["_law_pool_here", "_law_many"] S_law_draw) : DefOk P w K mg base 2 "_law_turned" ["_law_pool_here", "_law_many"] S_law_turned := by
  refine defD g sc_law_turned (by decide) (fun _ _ _ _ _ _ us hl => match us, hl with | [_, _], _ => rfl) (fun cs R h => ?_) fun f_ cdv_ A outer s_ H E cs R hr h => ?_
  · obtain ⟨p, n, rfl, _⟩ := h
    rfl
  have hN : (["_law_pool_here", "_law_many", "_law_left", "_law_found", "_law_turn"] : List Str).Nodup := by decide +kernel
  have nm0 : NmOk (cxOf CX0 P w K mg base ["_law_pool_here", "_law_many", "_law_left", "_law_found", "_law_turn"] "_law_turned" (defScope s_law_turned) f_ cdv_ A outer s_ H E).nox 0 "_law_pool_here" := ⟨rfl, by first | exact Or.inl rfl | exact Or.inr (Or.inl rfl) | exact Or.inr (Or.inr rfl), by decide, by decide⟩
  have lc0 : LcOk (cxOf CX0 P w K mg base ["_law_pool_here", "_law_many", "_law_left", "_law_found", "_law_turn"] "_law_turned" (defScope s_law_turned) f_ cdv_ A outer s_ H E).nox 0 "_law_pool_here" := ⟨rfl, by first | exact Or.inl rfl | exact Or.inr rfl, by first | exact Or.inl rfl | exact Or.inr rfl⟩
  have nm1 : NmOk (cxOf CX0 P w K mg base ["_law_pool_here", "_law_many", "_law_left", "_law_found", "_law_turn"] "_law_turned" (defScope s_law_turned) f_ cdv_ A outer s_ H E).nox 1 "_law_many" := ⟨rfl, by first | exact Or.inl rfl | exact Or.inr (Or.inl rfl) | exact Or.inr (Or.inr rfl), by decide, by decide⟩
  have lc1 : LcOk (cxOf CX0 P w K mg base ["_law_pool_here", "_law_many", "_law_left", "_law_found", "_law_turn"] "_law_turned" (defScope s_law_turned) f_ cdv_ A outer s_ H E).nox 1 "_law_many" := ⟨rfl, by first | exact Or.inl rfl | exact Or.inr rfl, by first | exact Or.inl rfl | exact Or.inr rfl⟩
  have nm2 : NmOk (cxOf CX0 P w K mg base ["_law_pool_here", "_law_many", "_law_left", "_law_found", "_law_turn"] "_law_turned" (defScope s_law_turned) f_ cdv_ A outer s_ H E).nox 2 "_law_left" := ⟨rfl, by first | exact Or.inl rfl | exact Or.inr (Or.inl rfl) | exact Or.inr (Or.inr rfl), by decide, by decide⟩
  have lc2 : LcOk (cxOf CX0 P w K mg base ["_law_pool_here", "_law_many", "_law_left", "_law_found", "_law_turn"] "_law_turned" (defScope s_law_turned) f_ cdv_ A outer s_ H E).nox 2 "_law_left" := ⟨rfl, by first | exact Or.inl rfl | exact Or.inr rfl, by first | exact Or.inl rfl | exact Or.inr rfl⟩
  have nm3 : NmOk (cxOf CX0 P w K mg base ["_law_pool_here", "_law_many", "_law_left", "_law_found", "_law_turn"] "_law_turned" (defScope s_law_turned) f_ cdv_ A outer s_ H E).nox 3 "_law_found" := ⟨rfl, by first | exact Or.inl rfl | exact Or.inr (Or.inl rfl) | exact Or.inr (Or.inr rfl), by decide, by decide⟩
  have lc3 : LcOk (cxOf CX0 P w K mg base ["_law_pool_here", "_law_many", "_law_left", "_law_found", "_law_turn"] "_law_turned" (defScope s_law_turned) f_ cdv_ A outer s_ H E).nox 3 "_law_found" := ⟨rfl, by first | exact Or.inl rfl | exact Or.inr rfl, by first | exact Or.inl rfl | exact Or.inr rfl⟩
  have nm4 : NmOk (cxOf CX0 P w K mg base ["_law_pool_here", "_law_many", "_law_left", "_law_found", "_law_turn"] "_law_turned" (defScope s_law_turned) f_ cdv_ A outer s_ H E).nox 4 "_law_turn" := ⟨rfl, by first | exact Or.inl rfl | exact Or.inr (Or.inl rfl) | exact Or.inr (Or.inr rfl), by decide, by decide⟩
  have lc4 : LcOk (cxOf CX0 P w K mg base ["_law_pool_here", "_law_many", "_law_left", "_law_found", "_law_turn"] "_law_turned" (defScope s_law_turned) f_ cdv_ A outer s_ H E).nox 4 "_law_turn" := ⟨rfl, by first | exact Or.inl rfl | exact Or.inr rfl, by first | exact Or.inl rfl | exact Or.inr rfl⟩
  have dD1 : DefOk (cxOf CX0 P w K mg base ["_law_pool_here", "_law_many", "_law_left", "_law_found", "_law_turn"] "_law_turned" (defScope s_law_turned) f_ cdv_ A outer s_ H E).nox.prog (cxOf CX0 P w K mg base ["_law_pool_here", "_law_many", "_law_left", "_law_found", "_law_turn"] "_law_turned" (defScope s_law_turned) f_ cdv_ A outer s_ H E).nox.w (cxOf CX0 P w K mg base ["_law_pool_here", "_law_many", "_law_left", "_law_found", "_law_turn"] "_law_turned" (defScope s_law_turned) f_ cdv_ A outer s_ H E).nox.K (cxOf CX0 P w K mg base ["_law_pool_here", "_law_many", "_law_left", "_law_found", "_law_turn"] "_law_turned" (defScope s_law_turned) f_ cdv_ A outer s_ H E).nox.mg (cxOf CX0 P w K mg base ["_law_pool_here", "_law_many", "_law_left", "_law_found", "_law_turn"] "_law_turned" (defScope s_law_turned) f_ cdv_ A outer s_ H E).nox.base 1 "_law_draw" ["_law_pool_here", "_law_many"] S_law_draw := D1
  obtain ⟨p, n, rfl, hn, hR⟩ := h
  refine js_cons ?_
  refine js_par2 2 3 (by decide) ?_ rfl hN rfl rfl rfl rfl rfl rfl
  walk_at "go"
  refine ⟨n, rfl, by omega, fun q1 => ?_⟩
  walk_at "go"
  rename_i q2
  refine exN2 rfl rfl ?_
  walk_at "go"
  refine ⟨n, rfl, by omega, ?_⟩
  refine ⟨fun i ρ => ∃ (L F : List Nat) (c : Option Cell), ρ = [some (.pool p), some (.dat (dN n)), some (.own q1 (L.map dN)), some (.own q2 (F.map dN)), c] ∧ (F ++ L).Perm (List.range n) ∧ F.length = i, ⟨List.range n, [], none, rfl, by simp, rfl⟩, fun i ρ2 hi hI => ?_, fun ρ2 hI => ?_⟩
  · obtain ⟨L, F, c, rfl, hp, hF⟩ := hI
    have hlen := hp.length_eq
    rw [List.length_append, List.length_range] at hlen
    walk_at "go"
    refine ⟨p, _, rfl, by rw [List.length_map]; omega, by rw [List.length_map]; omega, fun v hv => ?_⟩
    rw [List.length_map] at hv
    obtain ⟨x, hx⟩ : ∃ x, L[v]? = some x := ⟨_, List.getElem?_eq_getElem hv⟩
    walk_at "go"
    refine ⟨_, _, v, dN x, rfl, rfl, by omega, by rw [List.getElem?_map, hx]; rfl, ?_⟩
    walk_at "go"
    refine ⟨_, _, rfl, by rw [List.length_map]; omega, L.eraseIdx v, F ++ [x], some (.dat (dN i)), ?_, (erase_perm hx).trans hp, by rw [List.length_append, List.length_singleton, hF]⟩
    rw [← erase_map, List.map_append]
    rfl
  · obtain ⟨L, F, c, rfl, hp, hF⟩ := hI
    walk_at "go"
    have hlen := hp.length_eq
    rw [List.length_append, List.length_range] at hlen
    have : L = [] := List.eq_nil_of_length_eq_zero (by omega)
    subst this
    rw [List.append_nil] at hp
    exact ⟨by walk_at "bk", by simp, _, rfl, hR F q2 hp⟩
def S_law_web_ends : Spec := fun cs R => ∃ (y : Yd) (t : Nat), cs = [.dat (dY y), .dat (dN t)] ∧ YdOk y ∧ t < y.tr.length ∧ ∀ q, R cs (.new (.own q [dN (y.tk t).1, dN (y.k + (y.tk t).2)]))
theorem sc_law_web_ends : FnScope ["_law_yard", "_law_t"] ["_law_yard", "_law_t"] (defScope s_law_web_ends) := ⟨rfl, rfl, rfl, by decide +kernel, rfl, by decide +kernel, by decide +kernel⟩
theorem ok_law_web_ends (g : GD K mg "_law_web_ends" s_law_web_ends)  : DefOk P w K mg base 1 "_law_web_ends" ["_law_yard", "_law_t"] S_law_web_ends := by
  refine defD g sc_law_web_ends (by decide) (fun _ _ _ _ _ _ us hl => match us, hl with | [_, _], _ => rfl) (fun cs R h => ?_) fun f_ cdv_ A outer s_ H E cs R hr h => ?_
  · obtain ⟨y, t, rfl, _⟩ := h
    rfl
  have hN : (["_law_yard", "_law_t"] : List Str).Nodup := by decide +kernel
  have nm0 : NmOk (cxOf CX0 P w K mg base ["_law_yard", "_law_t"] "_law_web_ends" (defScope s_law_web_ends) f_ cdv_ A outer s_ H E).nox 0 "_law_yard" := ⟨rfl, by first | exact Or.inl rfl | exact Or.inr (Or.inl rfl) | exact Or.inr (Or.inr rfl), by decide, by decide⟩
  have lc0 : LcOk (cxOf CX0 P w K mg base ["_law_yard", "_law_t"] "_law_web_ends" (defScope s_law_web_ends) f_ cdv_ A outer s_ H E).nox 0 "_law_yard" := ⟨rfl, by first | exact Or.inl rfl | exact Or.inr rfl, by first | exact Or.inl rfl | exact Or.inr rfl⟩
  have nm1 : NmOk (cxOf CX0 P w K mg base ["_law_yard", "_law_t"] "_law_web_ends" (defScope s_law_web_ends) f_ cdv_ A outer s_ H E).nox 1 "_law_t" := ⟨rfl, by first | exact Or.inl rfl | exact Or.inr (Or.inl rfl) | exact Or.inr (Or.inr rfl), by decide, by decide⟩
  have lc1 : LcOk (cxOf CX0 P w K mg base ["_law_yard", "_law_t"] "_law_web_ends" (defScope s_law_web_ends) f_ cdv_ A outer s_ H E).nox 1 "_law_t" := ⟨rfl, by first | exact Or.inl rfl | exact Or.inr rfl, by first | exact Or.inl rfl | exact Or.inr rfl⟩
  obtain ⟨y, t, rfl, hy, ht, hR⟩ := h
  obtain ⟨e1, e2, e3⟩ := tk_at hy ht
  walk_at "go"
  exact ⟨by walk_at "bk", hR _⟩
def S_law_pick : Spec := fun cs R => ∃ (p : Addr) (ms : List Mv), cs = [.pool p, .dat (dJ ms)] ∧ ms ≠ [] ∧ ms.length ≤ 1000 ∧ ∀ m, m ∈ ms → R cs (.dat (dM m))
theorem sc_law_pick : FnScope ["_law_pool_here", "_law_things"] ["_law_pool_here", "_law_things"] (defScope s_law_pick) := ⟨rfl, rfl, rfl, by decide +kernel, rfl, by decide +kernel, by decide +kernel⟩
theorem ok_law_pick (g : GD K mg "_law_pick" s_law_pick) (m1 : mg "len" = none) (D1 : DefOk P w K mg base 1 "_law_draw" ["_law_pool_here", "_law_many"] S_law_draw) : DefOk P w K mg base 2 "_law_pick" ["_law_pool_here", "_law_things"] S_law_pick := by
  refine defD g sc_law_pick (by decide) (fun _ _ _ _ _ _ us hl => match us, hl with | [_, _], _ => rfl) (fun cs R h => ?_) fun f_ cdv_ A outer s_ H E cs R hr h => ?_
  · obtain ⟨p, ms, rfl, _⟩ := h
    rfl
  have hN : (["_law_pool_here", "_law_things"] : List Str).Nodup := by decide +kernel
  have nm0 : NmOk (cxOf CX0 P w K mg base ["_law_pool_here", "_law_things"] "_law_pick" (defScope s_law_pick) f_ cdv_ A outer s_ H E).nox 0 "_law_pool_here" := ⟨rfl, by first | exact Or.inl rfl | exact Or.inr (Or.inl rfl) | exact Or.inr (Or.inr rfl), by decide, by decide⟩
  have lc0 : LcOk (cxOf CX0 P w K mg base ["_law_pool_here", "_law_things"] "_law_pick" (defScope s_law_pick) f_ cdv_ A outer s_ H E).nox 0 "_law_pool_here" := ⟨rfl, by first | exact Or.inl rfl | exact Or.inr rfl, by first | exact Or.inl rfl | exact Or.inr rfl⟩
  have nm1 : NmOk (cxOf CX0 P w K mg base ["_law_pool_here", "_law_things"] "_law_pick" (defScope s_law_pick) f_ cdv_ A outer s_ H E).nox 1 "_law_things" := ⟨rfl, by first | exact Or.inl rfl | exact Or.inr (Or.inl rfl) | exact Or.inr (Or.inr rfl), by decide, by decide⟩
  have lc1 : LcOk (cxOf CX0 P w K mg base ["_law_pool_here", "_law_things"] "_law_pick" (defScope s_law_pick) f_ cdv_ A outer s_ H E).nox 1 "_law_things" := ⟨rfl, by first | exact Or.inl rfl | exact Or.inr rfl, by first | exact Or.inl rfl | exact Or.inr rfl⟩
  have dD1 : DefOk (cxOf CX0 P w K mg base ["_law_pool_here", "_law_things"] "_law_pick" (defScope s_law_pick) f_ cdv_ A outer s_ H E).nox.prog (cxOf CX0 P w K mg base ["_law_pool_here", "_law_things"] "_law_pick" (defScope s_law_pick) f_ cdv_ A outer s_ H E).nox.w (cxOf CX0 P w K mg base ["_law_pool_here", "_law_things"] "_law_pick" (defScope s_law_pick) f_ cdv_ A outer s_ H E).nox.K (cxOf CX0 P w K mg base ["_law_pool_here", "_law_things"] "_law_pick" (defScope s_law_pick) f_ cdv_ A outer s_ H E).nox.mg (cxOf CX0 P w K mg base ["_law_pool_here", "_law_things"] "_law_pick" (defScope s_law_pick) f_ cdv_ A outer s_ H E).nox.base 1 "_law_draw" ["_law_pool_here", "_law_many"] S_law_draw := D1
  obtain ⟨p, ms, rfl, hn, hz, hR⟩ := h
  have h0 := List.length_pos_iff.mpr hn
  walk_at "go"
  refine ⟨p, _, rfl, by rw [List.length_map]; omega, by rw [List.length_map]; omega, fun v hv => ?_⟩
  rw [List.length_map] at hv
  obtain ⟨x, hx⟩ : ∃ x, ms[v]? = some x := ⟨_, List.getElem?_eq_getElem hv⟩
  walk_at "go"
  exact ⟨by walk_at "bk", hR x (List.mem_of_getElem? hx)⟩
def S_law_lane_begun : Spec := fun cs R => ∃ (y : Yd) (r : List Nat), cs = [.dat (dY y), .dat (dL r)] ∧ YdOk y ∧ R cs (.dat (dS (beg y r)))
theorem sc_law_lane_begun : FnScope ["_law_yard", "_law_row"] ["_law_yard", "_law_row"] (defScope s_law_lane_begun) := ⟨rfl, rfl, rfl, by decide +kernel, rfl, by decide +kernel, by decide +kernel⟩
theorem ok_law_lane_begun (g : GD K mg "_law_lane_begun" s_law_lane_begun)  : DefOk P w K mg base 1 "_law_lane_begun" ["_law_yard", "_law_row"] S_law_lane_begun := by
  refine defD g sc_law_lane_begun (by decide) (fun _ _ _ _ _ _ us hl => match us, hl with | [_, _], _ => rfl) (fun cs R h => ?_) fun f_ cdv_ A outer s_ H E cs R hr h => ?_
  · obtain ⟨y, r, rfl, _⟩ := h
    rfl
  have hN : (["_law_yard", "_law_row"] : List Str).Nodup := by decide +kernel
  have nm0 : NmOk (cxOf CX0 P w K mg base ["_law_yard", "_law_row"] "_law_lane_begun" (defScope s_law_lane_begun) f_ cdv_ A outer s_ H E).nox 0 "_law_yard" := ⟨rfl, by first | exact Or.inl rfl | exact Or.inr (Or.inl rfl) | exact Or.inr (Or.inr rfl), by decide, by decide⟩
  have lc0 : LcOk (cxOf CX0 P w K mg base ["_law_yard", "_law_row"] "_law_lane_begun" (defScope s_law_lane_begun) f_ cdv_ A outer s_ H E).nox 0 "_law_yard" := ⟨rfl, by first | exact Or.inl rfl | exact Or.inr rfl, by first | exact Or.inl rfl | exact Or.inr rfl⟩
  have nm1 : NmOk (cxOf CX0 P w K mg base ["_law_yard", "_law_row"] "_law_lane_begun" (defScope s_law_lane_begun) f_ cdv_ A outer s_ H E).nox 1 "_law_row" := ⟨rfl, by first | exact Or.inl rfl | exact Or.inr (Or.inl rfl) | exact Or.inr (Or.inr rfl), by decide, by decide⟩
  have lc1 : LcOk (cxOf CX0 P w K mg base ["_law_yard", "_law_row"] "_law_lane_begun" (defScope s_law_lane_begun) f_ cdv_ A outer s_ H E).nox 1 "_law_row" := ⟨rfl, by first | exact Or.inl rfl | exact Or.inr rfl, by first | exact Or.inl rfl | exact Or.inr rfl⟩
  obtain ⟨y, r, rfl, hy, hR⟩ := h
  have h1 := hy.k1
  have h2 := hy.k2
  have h3 := hy.l1
  have h4 := hy.l2
  iterate 6 walk_at "x"
  refine je_rep ?_
  walk_at "go"
  refine ⟨_, y.k, rfl, rfl, h1, by omega, ?_⟩
  walk_at "x"
  refine je_rep ?_
  walk_at "go"
  refine ⟨_, y.l, rfl, rfl, h3, by omega, ?_⟩
  walk_at "go"
  refine ⟨by walk_at "bk", ?_⟩
  unfold beg dS dL at hR
  simp only [List.map_replicate, List.map_nil] at hR
  exact hR
theorem nat_eq {a b : Nat} : PyData.int a = .int b ↔ a = b := dN_inj
def S_law_lane_put : Spec := fun cs R => ∃ (f : List (List Nat)) (a : Nat) (l : List Nat), cs = [.dat (.tuple (f.map dL)), .dat (dN a), .dat (dL l)] ∧ f.length ≤ 1000 ∧ R cs (.dat (.tuple ((f.set a l).map dL)))
theorem sc_law_lane_put : FnScope ["_law_lanes", "_law_at", "_law_lane", "_law_place", "_law_other"] ["_law_lanes", "_law_at", "_law_lane"] (defScope s_law_lane_put) := ⟨rfl, rfl, rfl, by decide +kernel, rfl, by decide +kernel, by decide +kernel⟩
theorem ok_law_lane_put (g : GD K mg "_law_lane_put" s_law_lane_put) (m1 : mg "tuple" = none) (m2 : mg "enumerate" = none) : DefOk P w K mg base 1 "_law_lane_put" ["_law_lanes", "_law_at", "_law_lane"] S_law_lane_put := by
  refine defD g sc_law_lane_put (by decide) (fun _ _ _ _ _ _ us hl => match us, hl with | [_, _, _], _ => rfl) (fun cs R h => ?_) fun f_ cdv_ A outer s_ H E cs R hr h => ?_
  · obtain ⟨f, a, l, rfl, _⟩ := h
    rfl
  have hN : (["_law_lanes", "_law_at", "_law_lane", "_law_place", "_law_other"] : List Str).Nodup := by decide +kernel
  have nm0 : NmOk (cxOf CX0 P w K mg base ["_law_lanes", "_law_at", "_law_lane", "_law_place", "_law_other"] "_law_lane_put" (defScope s_law_lane_put) f_ cdv_ A outer s_ H E).nox 0 "_law_lanes" := ⟨rfl, by first | exact Or.inl rfl | exact Or.inr (Or.inl rfl) | exact Or.inr (Or.inr rfl), by decide, by decide⟩
  have lc0 : LcOk (cxOf CX0 P w K mg base ["_law_lanes", "_law_at", "_law_lane", "_law_place", "_law_other"] "_law_lane_put" (defScope s_law_lane_put) f_ cdv_ A outer s_ H E).nox 0 "_law_lanes" := ⟨rfl, by first | exact Or.inl rfl | exact Or.inr rfl, by first | exact Or.inl rfl | exact Or.inr rfl⟩
  have nm1 : NmOk (cxOf CX0 P w K mg base ["_law_lanes", "_law_at", "_law_lane", "_law_place", "_law_other"] "_law_lane_put" (defScope s_law_lane_put) f_ cdv_ A outer s_ H E).nox 1 "_law_at" := ⟨rfl, by first | exact Or.inl rfl | exact Or.inr (Or.inl rfl) | exact Or.inr (Or.inr rfl), by decide, by decide⟩
  have lc1 : LcOk (cxOf CX0 P w K mg base ["_law_lanes", "_law_at", "_law_lane", "_law_place", "_law_other"] "_law_lane_put" (defScope s_law_lane_put) f_ cdv_ A outer s_ H E).nox 1 "_law_at" := ⟨rfl, by first | exact Or.inl rfl | exact Or.inr rfl, by first | exact Or.inl rfl | exact Or.inr rfl⟩
  have nm2 : NmOk (cxOf CX0 P w K mg base ["_law_lanes", "_law_at", "_law_lane", "_law_place", "_law_other"] "_law_lane_put" (defScope s_law_lane_put) f_ cdv_ A outer s_ H E).nox 2 "_law_lane" := ⟨rfl, by first | exact Or.inl rfl | exact Or.inr (Or.inl rfl) | exact Or.inr (Or.inr rfl), by decide, by decide⟩
  have lc2 : LcOk (cxOf CX0 P w K mg base ["_law_lanes", "_law_at", "_law_lane", "_law_place", "_law_other"] "_law_lane_put" (defScope s_law_lane_put) f_ cdv_ A outer s_ H E).nox 2 "_law_lane" := ⟨rfl, by first | exact Or.inl rfl | exact Or.inr rfl, by first | exact Or.inl rfl | exact Or.inr rfl⟩
  obtain ⟨f, a, l, rfl, hz, hR⟩ := h
  walk_at "go"
  refine je_lc0 [("_law_place", 3), ("_law_other", 4)] [3, 4] ?_ (by simp) (by simp) (tgok_two 3 4 fun s H C cl fp => pg_tup rfl (pgs_cons (pg_name (by assumption) rfl (Or.inl rfl)) (pgs_cons (pg_name (by assumption) rfl (Or.inl rfl)) pgs_nil))) rfl (by assumption) (by walk_at "blk") (fun _ => rfl)
  walk_at "go"
  refine ⟨fun i acc => acc = ((f.set a l).take i).map dL, rfl, by rw [List.length_map]; omega, by simp, fun i acc hi hI => ?_, fun acc p hI => ?_⟩
  · rw [List.length_map] at hi
    obtain ⟨x, hx⟩ : ∃ x, f[i]? = some x := ⟨_, List.getElem?_eq_getElem hi⟩
    refine ⟨[.int i, dL x], by dsimp only; rw [map_get hx]; exact .two 3 4 _ _, fun s H C cl fp => ?_⟩
    walk_at "go"
    refine Or.inr ⟨cm_N _, cm_N _, fun t ht => ?_⟩
    have e := tEq ht nat_eq
    refine okB (fun z => ?_) (fun z => ?_)
    · rw [z] at e
      have e2 : i = a := of_decide_eq_true e.symm
      walk_at "go"
      refine ⟨rfl, ?_⟩
      show _ = _
      rw [hI, List.take_add_one, e2, List.getElem?_set_self (by omega)]
      simp
    · rw [z] at e
      have e2 : ¬ i = a := of_decide_eq_false e.symm
      walk_at "go"
      refine ⟨rfl, ?_⟩
      show _ = _
      rw [hI, List.take_add_one, List.getElem?_set_ne (Ne.symm e2), hx]
      simp
  · subst hI
    walk_at "go"
    refine ⟨by walk_at "bk", ?_⟩
    rw [List.length_map, show f.length = (f.set a l).length by rw [List.length_set], List.take_length]
    exact hR

end
end
section
local macro_rules | `(tactic| walk_at "e") => `(tactic| first
  | ((with_reducible refine isAt ?_); first | refine je_attr 0 (by assumption) (by assumption) rfl rfl ?_ rfl (by first | exact Or.inl rfl | exact Or.inr (Or.inl rfl) | exact Or.inr (Or.inr rfl)) (by decide) (by decide) rfl | refine je_attr 4 (by assumption) (by assumption) rfl rfl ?_ rfl (by first | exact Or.inl rfl | exact Or.inr (Or.inl rfl) | exact Or.inr (Or.inr rfl)) (by decide) (by decide) rfl | refine je_attr 5 (by assumption) (by assumption) rfl rfl ?_ rfl (by first | exact Or.inl rfl | exact Or.inr (Or.inl rfl) | exact Or.inr (Or.inr rfl)) (by decide) (by decide) rfl | refine je_attr 8 (by assumption) (by assumption) rfl rfl ?_ rfl (by first | exact Or.inl rfl | exact Or.inr (Or.inl rfl) | exact Or.inr (Or.inr rfl)) (by decide) (by decide) rfl)
  | ((with_reducible refine isMc ?_); first | refine je_meth0D 0 (by assumption) (by assumption) (Room.mono (by assumption) (by decide)) rfl rfl ?_ rfl (by first | exact Or.inl rfl | exact Or.inr (Or.inl rfl) | exact Or.inr (Or.inr rfl)) (by decide) (by decide) rfl | refine je_methD 0 (by assumption) (by assumption) (Room.mono (by assumption) (by decide)) rfl rfl ?_ rfl (by first | exact Or.inl rfl | exact Or.inr (Or.inl rfl) | exact Or.inr (Or.inr rfl)) (by decide) (by decide) rfl rfl rfl | refine je_meth0D 4 (by assumption) (by assumption) (Room.mono (by assumption) (by decide)) rfl rfl ?_ rfl (by first | exact Or.inl rfl | exact Or.inr (Or.inl rfl) | exact Or.inr (Or.inr rfl)) (by decide) (by decide) rfl | refine je_methD 4 (by assumption) (by assumption) (Room.mono (by assumption) (by decide)) rfl rfl ?_ rfl (by first | exact Or.inl rfl | exact Or.inr (Or.inl rfl) | exact Or.inr (Or.inr rfl)) (by decide) (by decide) rfl rfl rfl | refine je_meth0D 8 (by assumption) (by assumption) (Room.mono (by assumption) (by decide)) rfl rfl ?_ rfl (by first | exact Or.inl rfl | exact Or.inr (Or.inl rfl) | exact Or.inr (Or.inr rfl)) (by decide) (by decide) rfl | refine je_methD 8 (by assumption) (by assumption) (Room.mono (by assumption) (by decide)) rfl rfl ?_ rfl (by first | exact Or.inl rfl | exact Or.inr (Or.inl rfl) | exact Or.inr (Or.inr rfl)) (by decide) (by decide) rfl rfl rfl))
local macro_rules | `(tactic| walk_at "s") => `(tactic| first
  | ((with_reducible refine isAs ?_); first | refine js_attr 0 (by assumption) (by assumption) ?_ rfl (by first | exact Or.inl rfl | exact Or.inr (Or.inl rfl) | exact Or.inr (Or.inr rfl)) (by decide) (by decide) rfl | refine js_attr 5 (by assumption) (by assumption) ?_ rfl (by first | exact Or.inl rfl | exact Or.inr (Or.inl rfl) | exact Or.inr (Or.inr rfl)) (by decide) (by decide) rfl)
  | refine js_retN ?_)
local macro_rules | `(tactic| walk_at "c") => `(tactic| first | refine exC rfl (celND rfl) ?_ | refine exAt rfl rfl ?_)
local macro_rules | `(tactic| walk_at "x") => `(tactic| (refine isN ?_; first | refine jn_cons ?_ rfl | refine jn_nil ?_))
local macro_rules | `(tactic| walk_at "e") => `(tactic| ((with_reducible refine isMc ?_); first | refine je_pop 2 rfl ?_ rfl (by first | exact Or.inl rfl | exact Or.inr (Or.inl rfl) | exact Or.inr (Or.inr rfl)) (by decide) (by decide) rfl rfl rfl rfl rfl | refine je_pop 6 rfl ?_ rfl (by first | exact Or.inl rfl | exact Or.inr (Or.inl rfl) | exact Or.inr (Or.inr rfl)) (by decide) (by decide) rfl rfl rfl rfl rfl))
local macro_rules | `(tactic| walk_at "e") => `(tactic| ((with_reducible refine isSb ?_); refine je_slHi ?_))
section
variable {P : Program} {w : World} {K : PySem.W.Frag} {mg : Str → Option Value} {base : Heap}
theorem pair_lt {l i j : Nat} (hl : 0 < l) (h : i < j) : lexLt (i / l, i % l) (j / l, j % l) := by
  have h1 := Nat.div_add_mod i l
  have h2 := Nat.div_add_mod j l
  have h3 : i / l ≤ j / l := Nat.div_le_div_right (Nat.le_of_lt h)
  rcases Nat.lt_or_ge (i / l) (j / l) with q | q
  · exact .inl q
  · have e : i / l = j / l := by omega
    refine .inr ⟨e, ?_⟩
    show i % l < j % l
    rw [e] at h1
    omega
/-- the drawn yard's tracks -/
def prs (l : Nat) (c : List Nat) : List (Nat × Nat) := c.map fun i => (i / l, i % l)
theorem prs_ok {k l : Nat} {c : List Nat} (h1 : 1 ≤ k) (h2 : k ≤ 4) (h3 : 1 ≤ l) (h4 : l ≤ 4) (hz : c.length ≤ 7) (hc : ∀ i ∈ c, i < k * l) (hs : c.Pairwise (· < ·)) : YdOk ⟨k, l, prs l c⟩ := by
  refine ⟨h1, by show k ≤ 12; omega, h3, by show l ≤ 12; omega, by show (prs l c).length ≤ 60; unfold prs; rw [List.length_map]; omega, ?_, ?_⟩
  · intro p hp
    obtain ⟨i, hi, rfl⟩ := List.mem_map.mp hp
    exact ⟨Nat.div_lt_of_lt_mul (by rw [Nat.mul_comm]; exact hc i hi), Nat.mod_lt _ h3⟩
  · show (prs l c).Pairwise lexLt
    unfold prs
    rw [List.pairwise_map]
    exact hs.imp fun h => pair_lt h3 h
theorem ltAll {js : List Nat} {n : Nat} (h : (js.all fun j => Nat.ble (j + 1) n) = true) : ∀ j ∈ js, j < n := fun j hj => Nat.le_of_ble_eq_true (List.all_eq_true.mp h j hj)
theorem sorted_nat {ns : List Int} {M : List Nat} (h : ns.Perm (M.map fun i : Nat => (i : Int))) (hs : ns.Pairwise (· ≤ ·)) (nd : M.Nodup) : ∃ c : List Nat, ns = c.map (fun i : Nat => (i : Int)) ∧ c.Perm M ∧ c.Pairwise (· < ·) := by
  have e1 : (ns.map Int.toNat).map (fun i : Nat => (i : Int)) = ns := by
    rw [List.map_map]
    conv => rhs; rw [← List.map_id ns]
    refine List.map_congr_left fun z hz => ?_
    obtain ⟨i, _, rfl⟩ := List.mem_map.mp (h.subset hz)
    rfl
  have e2 : (ns.map Int.toNat).Perm M := by
    have := h.map Int.toNat
    rw [List.map_map] at this
    have e : M.map (Int.toNat ∘ fun i : Nat => (i : Int)) = M := by
      conv => rhs; rw [← List.map_id M]
      exact List.map_congr_left fun i _ => rfl
    rw [e] at this
    exact this
  refine ⟨ns.map Int.toNat, e1.symm, e2, ?_⟩
  have nd2 : (ns.map Int.toNat).Nodup := e2.nodup_iff.mpr nd
  rw [← e1, List.pairwise_map] at hs
  exact hs.imp₂ (fun h1 h2 => by omega) nd2
def S_law_web_yard : Spec := fun cs R => ∃ p : Addr, cs = [.pool p, .dat (dN 4), .dat (dN 7)] ∧ ∀ y : Yd, YdOk y → y.k ≤ 4 → y.l ≤ 4 → y.tr.length ≤ 7 → R cs (.dat (dY y))
theorem sc_law_web_yard : FnScope ["_law_pool_here", "_law_lanes", "_law_most", "_law_k", "_law_l", "_law_pairs", "_law_many", "_law_chosen", "_law_at"] ["_law_pool_here", "_law_lanes", "_law_most"] (defScope s_law_web_yard) := ⟨rfl, rfl, rfl, by decide +kernel, rfl, by decide +kernel, by decide +kernel⟩
theorem ok_law_web_yard (g : GD K mg "_law_web_yard" s_law_web_yard) (m1 : mg "len" = none) (m2 : mg "range" = none) (m3 : mg "int" = none) (m4 : mg "min" = none) (m5 : mg "sorted" = none) (m6 : mg "tuple" = none) (D1 : DefOk P w K mg base 1 "_law_draw" ["_law_pool_here", "_law_many"] S_law_draw) (D2 : DefOk P w K mg base 2 "_law_turned" ["_law_pool_here", "_law_many"] S_law_turned) : DefOk P w K mg base 3 "_law_web_yard" ["_law_pool_here", "_law_lanes", "_law_most"] S_law_web_yard := by
  refine defD g sc_law_web_yard (by decide) (fun _ _ _ _ _ _ us hl => match us, hl with | [_, _, _], _ => rfl) (fun cs R h => ?_) fun f_ cdv_ A outer s_ H E cs R hr h => ?_
  · obtain ⟨p, rfl, _⟩ := h
    rfl
  have hN : (["_law_pool_here", "_law_lanes", "_law_most", "_law_k", "_law_l", "_law_pairs", "_law_many", "_law_chosen", "_law_at"] : List Str).Nodup := by decide +kernel
  have nm0 : NmOk (cxOf CX0 P w K mg base ["_law_pool_here", "_law_lanes", "_law_most", "_law_k", "_law_l", "_law_pairs", "_law_many", "_law_chosen", "_law_at"] "_law_web_yard" (defScope s_law_web_yard) f_ cdv_ A outer s_ H E).nox 0 "_law_pool_here" := ⟨rfl, by first | exact Or.inl rfl | exact Or.inr (Or.inl rfl) | exact Or.inr (Or.inr rfl), by decide, by decide⟩
  have lc0 : LcOk (cxOf CX0 P w K mg base ["_law_pool_here", "_law_lanes", "_law_most", "_law_k", "_law_l", "_law_pairs", "_law_many", "_law_chosen", "_law_at"] "_law_web_yard" (defScope s_law_web_yard) f_ cdv_ A outer s_ H E).nox 0 "_law_pool_here" := ⟨rfl, by first | exact Or.inl rfl | exact Or.inr rfl, by first | exact Or.inl rfl | exact Or.inr rfl⟩
  have nm1 : NmOk (cxOf CX0 P w K mg base ["_law_pool_here", "_law_lanes", "_law_most", "_law_k", "_law_l", "_law_pairs", "_law_many", "_law_chosen", "_law_at"] "_law_web_yard" (defScope s_law_web_yard) f_ cdv_ A outer s_ H E).nox 1 "_law_lanes" := ⟨rfl, by first | exact Or.inl rfl | exact Or.inr (Or.inl rfl) | exact Or.inr (Or.inr rfl), by decide, by decide⟩
  have lc1 : LcOk (cxOf CX0 P w K mg base ["_law_pool_here", "_law_lanes", "_law_most", "_law_k", "_law_l", "_law_pairs", "_law_many", "_law_chosen", "_law_at"] "_law_web_yard" (defScope s_law_web_yard) f_ cdv_ A outer s_ H E).nox 1 "_law_lanes" := ⟨rfl, by first | exact Or.inl rfl | exact Or.inr rfl, by first | exact Or.inl rfl | exact Or.inr rfl⟩
  have nm2 : NmOk (cxOf CX0 P w K mg base ["_law_pool_here", "_law_lanes", "_law_most", "_law_k", "_law_l", "_law_pairs", "_law_many", "_law_chosen", "_law_at"] "_law_web_yard" (defScope s_law_web_yard) f_ cdv_ A outer s_ H E).nox 2 "_law_most" := ⟨rfl, by first | exact Or.inl rfl | exact Or.inr (Or.inl rfl) | exact Or.inr (Or.inr rfl), by decide, by decide⟩
  have lc2 : LcOk (cxOf CX0 P w K mg base ["_law_pool_here", "_law_lanes", "_law_most", "_law_k", "_law_l", "_law_pairs", "_law_many", "_law_chosen", "_law_at"] "_law_web_yard" (defScope s_law_web_yard) f_ cdv_ A outer s_ H E).nox 2 "_law_most" := ⟨rfl, by first | exact Or.inl rfl | exact Or.inr rfl, by first | exact Or.inl rfl | exact Or.inr rfl⟩
  have nm3 : NmOk (cxOf CX0 P w K mg base ["_law_pool_here", "_law_lanes", "_law_most", "_law_k", "_law_l", "_law_pairs", "_law_many", "_law_chosen", "_law_at"] "_law_web_yard" (defScope s_law_web_yard) f_ cdv_ A outer s_ H E).nox 3 "_law_k" := ⟨rfl, by first | exact Or.inl rfl | exact Or.inr (Or.inl rfl) | exact Or.inr (Or.inr rfl), by decide, by decide⟩
  have lc3 : LcOk (cxOf CX0 P w K mg base ["_law_pool_here", "_law_lanes", "_law_most", "_law_k", "_law_l", "_law_pairs", "_law_many", "_law_chosen", "_law_at"] "_law_web_yard" (defScope s_law_web_yard) f_ cdv_ A outer s_ H E).nox 3 "_law_k" := ⟨rfl, by first | exact Or.inl rfl | exact Or.inr rfl, by first | exact Or.inl rfl | exact Or.inr rfl⟩
  have nm4 : NmOk (cxOf CX0 P w K mg base ["_law_pool_here", "_law_lanes", "_law_most", "_law_k", "_law_l", "_law_pairs", "_law_many", "_law_chosen", "_law_at"] "_law_web_yard" (defScope s_law_web_yard) f_ cdv_ A outer s_ H E).nox 4 "_law_l" := ⟨rfl, by first | exact Or.inl rfl | exact Or.inr (Or.inl rfl) | exact Or.inr (Or.inr rfl), by decide, by decide⟩
  have lc4 : LcOk (cxOf CX0 P w K mg base ["_law_pool_here", "_law_lanes", "_law_most", "_law_k", "_law_l", "_law_pairs", "_law_many", "_law_chosen", "_law_at"] "_law_web_yard" (defScope s_law_web_yard) f_ cdv_ A outer s_ H E).nox 4 "_law_l" := ⟨rfl, by first | exact Or.inl rfl | exact Or.inr rfl, by first | exact Or.inl rfl | exact Or.inr rfl⟩
  have nm5 : NmOk (cxOf CX0 P w K mg base ["_law_pool_here", "_law_lanes", "_law_most", "_law_k", "_law_l", "_law_pairs", "_law_many", "_law_chosen", "_law_at"] "_law_web_yard" (defScope s_law_web_yard) f_ cdv_ A outer s_ H E).nox 5 "_law_pairs" := ⟨rfl, by first | exact Or.inl rfl | exact Or.inr (Or.inl rfl) | exact Or.inr (Or.inr rfl), by decide, by decide⟩
  have lc5 : LcOk (cxOf CX0 P w K mg base ["_law_pool_here", "_law_lanes", "_law_most", "_law_k", "_law_l", "_law_pairs", "_law_many", "_law_chosen", "_law_at"] "_law_web_yard" (defScope s_law_web_yard) f_ cdv_ A outer s_ H E).nox 5 "_law_pairs" := ⟨rfl, by first | exact Or.inl rfl | exact Or.inr rfl, by first | exact Or.inl rfl | exact Or.inr rfl⟩
  have nm6 : NmOk (cxOf CX0 P w K mg base ["_law_pool_here", "_law_lanes", "_law_most", "_law_k", "_law_l", "_law_pairs", "_law_many", "_law_chosen", "_law_at"] "_law_web_yard" (defScope s_law_web_yard) f_ cdv_ A outer s_ H E).nox 6 "_law_many" := ⟨rfl, by first | exact Or.inl rfl | exact Or.inr (Or.inl rfl) | exact Or.inr (Or.inr rfl), by decide, by decide⟩
  have lc6 : LcOk (cxOf CX0 P w K mg base ["_law_pool_here", "_law_lanes", "_law_most", "_law_k", "_law_l", "_law_pairs", "_law_many", "_law_chosen", "_law_at"] "_law_web_yard" (defScope s_law_web_yard) f_ cdv_ A outer s_ H E).nox 6 "_law_many" := ⟨rfl, by first | exact Or.inl rfl | exact Or.inr rfl, by first | exact Or.inl rfl | exact Or.inr rfl⟩
  have nm7 : NmOk (cxOf CX0 P w K mg base ["_law_pool_here", "_law_lanes", "_law_most", "_law_k", "_law_l", "_law_pairs", "_law_many", "_law_chosen", "_law_at"] "_law_web_yard" (defScope s_law_web_yard) f_ cdv_ A outer s_ H E).nox 7 "_law_chosen" := ⟨rfl, by first | exact Or.inl rfl | exact Or.inr (Or.inl rfl) | exact Or.inr (Or.inr rfl), by decide, by decide⟩
  have lc7 : LcOk (cxOf CX0 P w K mg base ["_law_pool_here", "_law_lanes", "_law_most", "_law_k", "_law_l", "_law_pairs", "_law_many", "_law_chosen", "_law_at"] "_law_web_yard" (defScope s_law_web_yard) f_ cdv_ A outer s_ H E).nox 7 "_law_chosen" := ⟨rfl, by first | exact Or.inl rfl | exact Or.inr rfl, by first | exact Or.inl rfl | exact Or.inr rfl⟩
  have dD1 : DefOk (cxOf CX0 P w K mg base ["_law_pool_here", "_law_lanes", "_law_most", "_law_k", "_law_l", "_law_pairs", "_law_many", "_law_chosen", "_law_at"] "_law_web_yard" (defScope s_law_web_yard) f_ cdv_ A outer s_ H E).nox.prog (cxOf CX0 P w K mg base ["_law_pool_here", "_law_lanes", "_law_most", "_law_k", "_law_l", "_law_pairs", "_law_many", "_law_chosen", "_law_at"] "_law_web_yard" (defScope s_law_web_yard) f_ cdv_ A outer s_ H E).nox.w (cxOf CX0 P w K mg base ["_law_pool_here", "_law_lanes", "_law_most", "_law_k", "_law_l", "_law_pairs", "_law_many", "_law_chosen", "_law_at"] "_law_web_yard" (defScope s_law_web_yard) f_ cdv_ A outer s_ H E).nox.K (cxOf CX0 P w K mg base ["_law_pool_here", "_law_lanes", "_law_most", "_law_k", "_law_l", "_law_pairs", "_law_many", "_law_chosen", "_law_at"] "_law_web_yard" (defScope s_law_web_yard) f_ cdv_ A outer s_ H E).nox.mg (cxOf CX0 P w K mg base ["_law_pool_here", "_law_lanes", "_law_most", "_law_k", "_law_l", "_law_pairs", "_law_many", "_law_chosen", "_law_at"] "_law_web_yard" (defScope s_law_web_yard) f_ cdv_ A outer s_ H E).nox.base 1 "_law_draw" ["_law_pool_here", "_law_many"] S_law_draw := D1
  have dD2 : DefOk (cxOf CX0 P w K mg base ["_law_pool_here", "_law_lanes", "_law_most", "_law_k", "_law_l", "_law_pairs", "_law_many", "_law_chosen", "_law_at"] "_law_web_yard" (defScope s_law_web_yard) f_ cdv_ A outer s_ H E).nox.prog (cxOf CX0 P w K mg base ["_law_pool_here", "_law_lanes", "_law_most", "_law_k", "_law_l", "_law_pairs", "_law_many", "_law_chosen", "_law_at"] "_law_web_yard" (defScope s_law_web_yard) f_ cdv_ A outer s_ H E).nox.w (cxOf CX0 P w K mg base ["_law_pool_here", "_law_lanes", "_law_most", "_law_k", "_law_l", "_law_pairs", "_law_many", "_law_chosen", "_law_at"] "_law_web_yard" (defScope s_law_web_yard) f_ cdv_ A outer s_ H E).nox.K (cxOf CX0 P w K mg base ["_law_pool_here", "_law_lanes", "_law_most", "_law_k", "_law_l", "_law_pairs", "_law_many", "_law_chosen", "_law_at"] "_law_web_yard" (defScope s_law_web_yard) f_ cdv_ A outer s_ H E).nox.mg (cxOf CX0 P w K mg base ["_law_pool_here", "_law_lanes", "_law_most", "_law_k", "_law_l", "_law_pairs", "_law_many", "_law_chosen", "_law_at"] "_law_web_yard" (defScope s_law_web_yard) f_ cdv_ A outer s_ H E).nox.base 2 "_law_turned" ["_law_pool_here", "_law_many"] S_law_turned := D2
  obtain ⟨p, rfl, hR⟩ := h
  refine js_mid (fun ρ => ∃ k l : Nat, 1 ≤ k ∧ k ≤ 4 ∧ 1 ≤ l ∧ l ≤ 4 ∧ ρ = [some (.pool p), some (.dat (dN 4)), some (.dat (dN 7)), some (.dat (dN k)), some (.dat (dN l)), none, none, none, none]) ?_ fun ρ hρ => ?_
  · refine js_parT [3, 4] ?_ rfl (fun vs σ H Q hl q => ?_) (by decide) rfl rfl rfl rfl rfl
    · walk_at "go"
      refine ⟨p, 4, rfl, by omega, by omega, fun v hv => ?_⟩
      walk_at "go"
      refine ⟨p, 4, rfl, by omega, by omega, fun u hu => ?_⟩
      walk_at "go"
      refine ⟨rfl, by simp [putB], 1 + v, 1 + u, by omega, by omega, by omega, by omega, ?_⟩
      rw [show (dN (1 + v)) = .int (1 + (v : Int)) by simp [dN], show (dN (1 + u)) = .int (1 + (u : Int)) by simp [dN]]
      rfl
    · match vs, hl with
      | [u, v], _ => exact ofGs (pgs_cons (pg_name (i := 3) hN rfl (Or.inl rfl)) (pgs_cons (pg_name (i := 4) hN rfl (Or.inr rfl)) pgs_nil)) ⟨u, [v], rfl, v, [], rfl, rfl, q⟩
  · obtain ⟨k, l, h1, h2, h3, h4, rfl⟩ := hρ
    walk_at "x"
    walk_at "x"
    have hkl : k * l ≤ 16 := Nat.mul_le_mul h2 h4
    have hkl1 : 1 ≤ k * l := Nat.mul_le_mul h1 h3
    refine je_lc0 [("_law_at", 8)] [8] ?_ (by simp) (by simp) (tgok_name 8 fun s H C cl fp => pg_name (by assumption) rfl (Or.inl rfl)) rfl (by assumption) (by walk_at "blk") (fun _ => rfl)
    walk_at "go"
    refine ⟨Or.inl ⟨by omega, by omega⟩, ?_⟩
    walk_at "go"
    refine ⟨k * l, rfl, by omega, ?_⟩
    refine ⟨fun i acc => acc = ((List.range i).map fun i => (i / l, i % l)).map dP, rfl, by omega, by simp, fun i acc hi hI => ?_, fun acc q hI => ?_⟩
    · refine ⟨[dN i], .one 8 _, fun s H C cl fp => ?_⟩
      walk_at "go"
      refine ⟨⟨by show (0 : Int) < l; omega, by show (l : Int) < 1073741824; omega⟩, ?_⟩
      walk_at "go"
      refine ⟨by show (0 : Int) < l; omega, ?_⟩
      walk_at "go"
      refine ⟨rfl, ?_⟩
      show _ = _
      rw [hI, List.range_succ]
      simp [dP, dN]
    · subst hI
      walk_at "x"
      refine js_mid (fun ρ => ∃ m : Nat, m ≤ 7 ∧ ρ = [some (.pool p), some (.dat (dN 4)), some (.dat (dN 7)), some (.dat (dN k)), some (.dat (dN l)), some (.own q (((List.range (k * l)).map fun i => (i / l, i % l)).map dP)), some (.dat (dN m)), none, none]) ?_ fun ρ hρ => ?_
      · walk_at "go"
        refine ⟨p, 3, rfl, by omega, by omega, fun v hv => ?_⟩
        walk_at "go"
        refine Or.inr ⟨cm_N _, cm_I _, fun t ht => ?_⟩
        have em : (if (((((List.range (k * l)).map fun i => (i / l, i % l)).map dP).length : Nat) : Int) < ((7 : Nat) : Int) then (((((List.range (k * l)).map fun i => (i / l, i % l)).map dP).length : Nat) : Int) else ((7 : Nat) : Int)) = ((min 7 (k * l) : Nat) : Int) := by
          simp only [List.length_map, List.length_range]
          split <;> omega
        refine okB (fun z => ?_) (fun z => ?_)
        · walk_at "go"
          exact ⟨min 7 (k * l), by omega, by simp only [dN]; rw [← em]; rfl⟩
        · walk_at "go"
          refine ⟨p, min 7 (k * l) + 1, congrArg (fun z => [Cell.pool p, Cell.dat (PyData.int (z + 1))]) em, by omega, by omega, fun u hu => ?_⟩
          walk_at "go"
          exact ⟨u, by omega, rfl⟩
      · obtain ⟨m, hm, rfl⟩ := hρ
        walk_at "go"
        refine ⟨p, k * l, by simp only [List.length_map, List.length_range], by omega, fun L q2 hL => ?_⟩
        iterate 2 walk_at "x"
        refine sl_hiL fun q3 => ?_
        walk_at "x"
        refine jss_freeze 7 rfl ?_
        walk_at "go"
        refine je_lc0 [("_law_at", 8)] [8] ?_ (by simp) (by simp) (tgok_name 8 fun s H C cl fp => pg_name (by assumption) rfl (Or.inl rfl)) rfl (by assumption) (by walk_at "blk") (fun _ => rfl)
        refine ji_list ?_
        walk_at "go"
        refine ⟨(L.take m).map fun i : Nat => (i : Int), by rw [List.map_map]; rfl, fun ns' q4 hp hle => ?_⟩
        obtain ⟨c, rfl, hcp, hcs⟩ := sorted_nat hp hle ((List.take_sublist m L).nodup (hL.nodup_iff.mpr List.nodup_range))
        have hcm : ∀ i ∈ c, i < k * l := fun i hi => by
          have := hL.subset (List.mem_of_mem_take (hcp.subset hi))
          simpa using this
        have hcl : c.length ≤ 7 := by rw [hcp.length_eq, List.length_take]; omega
        have ec : (c.map fun i : Nat => (i : Int)).map PyData.int = c.map dN := by rw [List.map_map]; rfl
        rw [ec]
        walk_at "go"
        refine ⟨fun i acc => acc = ((c.take i).map fun i => (i / l, i % l)).map dP, rfl, by rw [List.length_map]; omega, ltAll rfl, fun i acc hi hI => ?_, fun acc p5 hI => ?_⟩
        · rw [List.length_map] at hi
          obtain ⟨x, hx⟩ : ∃ x, c[i]? = some x := ⟨_, List.getElem?_eq_getElem hi⟩
          have hx1 := hcm x (List.mem_of_getElem? hx)
          have hx2 : ((List.range (k * l)).map fun i => (i / l, i % l))[x]? = some (x / l, x % l) := by
            rw [List.getElem?_map, List.getElem?_range hx1]
            rfl
          refine ⟨[dN x], tg1 hx, fun s H C cl fp => ?_⟩
          walk_at "go"
          refine ⟨rfl, ?_⟩
          show _ = _
          rw [hI, List.take_add_one, hx]
          simp
        · subst hI
          walk_at "go"
          refine ⟨by walk_at "bk", ?_⟩
          rw [List.length_map, List.take_length]
          exact hR ⟨k, l, prs l c⟩ (prs_ok h1 h2 h3 h4 hcl hcm hcs) h2 h4 (by show (prs l c).length ≤ 7; unfold prs; rw [List.length_map]; exact hcl)

end
end
section
local macro_rules | `(tactic| walk_at "e") => `(tactic| first
  | ((with_reducible refine isAt ?_); first | refine je_attr 0 (by assumption) (by assumption) rfl rfl ?_ rfl (by first | exact Or.inl rfl | exact Or.inr (Or.inl rfl) | exact Or.inr (Or.inr rfl)) (by decide) (by decide) rfl | refine je_attr 4 (by assumption) (by assumption) rfl rfl ?_ rfl (by first | exact Or.inl rfl | exact Or.inr (Or.inl rfl) | exact Or.inr (Or.inr rfl)) (by decide) (by decide) rfl | refine je_attr 5 (by assumption) (by assumption) rfl rfl ?_ rfl (by first | exact Or.inl rfl | exact Or.inr (Or.inl rfl) | exact Or.inr (Or.inr rfl)) (by decide) (by decide) rfl | refine je_attr 8 (by assumption) (by assumption) rfl rfl ?_ rfl (by first | exact Or.inl rfl | exact Or.inr (Or.inl rfl) | exact Or.inr (Or.inr rfl)) (by decide) (by decide) rfl)
  | ((with_reducible refine isMc ?_); first | refine je_meth0D 0 (by assumption) (by assumption) (Room.mono (by assumption) (by decide)) rfl rfl ?_ rfl (by first | exact Or.inl rfl | exact Or.inr (Or.inl rfl) | exact Or.inr (Or.inr rfl)) (by decide) (by decide) rfl | refine je_methD 0 (by assumption) (by assumption) (Room.mono (by assumption) (by decide)) rfl rfl ?_ rfl (by first | exact Or.inl rfl | exact Or.inr (Or.inl rfl) | exact Or.inr (Or.inr rfl)) (by decide) (by decide) rfl rfl rfl | refine je_meth0D 4 (by assumption) (by assumption) (Room.mono (by assumption) (by decide)) rfl rfl ?_ rfl (by first | exact Or.inl rfl | exact Or.inr (Or.inl rfl) | exact Or.inr (Or.inr rfl)) (by decide) (by decide) rfl | refine je_methD 4 (by assumption) (by assumption) (Room.mono (by assumption) (by decide)) rfl rfl ?_ rfl (by first | exact Or.inl rfl | exact Or.inr (Or.inl rfl) | exact Or.inr (Or.inr rfl)) (by decide) (by decide) rfl rfl rfl | refine je_meth0D 8 (by assumption) (by assumption) (Room.mono (by assumption) (by decide)) rfl rfl ?_ rfl (by first | exact Or.inl rfl | exact Or.inr (Or.inl rfl) | exact Or.inr (Or.inr rfl)) (by decide) (by decide) rfl | refine je_methD 8 (by assumption) (by assumption) (Room.mono (by assumption) (by decide)) rfl rfl ?_ rfl (by first | exact Or.inl rfl | exact Or.inr (Or.inl rfl) | exact Or.inr (Or.inr rfl)) (by decide) (by decide) rfl rfl rfl))
local macro_rules | `(tactic| walk_at "s") => `(tactic| first
  | ((with_reducible refine isAs ?_); first | refine js_attr 0 (by assumption) (by assumption) ?_ rfl (by first | exact Or.inl rfl | exact Or.inr (Or.inl rfl) | exact Or.inr (Or.inr rfl)) (by decide) (by decide) rfl | refine js_attr 5 (by assumption) (by assumption) ?_ rfl (by first | exact Or.inl rfl | exact Or.inr (Or.inl rfl) | exact Or.inr (Or.inr rfl)) (by decide) (by decide) rfl)
  | refine js_retN ?_)
local macro_rules | `(tactic| walk_at "c") => `(tactic| first | refine exC rfl (celND rfl) ?_ | refine exAt rfl rfl ?_)
local macro_rules | `(tactic| walk_at "x") => `(tactic| (refine isN ?_; first | refine jn_cons ?_ rfl | refine jn_nil ?_))
local macro_rules | `(tactic| walk_at "e") => `(tactic| ((with_reducible refine isMc ?_); first | refine je_pop 2 rfl ?_ rfl (by first | exact Or.inl rfl | exact Or.inr (Or.inl rfl) | exact Or.inr (Or.inr rfl)) (by decide) (by decide) rfl rfl rfl rfl rfl | refine je_pop 6 rfl ?_ rfl (by first | exact Or.inl rfl | exact Or.inr (Or.inl rfl) | exact Or.inr (Or.inr rfl)) (by decide) (by decide) rfl rfl rfl rfl rfl))
local macro_rules | `(tactic| walk_at "g") => `(tactic| refine jg_list ?_ rfl rfl rfl)
section
variable {P : Program} {w : World} {K : PySem.W.Frag} {mg : Str → Option Value} {base : Heap}
/-- the trees of a forest, as labels -/
def forStep (y : Yd) (st : List Nat × List Nat) (t : Nat) : List Nat × List Nat :=
  let o := st.1.getD (y.tk t).1 0
  let w := st.1.getD (y.k + (y.tk t).2) 0
  if o = w then st else (st.1.map fun n => if n = o then w else n, st.2 ++ [t])
def forest (y : Yd) (ts : List Nat) : List Nat := (ts.foldl (forStep y) (List.range (y.k + y.l), [])).2
theorem forStep_len (y : Yd) (st : List Nat × List Nat) (t : Nat) : (forStep y st t).1.length = st.1.length := by
  unfold forStep
  dsimp only
  split
  · rfl
  · rw [List.length_map]
theorem forFold_len (y : Yd) : ∀ (ts : List Nat) (st : List Nat × List Nat), (ts.foldl (forStep y) st).1.length = st.1.length
  | [], _ => rfl
  | t :: ts, st => by rw [List.foldl_cons, forFold_len y ts, forStep_len]
theorem forFold_out (y : Yd) : ∀ (ts : List Nat) (st : List Nat × List Nat), (ts.foldl (forStep y) st).2.length ≤ st.2.length + ts.length
  | [], _ => Nat.le_refl _
  | t :: ts, st => by
    have h := forFold_out y ts (forStep y st t)
    have h2 : (forStep y st t).2.length ≤ st.2.length + 1 := by
      unfold forStep
      dsimp only
      split
      · omega
      · simp
    rw [List.foldl_cons, List.length_cons]
    omega
theorem fold_at {α β : Type} {g : β → α → β} {b : β} {xs : List α} {i : Nat} {x : α} (h : xs[i]? = some x) : (xs.take (i + 1)).foldl g b = g ((xs.take i).foldl g b) x := by
  rw [List.take_add_one, h, List.foldl_append]
  rfl
def S_law_web_forest : Spec := fun cs R => ∃ (y : Yd) (ts : List Nat), cs = [.dat (dY y), .dat (.list (ts.map dN))] ∧ YdOk y ∧ ts.length ≤ 1000 ∧ (∀ t ∈ ts, t < y.tr.length) ∧ ∀ q, R cs (.new (.own q ((forest y ts).map dN)))
theorem sc_law_web_forest : FnScope ["_law_yard", "_law_tracks", "_law_label", "_law_found", "_law_t", "_law_one", "_law_other", "_law_old", "_law_new", "_law_number"] ["_law_yard", "_law_tracks"] (defScope s_law_web_forest) := ⟨rfl, rfl, rfl, by decide +kernel, rfl, by decide +kernel, by decide +kernel⟩
theorem ok_law_web_forest (g : GD K mg "_law_web_forest" s_law_web_forest) (m1 : mg "list" = none) (m2 : mg "range" = none) (D1 : DefOk P w K mg base 1 "_law_web_ends" ["_law_yard", "_law_t"] S_law_web_ends) : DefOk P w K mg base 2 "_law_web_forest" ["_law_yard", "_law_tracks"] S_law_web_forest := by
  refine defD g sc_law_web_forest (by decide) (fun _ _ _ _ _ _ us hl => match us, hl with | [_, _], _ => rfl) (fun cs R h => ?_) fun f_ cdv_ A outer s_ H E cs R hr h => ?_
  · obtain ⟨y, ts, rfl, _⟩ := h
    rfl
  have hN : (["_law_yard", "_law_tracks", "_law_label", "_law_found", "_law_t", "_law_one", "_law_other", "_law_old", "_law_new", "_law_number"] : List Str).Nodup := by decide +kernel
  have nm0 : NmOk (cxOf CX0 P w K mg base ["_law_yard", "_law_tracks", "_law_label", "_law_found", "_law_t", "_law_one", "_law_other", "_law_old", "_law_new", "_law_number"] "_law_web_forest" (defScope s_law_web_forest) f_ cdv_ A outer s_ H E).nox 0 "_law_yard" := ⟨rfl, by first | exact Or.inl rfl | exact Or.inr (Or.inl rfl) | exact Or.inr (Or.inr rfl), by decide, by decide⟩
  have lc0 : LcOk (cxOf CX0 P w K mg base ["_law_yard", "_law_tracks", "_law_label", "_law_found", "_law_t", "_law_one", "_law_other", "_law_old", "_law_new", "_law_number"] "_law_web_forest" (defScope s_law_web_forest) f_ cdv_ A outer s_ H E).nox 0 "_law_yard" := ⟨rfl, by first | exact Or.inl rfl | exact Or.inr rfl, by first | exact Or.inl rfl | exact Or.inr rfl⟩
  have nm1 : NmOk (cxOf CX0 P w K mg base ["_law_yard", "_law_tracks", "_law_label", "_law_found", "_law_t", "_law_one", "_law_other", "_law_old", "_law_new", "_law_number"] "_law_web_forest" (defScope s_law_web_forest) f_ cdv_ A outer s_ H E).nox 1 "_law_tracks" := ⟨rfl, by first | exact Or.inl rfl | exact Or.inr (Or.inl rfl) | exact Or.inr (Or.inr rfl), by decide, by decide⟩
  have lc1 : LcOk (cxOf CX0 P w K mg base ["_law_yard", "_law_tracks", "_law_label", "_law_found", "_law_t", "_law_one", "_law_other", "_law_old", "_law_new", "_law_number"] "_law_web_forest" (defScope s_law_web_forest) f_ cdv_ A outer s_ H E).nox 1 "_law_tracks" := ⟨rfl, by first | exact Or.inl rfl | exact Or.inr rfl, by first | exact Or.inl rfl | exact Or.inr rfl⟩
  have nm2 : NmOk (cxOf CX0 P w K mg base ["_law_yard", "_law_tracks", "_law_label", "_law_found", "_law_t", "_law_one", "_law_other", "_law_old", "_law_new", "_law_number"] "_law_web_forest" (defScope s_law_web_forest) f_ cdv_ A outer s_ H E).nox 2 "_law_label" := ⟨rfl, by first | exact Or.inl rfl | exact Or.inr (Or.inl rfl) | exact Or.inr (Or.inr rfl), by decide, by decide⟩
  have lc2 : LcOk (cxOf CX0 P w K mg base ["_law_yard", "_law_tracks", "_law_label", "_law_found", "_law_t", "_law_one", "_law_other", "_law_old", "_law_new", "_law_number"] "_law_web_forest" (defScope s_law_web_forest) f_ cdv_ A outer s_ H E).nox 2 "_law_label" := ⟨rfl, by first | exact Or.inl rfl | exact Or.inr rfl, by first | exact Or.inl rfl | exact Or.inr rfl⟩
  have nm3 : NmOk (cxOf CX0 P w K mg base ["_law_yard", "_law_tracks", "_law_label", "_law_found", "_law_t", "_law_one", "_law_other", "_law_old", "_law_new", "_law_number"] "_law_web_forest" (defScope s_law_web_forest) f_ cdv_ A outer s_ H E).nox 3 "_law_found" := ⟨rfl, by first | exact Or.inl rfl | exact Or.inr (Or.inl rfl) | exact Or.inr (Or.inr rfl), by decide, by decide⟩
  have lc3 : LcOk (cxOf CX0 P w K mg base ["_law_yard", "_law_tracks", "_law_label", "_law_found", "_law_t", "_law_one", "_law_other", "_law_old", "_law_new", "_law_number"] "_law_web_forest" (defScope s_law_web_forest) f_ cdv_ A outer s_ H E).nox 3 "_law_found" := ⟨rfl, by first | exact Or.inl rfl | exact Or.inr rfl, by first | exact Or.inl rfl | exact Or.inr rfl⟩
  have nm4 : NmOk (cxOf CX0 P w K mg base ["_law_yard", "_law_tracks", "_law_label", "_law_found", "_law_t", "_law_one", "_law_other", "_law_old", "_law_new", "_law_number"] "_law_web_forest" (defScope s_law_web_forest) f_ cdv_ A outer s_ H E).nox 4 "_law_t" := ⟨rfl, by first | exact Or.inl rfl | exact Or.inr (Or.inl rfl) | exact Or.inr (Or.inr rfl), by decide, by decide⟩
  have lc4 : LcOk (cxOf CX0 P w K mg base ["_law_yard", "_law_tracks", "_law_label", "_law_found", "_law_t", "_law_one", "_law_other", "_law_old", "_law_new", "_law_number"] "_law_web_forest" (defScope s_law_web_forest) f_ cdv_ A outer s_ H E).nox 4 "_law_t" := ⟨rfl, by first | exact Or.inl rfl | exact Or.inr rfl, by first | exact Or.inl rfl | exact Or.inr rfl⟩
  have nm5 : NmOk (cxOf CX0 P w K mg base ["_law_yard", "_law_tracks", "_law_label", "_law_found", "_law_t", "_law_one", "_law_other", "_law_old", "_law_new", "_law_number"] "_law_web_forest" (defScope s_law_web_forest) f_ cdv_ A outer s_ H E).nox 5 "_law_one" := ⟨rfl, by first | exact Or.inl rfl | exact Or.inr (Or.inl rfl) | exact Or.inr (Or.inr rfl), by decide, by decide⟩
  have lc5 : LcOk (cxOf CX0 P w K mg base ["_law_yard", "_law_tracks", "_law_label", "_law_found", "_law_t", "_law_one", "_law_other", "_law_old", "_law_new", "_law_number"] "_law_web_forest" (defScope s_law_web_forest) f_ cdv_ A outer s_ H E).nox 5 "_law_one" := ⟨rfl, by first | exact Or.inl rfl | exact Or.inr rfl, by first | exact Or.inl rfl | exact Or.inr rfl⟩
  have nm6 : NmOk (cxOf CX0 P w K mg base ["_law_yard", "_law_tracks", "_law_label", "_law_found", "_law_t", "_law_one", "_law_other", "_law_old", "_law_new", "_law_number"] "_law_web_forest" (defScope s_law_web_forest) f_ cdv_ A outer s_ H E).nox 6 "_law_other" := ⟨rfl, by first | exact Or.inl rfl | exact Or.inr (Or.inl rfl) | exact Or.inr (Or.inr rfl), by decide, by decide⟩
  have lc6 : LcOk (cxOf CX0 P w K mg base ["_law_yard", "_law_tracks", "_law_label", "_law_found", "_law_t", "_law_one", "_law_other", "_law_old", "_law_new", "_law_number"] "_law_web_forest" (defScope s_law_web_forest) f_ cdv_ A outer s_ H E).nox 6 "_law_other" := ⟨rfl, by first | exact Or.inl rfl | exact Or.inr rfl, by first | exact Or.inl rfl | exact Or.inr rfl⟩
  have nm7 : NmOk (cxOf CX0 P w K mg base ["_law_yard", "_law_tracks", "_law_label", "_law_found", "_law_t", "_law_one", "_law_other", "_law_old", "_law_new", "_law_number"] "_law_web_forest" (defScope s_law_web_forest) f_ cdv_ A outer s_ H E).nox 7 "_law_old" := ⟨rfl, by first | exact Or.inl rfl | exact Or.inr (Or.inl rfl) | exact Or.inr (Or.inr rfl), by decide, by decide⟩
  have lc7 : LcOk (cxOf CX0 P w K mg base ["_law_yard", "_law_tracks", "_law_label", "_law_found", "_law_t", "_law_one", "_law_other", "_law_old", "_law_new", "_law_number"] "_law_web_forest" (defScope s_law_web_forest) f_ cdv_ A outer s_ H E).nox 7 "_law_old" := ⟨rfl, by first | exact Or.inl rfl | exact Or.inr rfl, by first | exact Or.inl rfl | exact Or.inr rfl⟩
  have nm8 : NmOk (cxOf CX0 P w K mg base ["_law_yard", "_law_tracks", "_law_label", "_law_found", "_law_t", "_law_one", "_law_other", "_law_old", "_law_new", "_law_number"] "_law_web_forest" (defScope s_law_web_forest) f_ cdv_ A outer s_ H E).nox 8 "_law_new" := ⟨rfl, by first | exact Or.inl rfl | exact Or.inr (Or.inl rfl) | exact Or.inr (Or.inr rfl), by decide, by decide⟩
  have lc8 : LcOk (cxOf CX0 P w K mg base ["_law_yard", "_law_tracks", "_law_label", "_law_found", "_law_t", "_law_one", "_law_other", "_law_old", "_law_new", "_law_number"] "_law_web_forest" (defScope s_law_web_forest) f_ cdv_ A outer s_ H E).nox 8 "_law_new" := ⟨rfl, by first | exact Or.inl rfl | exact Or.inr rfl, by first | exact Or.inl rfl | exact Or.inr rfl⟩
  have dD1 : DefOk (cxOf CX0 P w K mg base ["_law_yard", "_law_tracks", "_law_label", "_law_found", "_law_t", "_law_one", "_law_other", "_law_old", "_law_new", "_law_number"] "_law_web_forest" (defScope s_law_web_forest) f_ cdv_ A outer s_ H E).nox.prog (cxOf CX0 P w K mg base ["_law_yard", "_law_tracks", "_law_label", "_law_found", "_law_t", "_law_one", "_law_other", "_law_old", "_law_new", "_law_number"] "_law_web_forest" (defScope s_law_web_forest) f_ cdv_ A outer s_ H E).nox.w (cxOf CX0 P w K mg base ["_law_yard", "_law_tracks", "_law_label", "_law_found", "_law_t", "_law_one", "_law_other", "_law_old", "_law_new", "_law_number"] "_law_web_forest" (defScope s_law_web_forest) f_ cdv_ A outer s_ H E).nox.K (cxOf CX0 P w K mg base ["_law_yard", "_law_tracks", "_law_label", "_law_found", "_law_t", "_law_one", "_law_other", "_law_old", "_law_new", "_law_number"] "_law_web_forest" (defScope s_law_web_forest) f_ cdv_ A outer s_ H E).nox.mg (cxOf CX0 P w K mg base ["_law_yard", "_law_tracks", "_law_label", "_law_found", "_law_t", "_law_one", "_law_other", "_law_old", "_law_new", "_law_number"] "_law_web_forest" (defScope s_law_web_forest) f_ cdv_ A outer s_ H E).nox.base 1 "_law_web_ends" ["_law_yard", "_law_t"] S_law_web_ends := D1
  obtain ⟨y, ts, rfl, hy, hz, ht, hR⟩ := h
  have b1 := hy.k2
  have b2 := hy.l2
  refine js_cons ?_
  refine js_par2 2 3 (by decide) ?_ rfl hN rfl rfl rfl rfl rfl rfl
  walk_at "go"
  refine ⟨y.k + y.l, rfl, by omega, fun q1 => ?_⟩
  walk_at "go"
  rename_i q2
  refine exN2 rfl rfl ?_
  walk_at "go"
  refine ji_list ?_
  walk_at "go"
  refine ⟨fun i ρ => ∃ q c1 c2 c3 c4 c5, ρ = [some (.dat (dY y)), some (.dat (.list (ts.map dN))), some (.own q (((ts.take i).foldl (forStep y) (List.range (y.k + y.l), [])).1.map dN)), some (.own q2 (((ts.take i).foldl (forStep y) (List.range (y.k + y.l), [])).2.map dN)), c1, c2, c3, c4, c5, none], ⟨q1, none, none, none, none, none, rfl⟩, fun i ρ2 hi hI => ?_, fun ρ2 hI => ?_⟩
  · obtain ⟨q, c1, c2, c3, c4, c5, rfl⟩ := hI
    rw [List.length_map] at hi
    obtain ⟨x, hx⟩ : ∃ x, ts[i]? = some x := ⟨_, List.getElem?_eq_getElem hi⟩
    have hxt := ht x (List.mem_of_getElem? hx)
    obtain ⟨e1, e2, e3⟩ := tk_at hy hxt
    have hfs := fold_at (g := forStep y) (b := (List.range (y.k + y.l), [])) hx
    have hl1 := forFold_len y (ts.take i) (List.range (y.k + y.l), [])
    have hl2 := forFold_out y (ts.take i) (List.range (y.k + y.l), [])
    generalize (ts.take i).foldl (forStep y) (List.range (y.k + y.l), []) = st at hfs hl1 hl2 ⊢
    simp only [List.length_range, List.length_take, List.length_nil] at hl1 hl2
    have l1 : (y.tk x).1 < st.1.length := by omega
    have l2 : y.k + (y.tk x).2 < st.1.length := by omega
    obtain ⟨o, ho⟩ : ∃ o, st.1[(y.tk x).1]? = some o := ⟨_, List.getElem?_eq_getElem l1⟩
    obtain ⟨u, hu⟩ : ∃ o, st.1[y.k + (y.tk x).2]? = some o := ⟨_, List.getElem?_eq_getElem l2⟩
    have hst : forStep y st x = if o = u then st else (st.1.map fun n => if n = o then u else n, st.2 ++ [x]) := by
      unfold forStep
      simp only [List.getD_eq_getElem?_getD, ho, hu, Option.getD_some]
    rw [hst] at hfs
    refine jg_eq (d' := dN x) (by dsimp only; rw [map_get hx]) ?_
    walk_at "go"
    refine ⟨y, x, rfl, hy, hxt, fun q5 => ?_⟩
    walk_at "go"
    refine Or.inr ⟨cm_N _, cm_N _, fun t ht => ?_⟩
    have e := tNe ht nat_eq
    refine okB (fun z => ?_) (fun z => ?_)
    · rw [z] at e
      have e2 : ¬ o = u := by simpa using e
      rw [if_neg e2] at hfs
      walk_at "go"
      refine ⟨_, _, rfl, by rw [List.length_map]; omega, ?_⟩
      refine jss_freeze 2 rfl ?_
      refine js_one ?_
      refine js_setLc0 [("_law_number", 9)] 2 [9] ?_ (by simp) (by simp) (tgok_name 9 fun s H C cl fp => pg_name (by assumption) rfl (Or.inl rfl)) rfl (by assumption) rfl rfl (by walk_at "blk") (fun _ => rfl) rfl
      refine ji_list ?_
      walk_at "go"
      refine ⟨fun i acc => acc = ((st.1.take i).map fun n => if n = o then u else n).map dN, rfl, by rw [List.length_map]; omega, ltAll rfl, fun i' acc hi' hI => ?_, fun acc p hI => ?_⟩
      · rw [List.length_map] at hi'
        obtain ⟨n, hn⟩ : ∃ x, st.1[i']? = some x := ⟨_, List.getElem?_eq_getElem hi'⟩
        refine ⟨[dN n], tg1 hn, fun s H C cl fp => ?_⟩
        walk_at "go"
        refine Or.inr ⟨cm_N _, cm_N _, fun t ht => ?_⟩
        have e9 := tEq ht nat_eq
        refine okB (fun z => ?_) (fun z => ?_)
        · rw [z] at e9
          have e8 : n = o := of_decide_eq_true e9.symm
          walk_at "go"
          refine ⟨rfl, ?_⟩
          show _ = _
          rw [hI, List.take_add_one, hn]
          simp [e8]
        · rw [z] at e9
          have e8 : ¬ n = o := of_decide_eq_false e9.symm
          walk_at "go"
          refine ⟨rfl, ?_⟩
          show _ = _
          rw [hI, List.take_add_one, hn]
          simp [e8]
      · subst hI
        walk_at "go"
        refine ⟨p, some (.dat (dN x)), some (.dat (dN (y.tk x).1)), some (.dat (dN (y.k + (y.tk x).2))), some (.dat (dN o)), some (.dat (dN u)), ?_⟩
        rw [hfs, List.length_map, List.take_length]
        simp only [List.map_append]
        rfl
    · rw [z] at e
      have e2 : o = u := by simpa using e
      rw [if_pos e2] at hfs
      walk_at "go"
      refine ⟨q, some (.dat (dN x)), some (.dat (dN (y.tk x).1)), some (.dat (dN (y.k + (y.tk x).2))), some (.dat (dN o)), some (.dat (dN u)), ?_⟩
      rw [hfs]
      rfl
  · obtain ⟨q, c1, c2, c3, c4, c5, rfl⟩ := hI
    walk_at "go"
    refine ⟨by walk_at "bk", Nat.le_of_ble_eq_true rfl, _, rfl, ?_⟩
    rw [List.length_map, List.take_length]
    exact hR q2

end
end
section
local macro_rules | `(tactic| walk_at "e") => `(tactic| first
  | ((with_reducible refine isAt ?_); first | refine je_attr 0 (by assumption) (by assumption) rfl rfl ?_ rfl (by first | exact Or.inl rfl | exact Or.inr (Or.inl rfl) | exact Or.inr (Or.inr rfl)) (by decide) (by decide) rfl | refine je_attr 4 (by assumption) (by assumption) rfl rfl ?_ rfl (by first | exact Or.inl rfl | exact Or.inr (Or.inl rfl) | exact Or.inr (Or.inr rfl)) (by decide) (by decide) rfl | refine je_attr 5 (by assumption) (by assumption) rfl rfl ?_ rfl (by first | exact Or.inl rfl | exact Or.inr (Or.inl rfl) | exact Or.inr (Or.inr rfl)) (by decide) (by decide) rfl | refine je_attr 8 (by assumption) (by assumption) rfl rfl ?_ rfl (by first | exact Or.inl rfl | exact Or.inr (Or.inl rfl) | exact Or.inr (Or.inr rfl)) (by decide) (by decide) rfl)
  | ((with_reducible refine isMc ?_); first | refine je_meth0D 0 (by assumption) (by assumption) (Room.mono (by assumption) (by decide)) rfl rfl ?_ rfl (by first | exact Or.inl rfl | exact Or.inr (Or.inl rfl) | exact Or.inr (Or.inr rfl)) (by decide) (by decide) rfl | refine je_methD 0 (by assumption) (by assumption) (Room.mono (by assumption) (by decide)) rfl rfl ?_ rfl (by first | exact Or.inl rfl | exact Or.inr (Or.inl rfl) | exact Or.inr (Or.inr rfl)) (by decide) (by decide) rfl rfl rfl | refine je_meth0D 4 (by assumption) (by assumption) (Room.mono (by assumption) (by decide)) rfl rfl ?_ rfl (by first | exact Or.inl rfl | exact Or.inr (Or.inl rfl) | exact Or.inr (Or.inr rfl)) (by decide) (by decide) rfl | refine je_methD 4 (by assumption) (by assumption) (Room.mono (by assumption) (by decide)) rfl rfl ?_ rfl (by first | exact Or.inl rfl | exact Or.inr (Or.inl rfl) | exact Or.inr (Or.inr rfl)) (by decide) (by decide) rfl rfl rfl | refine je_meth0D 8 (by assumption) (by assumption) (Room.mono (by assumption) (by decide)) rfl rfl ?_ rfl (by first | exact Or.inl rfl | exact Or.inr (Or.inl rfl) | exact Or.inr (Or.inr rfl)) (by decide) (by decide) rfl | refine je_methD 8 (by assumption) (by assumption) (Room.mono (by assumption) (by decide)) rfl rfl ?_ rfl (by first | exact Or.inl rfl | exact Or.inr (Or.inl rfl) | exact Or.inr (Or.inr rfl)) (by decide) (by decide) rfl rfl rfl))
local macro_rules | `(tactic| walk_at "s") => `(tactic| first
  | ((with_reducible refine isAs ?_); first | refine js_attr 0 (by assumption) (by assumption) ?_ rfl (by first | exact Or.inl rfl | exact Or.inr (Or.inl rfl) | exact Or.inr (Or.inr rfl)) (by decide) (by decide) rfl | refine js_attr 5 (by assumption) (by assumption) ?_ rfl (by first | exact Or.inl rfl | exact Or.inr (Or.inl rfl) | exact Or.inr (Or.inr rfl)) (by decide) (by decide) rfl)
  | refine js_retN ?_)
local macro_rules | `(tactic| walk_at "c") => `(tactic| first | refine exC rfl (celND rfl) ?_ | refine exAt rfl rfl ?_)
local macro_rules | `(tactic| walk_at "x") => `(tactic| (refine isN ?_; first | refine jn_cons ?_ rfl | refine jn_nil ?_))
local macro_rules | `(tactic| walk_at "e") => `(tactic| ((with_reducible refine isMc ?_); first | refine je_pop 2 rfl ?_ rfl (by first | exact Or.inl rfl | exact Or.inr (Or.inl rfl) | exact Or.inr (Or.inr rfl)) (by decide) (by decide) rfl rfl rfl rfl rfl | refine je_pop 6 rfl ?_ rfl (by first | exact Or.inl rfl | exact Or.inr (Or.inl rfl) | exact Or.inr (Or.inr rfl)) (by decide) (by decide) rfl rfl rfl rfl rfl))
local macro_rules | `(tactic| walk_at "e") => `(tactic| ((with_reducible refine isSb ?_); refine je_slHi ?_))
section
variable {P : Program} {w : World} {K : PySem.W.Frag} {mg : Str → Option Value} {base : Heap}
theorem forFold_sub (y : Yd) : ∀ (ts : List Nat) (st : List Nat × List Nat), ∃ l, l.Sublist ts ∧ (ts.foldl (forStep y) st).2 = st.2 ++ l
  | [], st => ⟨[], .slnil, by simp⟩
  | t :: ts, st => by
    obtain ⟨l, h1, h2⟩ := forFold_sub y ts (forStep y st t)
    rw [List.foldl_cons, h2]
    unfold forStep
    dsimp only
    split
    · exact ⟨l, h1.cons _, rfl⟩
    · exact ⟨t :: l, h1.cons_cons _, by simp⟩
theorem forest_sub (y : Yd) (ts : List Nat) : (forest y ts).Sublist ts := by
  obtain ⟨l, h1, h2⟩ := forFold_sub y ts (List.range (y.k + y.l), [])
  unfold forest
  rw [h2]
  exact h1
/-- what is drawn: some tracks of a forest -/
def Drawn (y : Yd) (c : List Nat) : Prop := ∃ ts, ts.Perm (List.range y.tr.length) ∧ c.Perm ((forest y ts).take 7) ∧ c.Pairwise (· < ·)
def S_law_web_drawn_forest : Spec := fun cs R => ∃ (p : Addr) (y : Yd), cs = [.pool p, .dat (dY y), .dat (dN 7)] ∧ YdOk y ∧ ∀ c, Drawn y c → R cs (.dat (dL c))
theorem sc_law_web_drawn_forest : FnScope ["_law_pool_here", "_law_yard", "_law_most", "_law_turned_here", "_law_t"] ["_law_pool_here", "_law_yard", "_law_most"] (defScope s_law_web_drawn_forest) := ⟨rfl, rfl, rfl, by decide +kernel, rfl, by decide +kernel, by decide +kernel⟩
theorem ok_law_web_drawn_forest (g : GD K mg "_law_web_drawn_forest" s_law_web_drawn_forest) (m1 : mg "len" = none) (m2 : mg "int" = none) (m3 : mg "sorted" = none) (m4 : mg "tuple" = none) (D1 : DefOk P w K mg base 2 "_law_turned" ["_law_pool_here", "_law_many"] S_law_turned) (D2 : DefOk P w K mg base 2 "_law_web_forest" ["_law_yard", "_law_tracks"] S_law_web_forest) : DefOk P w K mg base 3 "_law_web_drawn_forest" ["_law_pool_here", "_law_yard", "_law_most"] S_law_web_drawn_forest := by
  refine defD g sc_law_web_drawn_forest (by decide) (fun _ _ _ _ _ _ us hl => match us, hl with | [_, _, _], _ => rfl) (fun cs R h => ?_) fun f_ cdv_ A outer s_ H E cs R hr h => ?_
  · obtain ⟨p, y, rfl, _⟩ := h
    rfl
  have hN : (["_law_pool_here", "_law_yard", "_law_most", "_law_turned_here", "_law_t"] : List Str).Nodup := by decide +kernel
  have nm0 : NmOk (cxOf CX0 P w K mg base ["_law_pool_here", "_law_yard", "_law_most", "_law_turned_here", "_law_t"] "_law_web_drawn_forest" (defScope s_law_web_drawn_forest) f_ cdv_ A outer s_ H E).nox 0 "_law_pool_here" := ⟨rfl, by first | exact Or.inl rfl | exact Or.inr (Or.inl rfl) | exact Or.inr (Or.inr rfl), by decide, by decide⟩
  have lc0 : LcOk (cxOf CX0 P w K mg base ["_law_pool_here", "_law_yard", "_law_most", "_law_turned_here", "_law_t"] "_law_web_drawn_forest" (defScope s_law_web_drawn_forest) f_ cdv_ A outer s_ H E).nox 0 "_law_pool_here" := ⟨rfl, by first | exact Or.inl rfl | exact Or.inr rfl, by first | exact Or.inl rfl | exact Or.inr rfl⟩
  have nm1 : NmOk (cxOf CX0 P w K mg base ["_law_pool_here", "_law_yard", "_law_most", "_law_turned_here", "_law_t"] "_law_web_drawn_forest" (defScope s_law_web_drawn_forest) f_ cdv_ A outer s_ H E).nox 1 "_law_yard" := ⟨rfl, by first | exact Or.inl rfl | exact Or.inr (Or.inl rfl) | exact Or.inr (Or.inr rfl), by decide, by decide⟩
  have lc1 : LcOk (cxOf CX0 P w K mg base ["_law_pool_here", "_law_yard", "_law_most", "_law_turned_here", "_law_t"] "_law_web_drawn_forest" (defScope s_law_web_drawn_forest) f_ cdv_ A outer s_ H E).nox 1 "_law_yard" := ⟨rfl, by first | exact Or.inl rfl | exact Or.inr rfl, by first | exact Or.inl rfl | exact Or.inr rfl⟩
  have nm2 : NmOk (cxOf CX0 P w K mg base ["_law_pool_here", "_law_yard", "_law_most", "_law_turned_here", "_law_t"] "_law_web_drawn_forest" (defScope s_law_web_drawn_forest) f_ cdv_ A outer s_ H E).nox 2 "_law_most" := ⟨rfl, by first | exact Or.inl rfl | exact Or.inr (Or.inl rfl) | exact Or.inr (Or.inr rfl), by decide, by decide⟩
  have lc2 : LcOk (cxOf CX0 P w K mg base ["_law_pool_here", "_law_yard", "_law_most", "_law_turned_here", "_law_t"] "_law_web_drawn_forest" (defScope s_law_web_drawn_forest) f_ cdv_ A outer s_ H E).nox 2 "_law_most" := ⟨rfl, by first | exact Or.inl rfl | exact Or.inr rfl, by first | exact Or.inl rfl | exact Or.inr rfl⟩
  have nm3 : NmOk (cxOf CX0 P w K mg base ["_law_pool_here", "_law_yard", "_law_most", "_law_turned_here", "_law_t"] "_law_web_drawn_forest" (defScope s_law_web_drawn_forest) f_ cdv_ A outer s_ H E).nox 3 "_law_turned_here" := ⟨rfl, by first | exact Or.inl rfl | exact Or.inr (Or.inl rfl) | exact Or.inr (Or.inr rfl), by decide, by decide⟩
  have lc3 : LcOk (cxOf CX0 P w K mg base ["_law_pool_here", "_law_yard", "_law_most", "_law_turned_here", "_law_t"] "_law_web_drawn_forest" (defScope s_law_web_drawn_forest) f_ cdv_ A outer s_ H E).nox 3 "_law_turned_here" := ⟨rfl, by first | exact Or.inl rfl | exact Or.inr rfl, by first | exact Or.inl rfl | exact Or.inr rfl⟩
  have dD1 : DefOk (cxOf CX0 P w K mg base ["_law_pool_here", "_law_yard", "_law_most", "_law_turned_here", "_law_t"] "_law_web_drawn_forest" (defScope s_law_web_drawn_forest) f_ cdv_ A outer s_ H E).nox.prog (cxOf CX0 P w K mg base ["_law_pool_here", "_law_yard", "_law_most", "_law_turned_here", "_law_t"] "_law_web_drawn_forest" (defScope s_law_web_drawn_forest) f_ cdv_ A outer s_ H E).nox.w (cxOf CX0 P w K mg base ["_law_pool_here", "_law_yard", "_law_most", "_law_turned_here", "_law_t"] "_law_web_drawn_forest" (defScope s_law_web_drawn_forest) f_ cdv_ A outer s_ H E).nox.K (cxOf CX0 P w K mg base ["_law_pool_here", "_law_yard", "_law_most", "_law_turned_here", "_law_t"] "_law_web_drawn_forest" (defScope s_law_web_drawn_forest) f_ cdv_ A outer s_ H E).nox.mg (cxOf CX0 P w K mg base ["_law_pool_here", "_law_yard", "_law_most", "_law_turned_here", "_law_t"] "_law_web_drawn_forest" (defScope s_law_web_drawn_forest) f_ cdv_ A outer s_ H E).nox.base 2 "_law_turned" ["_law_pool_here", "_law_many"] S_law_turned := D1
  have dD2 : DefOk (cxOf CX0 P w K mg base ["_law_pool_here", "_law_yard", "_law_most", "_law_turned_here", "_law_t"] "_law_web_drawn_forest" (defScope s_law_web_drawn_forest) f_ cdv_ A outer s_ H E).nox.prog (cxOf CX0 P w K mg base ["_law_pool_here", "_law_yard", "_law_most", "_law_turned_here", "_law_t"] "_law_web_drawn_forest" (defScope s_law_web_drawn_forest) f_ cdv_ A outer s_ H E).nox.w (cxOf CX0 P w K mg base ["_law_pool_here", "_law_yard", "_law_most", "_law_turned_here", "_law_t"] "_law_web_drawn_forest" (defScope s_law_web_drawn_forest) f_ cdv_ A outer s_ H E).nox.K (cxOf CX0 P w K mg base ["_law_pool_here", "_law_yard", "_law_most", "_law_turned_here", "_law_t"] "_law_web_drawn_forest" (defScope s_law_web_drawn_forest) f_ cdv_ A outer s_ H E).nox.mg (cxOf CX0 P w K mg base ["_law_pool_here", "_law_yard", "_law_most", "_law_turned_here", "_law_t"] "_law_web_drawn_forest" (defScope s_law_web_drawn_forest) f_ cdv_ A outer s_ H E).nox.base 2 "_law_web_forest" ["_law_yard", "_law_tracks"] S_law_web_forest := D2
  obtain ⟨p, y, rfl, hy, hR⟩ := h
  have b1 := hy.len
  refine js_cons ?_
  refine js_setLc0 [("_law_t", 4)] 3 [4] ?_ (by simp) (by simp) (tgok_name 4 fun s H C cl fp => pg_name (by assumption) rfl (Or.inl rfl)) rfl (by assumption) rfl rfl (by walk_at "blk") (fun _ => rfl) rfl
  refine ji_list ?_
  walk_at "go"
  refine ⟨p, y.tr.length, by simp only [List.length_map], by omega, fun L q1 hL => ?_⟩
  have hLl : L.length = y.tr.length := by rw [hL.length_eq, List.length_range]
  walk_at "go"
  refine ⟨fun i acc => acc = (L.take i).map dN, rfl, by rw [List.length_map]; omega, ltAll rfl, fun i acc hi hI => ?_, fun acc q hI => ?_⟩
  · rw [List.length_map] at hi
    obtain ⟨x, hx⟩ : ∃ x, L[i]? = some x := ⟨_, List.getElem?_eq_getElem hi⟩
    refine ⟨[dN x], tg1 hx, fun s H C cl fp => ?_⟩
    walk_at "go"
    refine ⟨rfl, ?_⟩
    show _ = _
    rw [hI, List.take_add_one, hx]
    simp
  · subst hI
    walk_at "x"
    refine jss_freeze 3 rfl ?_
    walk_at "go"
    refine ⟨y, L, by rw [List.length_map, List.take_length], hy, by omega, fun t ht => ?_, fun q2 => ?_⟩
    · have := hL.subset ht
      simpa using this
    iterate 2 walk_at "x"
    refine sl_hiL (i := 7) fun q3 => ?_
    have hnd : ((forest y L).take 7).Nodup := ((List.take_sublist 7 _).trans (forest_sub y L)).nodup (hL.nodup_iff.mpr List.nodup_range)
    walk_at "go"
    refine ⟨((forest y L).take 7).map fun i : Nat => (i : Int), by rw [List.map_map]; rfl, fun ns' q4 hp hle => ?_⟩
    obtain ⟨c, rfl, hcp, hcs⟩ := sorted_nat hp hle hnd
    have ec : (c.map fun i : Nat => (i : Int)).map PyData.int = c.map dN := by rw [List.map_map]; rfl
    rw [ec]
    walk_at "go"
    exact ⟨by walk_at "bk", hR c ⟨L, hL, hcp, hcs⟩⟩

end
end
section
local macro_rules | `(tactic| walk_at "e") => `(tactic| first
  | ((with_reducible refine isAt ?_); first | refine je_attr 0 (by assumption) (by assumption) rfl rfl ?_ rfl (by first | exact Or.inl rfl | exact Or.inr (Or.inl rfl) | exact Or.inr (Or.inr rfl)) (by decide) (by decide) rfl | refine je_attr 4 (by assumption) (by assumption) rfl rfl ?_ rfl (by first | exact Or.inl rfl | exact Or.inr (Or.inl rfl) | exact Or.inr (Or.inr rfl)) (by decide) (by decide) rfl | refine je_attr 5 (by assumption) (by assumption) rfl rfl ?_ rfl (by first | exact Or.inl rfl | exact Or.inr (Or.inl rfl) | exact Or.inr (Or.inr rfl)) (by decide) (by decide) rfl | refine je_attr 8 (by assumption) (by assumption) rfl rfl ?_ rfl (by first | exact Or.inl rfl | exact Or.inr (Or.inl rfl) | exact Or.inr (Or.inr rfl)) (by decide) (by decide) rfl)
  | ((with_reducible refine isMc ?_); first | refine je_meth0D 0 (by assumption) (by assumption) (Room.mono (by assumption) (by decide)) rfl rfl ?_ rfl (by first | exact Or.inl rfl | exact Or.inr (Or.inl rfl) | exact Or.inr (Or.inr rfl)) (by decide) (by decide) rfl | refine je_methD 0 (by assumption) (by assumption) (Room.mono (by assumption) (by decide)) rfl rfl ?_ rfl (by first | exact Or.inl rfl | exact Or.inr (Or.inl rfl) | exact Or.inr (Or.inr rfl)) (by decide) (by decide) rfl rfl rfl | refine je_meth0D 4 (by assumption) (by assumption) (Room.mono (by assumption) (by decide)) rfl rfl ?_ rfl (by first | exact Or.inl rfl | exact Or.inr (Or.inl rfl) | exact Or.inr (Or.inr rfl)) (by decide) (by decide) rfl | refine je_methD 4 (by assumption) (by assumption) (Room.mono (by assumption) (by decide)) rfl rfl ?_ rfl (by first | exact Or.inl rfl | exact Or.inr (Or.inl rfl) | exact Or.inr (Or.inr rfl)) (by decide) (by decide) rfl rfl rfl | refine je_meth0D 8 (by assumption) (by assumption) (Room.mono (by assumption) (by decide)) rfl rfl ?_ rfl (by first | exact Or.inl rfl | exact Or.inr (Or.inl rfl) | exact Or.inr (Or.inr rfl)) (by decide) (by decide) rfl | refine je_methD 8 (by assumption) (by assumption) (Room.mono (by assumption) (by decide)) rfl rfl ?_ rfl (by first | exact Or.inl rfl | exact Or.inr (Or.inl rfl) | exact Or.inr (Or.inr rfl)) (by decide) (by decide) rfl rfl rfl))
local macro_rules | `(tactic| walk_at "s") => `(tactic| first
  | ((with_reducible refine isAs ?_); first | refine js_attr 0 (by assumption) (by assumption) ?_ rfl (by first | exact Or.inl rfl | exact Or.inr (Or.inl rfl) | exact Or.inr (Or.inr rfl)) (by decide) (by decide) rfl | refine js_attr 5 (by assumption) (by assumption) ?_ rfl (by first | exact Or.inl rfl | exact Or.inr (Or.inl rfl) | exact Or.inr (Or.inr rfl)) (by decide) (by decide) rfl)
  | refine js_retN ?_)
local macro_rules | `(tactic| walk_at "c") => `(tactic| first | refine exC rfl (celND rfl) ?_ | refine exAt rfl rfl ?_)
local macro_rules | `(tactic| walk_at "x") => `(tactic| (refine isN ?_; first | refine jn_cons ?_ rfl | refine jn_nil ?_))
local macro_rules | `(tactic| walk_at "e") => `(tactic| ((with_reducible refine isMc ?_); first | refine je_pop 2 rfl ?_ rfl (by first | exact Or.inl rfl | exact Or.inr (Or.inl rfl) | exact Or.inr (Or.inr rfl)) (by decide) (by decide) rfl rfl rfl rfl rfl | refine je_pop 6 rfl ?_ rfl (by first | exact Or.inl rfl | exact Or.inr (Or.inl rfl) | exact Or.inr (Or.inr rfl)) (by decide) (by decide) rfl rfl rfl rfl rfl))
local macro_rules | `(tactic| walk_at "e") => `(tactic| ((with_reducible refine isSb ?_); refine je_slHi ?_))
local macro_rules | `(tactic| walk_at "t") => `(tactic| refine jt_lotsNe (Room.units (by assumption)) 4 rfl (by first | exact Or.inl rfl | exact Or.inr (Or.inl rfl) | exact Or.inr (Or.inr rfl)) (by decide) (by decide) rfl ?_ (fun _ _ => rfl) rfl)
local macro_rules | `(tactic| walk_at "e") => `(tactic| ((with_reducible refine isMc ?_); refine je_lotsPop 4 rfl (by first | exact Or.inl rfl | exact Or.inr (Or.inl rfl) | exact Or.inr (Or.inr rfl)) (by decide) (by decide) rfl ?_ (fun _ _ => rfl) rfl rfl rfl rfl rfl))
section
variable {P : Program} {w : World} {K : PySem.W.Frag} {mg : Str → Option Value} {base : Heap}
/-- what the drawing of row and dealing gives -/
structure Rising (ts r d : List Nat) : Prop where
  perm : r.Perm (List.range r.length)
  len : d.length = r.length
  rng : ∀ t ∈ d, t ∈ ts
  rise : ∀ i j t : Nat, i < j → d[i]? = some t → d[j]? = some t → r.getD i 0 < r.getD j 0
theorem flat_set {xs : List (List Nat)} {j x : Nat} {l : List Nat} (h : xs[j]? = some l) : (xs.set j (l ++ [x])).flatten.Perm (xs.flatten ++ [x]) := by
  induction xs generalizing j with
  | nil => simp at h
  | cons y ys ih =>
    cases j with
    | zero =>
      cases (Option.some.inj h)
      show ((l ++ [x]) ++ ys.flatten).Perm ((l ++ ys.flatten) ++ [x])
      rw [List.append_assoc, List.append_assoc]
      exact List.Perm.append_left l List.perm_append_comm
    | succ j =>
      have := ih (j := j) (by simpa using h)
      show (y ++ (ys.set j (l ++ [x])).flatten).Perm ((y ++ ys.flatten) ++ [x])
      rw [List.append_assoc]
      exact List.Perm.append_left y this
theorem flat_pop {xs : List (List Nat)} {j x : Nat} {l : List Nat} (h : xs[j]? = some (x :: l)) : (x :: (xs.set j l).flatten).Perm xs.flatten := by
  induction xs generalizing j with
  | nil => simp at h
  | cons y ys ih =>
    cases j with
    | zero =>
      cases (Option.some.inj h)
      exact List.Perm.refl _
    | succ j =>
      have := ih (j := j) (by simpa using h)
      show (x :: (y ++ (ys.set j l).flatten)).Perm (y ++ ys.flatten)
      exact List.perm_middle.symm.trans (List.Perm.append_left y this)
def dLL (xs : List (List Nat)) : List (List PyData) := xs.map fun l => l.map dN
theorem dLL_at {xs : List (List Nat)} {j : Nat} {l : List Nat} (h : xs[j]? = some l) : (dLL xs)[j]? = some (l.map dN) := by
  unfold dLL
  rw [List.getElem?_map, h]
  rfl
theorem dLL_set {xs : List (List Nat)} {j : Nat} {l : List Nat} : (dLL xs).set j (l.map dN) = dLL (xs.set j l) := by
  unfold dLL
  rw [List.map_set]
/-- midway -/
structure Mid (ts : List Nat) (lots : List (List Nat)) (r d : List Nat) (m j : Nat) : Prop where
  l1 : lots.length = ts.length
  l2 : (r ++ lots.flatten).Perm (List.range m)
  l3 : ∀ l ∈ lots, l.Pairwise (· < ·)
  rl : r.length = j
  dl : d.length = j
  rng : ∀ t ∈ d, t ∈ ts
  rise : ∀ i j t : Nat, i < j → d[i]? = some t → d[j]? = some t → r.getD i 0 < r.getD j 0
  low : ∀ (i a t : Nat) (l : List Nat) (x : Nat), d[i]? = some t → ts[a]? = some t → lots[a]? = some l → x ∈ l → r.getD i 0 < x
theorem getD_snoc {r : List Nat} {x i : Nat} (h : i < r.length) : (r ++ [x]).getD i 0 = r.getD i 0 := by
  rw [List.getD_eq_getElem?_getD, List.getD_eq_getElem?_getD, List.getElem?_append_left h]
theorem getD_last {r : List Nat} {x : Nat} : (r ++ [x]).getD r.length 0 = x := by
  rw [List.getD_eq_getElem?_getD]
  simp
theorem Mid.next {ts : List Nat} {lots : List (List Nat)} {r d : List Nat} {m j a x t : Nat} {l : List Nat} (h : Mid ts lots r d m j) (nd : ts.Nodup) (ht : ts[a]? = some t) (hl : lots[a]? = some (x :: l)) : Mid ts (lots.set a l) (r ++ [x]) (d ++ [t]) m (j + 1) := by
  have hlm := List.mem_of_getElem? hl
  have hasc := h.l3 _ hlm
  have old : ∀ i t', (d ++ [t])[i]? = some t' → (i < j ∧ d[i]? = some t') ∨ (i = j ∧ t' = t) := fun i t' hi => by
    rw [List.getElem?_append] at hi
    split at hi
    · exact .inl ⟨by rw [← h.dl]; assumption, hi⟩
    · right
      have hz : i - d.length = 0 := by
        cases q : i - d.length with
        | zero => rfl
        | succ n => rw [q] at hi; simp at hi
      rw [hz] at hi
      have e : t = t' := by simpa using hi
      refine ⟨?_, e.symm⟩
      have := h.dl
      omega
  refine ⟨by rw [List.length_set]; exact h.l1, ?_, fun l' hl' => ?_, by rw [List.length_append, h.rl]; rfl, by rw [List.length_append, h.dl]; rfl, fun t' ht' => ?_, fun i i' t' hii hi hi' => ?_, fun i a' t' l' x' hi ha' hl' hx' => ?_⟩
  · rw [List.append_assoc]
    exact (List.Perm.append_left r (flat_pop hl)).trans h.l2
  · rcases List.mem_or_eq_of_mem_set hl' with q | q
    · exact h.l3 l' q
    · subst q
      exact (List.pairwise_cons.mp hasc).2
  · rcases List.mem_append.mp ht' with q | q
    · exact h.rng t' q
    · obtain rfl : t' = t := by simpa using q
      exact List.mem_of_getElem? ht
  · rcases old i t' hi with ⟨q1, q2⟩ | ⟨q1, q2⟩
    · rcases old i' t' hi' with ⟨q3, q4⟩ | ⟨q3, q4⟩
      · rw [getD_snoc (by rw [h.rl]; exact q1), getD_snoc (by rw [h.rl]; exact q3)]
        exact h.rise i i' t' hii q2 q4
      · subst q3
        subst q4
        rw [getD_snoc (by rw [h.rl]; exact q1)]
        have e : (r ++ [x]).getD i' 0 = x := by
          have := getD_last (r := r) (x := x)
          rw [h.rl] at this
          exact this
        rw [e]
        exact h.low i a t' _ x q2 ht hl (by simp)
    · rcases old i' t' hi' with ⟨q3, q4⟩ | ⟨q3, q4⟩
      · omega
      · omega
  · have sub : ∀ y, y ∈ l' → ∃ l0, lots[a']? = some l0 ∧ y ∈ l0 := fun y hy => by
      rw [List.getElem?_set] at hl'
      split at hl'
      · rename_i e
        subst e
        split at hl'
        · cases (Option.some.inj hl')
          exact ⟨_, hl, List.mem_cons_of_mem _ hy⟩
        · cases hl'
      · exact ⟨l', hl', hy⟩
    rcases old i t' hi with ⟨q1, q2⟩ | ⟨q1, q2⟩
    · obtain ⟨l0, k1, k2⟩ := sub x' hx'
      rw [getD_snoc (by rw [h.rl]; exact q1)]
      exact h.low i a' t' l0 x' q2 ha' k1 k2
    · subst q2
      have e : (r ++ [x]).getD i 0 = x := by
        have := getD_last (r := r) (x := x)
        rw [h.rl, ← q1] at this
        exact this
      rw [e]
      have ea : a' = a := by
        obtain ⟨g1, g2⟩ := List.getElem?_eq_some_iff.mp ha'
        obtain ⟨g3, g4⟩ := List.getElem?_eq_some_iff.mp ht
        rcases Nat.lt_trichotomy a' a with z | z | z
        · exact absurd (g2.trans g4.symm) ((List.pairwise_iff_getElem.mp nd) a' a g1 g3 z)
        · exact z
        · exact absurd (g4.trans g2.symm) ((List.pairwise_iff_getElem.mp nd) a a' g3 g1 z)
      subst ea
      have hlt : a' < lots.length := (List.getElem?_eq_some_iff.mp hl).1
      rw [List.getElem?_set_self hlt] at hl'
      cases (Option.some.inj hl')
      exact (List.pairwise_cons.mp hasc).1 x' hx'
def S_law_lane_rising : Spec := fun cs R => ∃ (p : Addr) (ts : List Nat) (wz : Nat), cs = [.pool p, .dat (dL ts), .dat (dN wz)] ∧ wz ≤ 8 ∧ ts.Nodup ∧ ts.length ≤ 60 ∧ ∀ r d, Rising ts r d → r.length ≤ 8 → R cs (.dat (.tuple [dL r, dL d]))
theorem sc_law_lane_rising : FnScope ["_law_pool_here", "_law_tracks", "_law_wagons", "_law_many", "_law_lots", "_law_row", "_law_dealing", "_law_wagon", "_law_turn", "_law_at", "_law_some", "_law_t"] ["_law_pool_here", "_law_tracks", "_law_wagons"] (defScope s_law_lane_rising) := ⟨rfl, rfl, rfl, by decide +kernel, rfl, by decide +kernel, by decide +kernel⟩
theorem ok_law_lane_rising (g : GD K mg "_law_lane_rising" s_law_lane_rising) (m1 : mg "len" = none) (m2 : mg "range" = none) (m3 : mg "tuple" = none) (D1 : DefOk P w K mg base 1 "_law_draw" ["_law_pool_here", "_law_many"] S_law_draw) : DefOk P w K mg base 2 "_law_lane_rising" ["_law_pool_here", "_law_tracks", "_law_wagons"] S_law_lane_rising := by
  refine defD g sc_law_lane_rising (by decide) (fun _ _ _ _ _ _ us hl => match us, hl with | [_, _, _], _ => rfl) (fun cs R h => ?_) fun f_ cdv_ A outer s_ H E cs R hr h => ?_
  · obtain ⟨p, ts, wz, rfl, _⟩ := h
    rfl
  have hN : (["_law_pool_here", "_law_tracks", "_law_wagons", "_law_many", "_law_lots", "_law_row", "_law_dealing", "_law_wagon", "_law_turn", "_law_at", "_law_some", "_law_t"] : List Str).Nodup := by decide +kernel
  have nm0 : NmOk (cxOf CX0 P w K mg base ["_law_pool_here", "_law_tracks", "_law_wagons", "_law_many", "_law_lots", "_law_row", "_law_dealing", "_law_wagon", "_law_turn", "_law_at", "_law_some", "_law_t"] "_law_lane_rising" (defScope s_law_lane_rising) f_ cdv_ A outer s_ H E).nox 0 "_law_pool_here" := ⟨rfl, by first | exact Or.inl rfl | exact Or.inr (Or.inl rfl) | exact Or.inr (Or.inr rfl), by decide, by decide⟩
  have lc0 : LcOk (cxOf CX0 P w K mg base ["_law_pool_here", "_law_tracks", "_law_wagons", "_law_many", "_law_lots", "_law_row", "_law_dealing", "_law_wagon", "_law_turn", "_law_at", "_law_some", "_law_t"] "_law_lane_rising" (defScope s_law_lane_rising) f_ cdv_ A outer s_ H E).nox 0 "_law_pool_here" := ⟨rfl, by first | exact Or.inl rfl | exact Or.inr rfl, by first | exact Or.inl rfl | exact Or.inr rfl⟩
  have nm1 : NmOk (cxOf CX0 P w K mg base ["_law_pool_here", "_law_tracks", "_law_wagons", "_law_many", "_law_lots", "_law_row", "_law_dealing", "_law_wagon", "_law_turn", "_law_at", "_law_some", "_law_t"] "_law_lane_rising" (defScope s_law_lane_rising) f_ cdv_ A outer s_ H E).nox 1 "_law_tracks" := ⟨rfl, by first | exact Or.inl rfl | exact Or.inr (Or.inl rfl) | exact Or.inr (Or.inr rfl), by decide, by decide⟩
  have lc1 : LcOk (cxOf CX0 P w K mg base ["_law_pool_here", "_law_tracks", "_law_wagons", "_law_many", "_law_lots", "_law_row", "_law_dealing", "_law_wagon", "_law_turn", "_law_at", "_law_some", "_law_t"] "_law_lane_rising" (defScope s_law_lane_rising) f_ cdv_ A outer s_ H E).nox 1 "_law_tracks" := ⟨rfl, by first | exact Or.inl rfl | exact Or.inr rfl, by first | exact Or.inl rfl | exact Or.inr rfl⟩
  have nm2 : NmOk (cxOf CX0 P w K mg base ["_law_pool_here", "_law_tracks", "_law_wagons", "_law_many", "_law_lots", "_law_row", "_law_dealing", "_law_wagon", "_law_turn", "_law_at", "_law_some", "_law_t"] "_law_lane_rising" (defScope s_law_lane_rising) f_ cdv_ A outer s_ H E).nox 2 "_law_wagons" := ⟨rfl, by first | exact Or.inl rfl | exact Or.inr (Or.inl rfl) | exact Or.inr (Or.inr rfl), by decide, by decide⟩
  have lc2 : LcOk (cxOf CX0 P w K mg base ["_law_pool_here", "_law_tracks", "_law_wagons", "_law_many", "_law_lots", "_law_row", "_law_dealing", "_law_wagon", "_law_turn", "_law_at", "_law_some", "_law_t"] "_law_lane_rising" (defScope s_law_lane_rising) f_ cdv_ A outer s_ H E).nox 2 "_law_wagons" := ⟨rfl, by first | exact Or.inl rfl | exact Or.inr rfl, by first | exact Or.inl rfl | exact Or.inr rfl⟩
  have nm3 : NmOk (cxOf CX0 P w K mg base ["_law_pool_here", "_law_tracks", "_law_wagons", "_law_many", "_law_lots", "_law_row", "_law_dealing", "_law_wagon", "_law_turn", "_law_at", "_law_some", "_law_t"] "_law_lane_rising" (defScope s_law_lane_rising) f_ cdv_ A outer s_ H E).nox 3 "_law_many" := ⟨rfl, by first | exact Or.inl rfl | exact Or.inr (Or.inl rfl) | exact Or.inr (Or.inr rfl), by decide, by decide⟩
  have lc3 : LcOk (cxOf CX0 P w K mg base ["_law_pool_here", "_law_tracks", "_law_wagons", "_law_many", "_law_lots", "_law_row", "_law_dealing", "_law_wagon", "_law_turn", "_law_at", "_law_some", "_law_t"] "_law_lane_rising" (defScope s_law_lane_rising) f_ cdv_ A outer s_ H E).nox 3 "_law_many" := ⟨rfl, by first | exact Or.inl rfl | exact Or.inr rfl, by first | exact Or.inl rfl | exact Or.inr rfl⟩
  have nm4 : NmOk (cxOf CX0 P w K mg base ["_law_pool_here", "_law_tracks", "_law_wagons", "_law_many", "_law_lots", "_law_row", "_law_dealing", "_law_wagon", "_law_turn", "_law_at", "_law_some", "_law_t"] "_law_lane_rising" (defScope s_law_lane_rising) f_ cdv_ A outer s_ H E).nox 4 "_law_lots" := ⟨rfl, by first | exact Or.inl rfl | exact Or.inr (Or.inl rfl) | exact Or.inr (Or.inr rfl), by decide, by decide⟩
  have lc4 : LcOk (cxOf CX0 P w K mg base ["_law_pool_here", "_law_tracks", "_law_wagons", "_law_many", "_law_lots", "_law_row", "_law_dealing", "_law_wagon", "_law_turn", "_law_at", "_law_some", "_law_t"] "_law_lane_rising" (defScope s_law_lane_rising) f_ cdv_ A outer s_ H E).nox 4 "_law_lots" := ⟨rfl, by first | exact Or.inl rfl | exact Or.inr rfl, by first | exact Or.inl rfl | exact Or.inr rfl⟩
  have nm5 : NmOk (cxOf CX0 P w K mg base ["_law_pool_here", "_law_tracks", "_law_wagons", "_law_many", "_law_lots", "_law_row", "_law_dealing", "_law_wagon", "_law_turn", "_law_at", "_law_some", "_law_t"] "_law_lane_rising" (defScope s_law_lane_rising) f_ cdv_ A outer s_ H E).nox 5 "_law_row" := ⟨rfl, by first | exact Or.inl rfl | exact Or.inr (Or.inl rfl) | exact Or.inr (Or.inr rfl), by decide, by decide⟩
  have lc5 : LcOk (cxOf CX0 P w K mg base ["_law_pool_here", "_law_tracks", "_law_wagons", "_law_many", "_law_lots", "_law_row", "_law_dealing", "_law_wagon", "_law_turn", "_law_at", "_law_some", "_law_t"] "_law_lane_rising" (defScope s_law_lane_rising) f_ cdv_ A outer s_ H E).nox 5 "_law_row" := ⟨rfl, by first | exact Or.inl rfl | exact Or.inr rfl, by first | exact Or.inl rfl | exact Or.inr rfl⟩
  have nm6 : NmOk (cxOf CX0 P w K mg base ["_law_pool_here", "_law_tracks", "_law_wagons", "_law_many", "_law_lots", "_law_row", "_law_dealing", "_law_wagon", "_law_turn", "_law_at", "_law_some", "_law_t"] "_law_lane_rising" (defScope s_law_lane_rising) f_ cdv_ A outer s_ H E).nox 6 "_law_dealing" := ⟨rfl, by first | exact Or.inl rfl | exact Or.inr (Or.inl rfl) | exact Or.inr (Or.inr rfl), by decide, by decide⟩
  have lc6 : LcOk (cxOf CX0 P w K mg base ["_law_pool_here", "_law_tracks", "_law_wagons", "_law_many", "_law_lots", "_law_row", "_law_dealing", "_law_wagon", "_law_turn", "_law_at", "_law_some", "_law_t"] "_law_lane_rising" (defScope s_law_lane_rising) f_ cdv_ A outer s_ H E).nox 6 "_law_dealing" := ⟨rfl, by first | exact Or.inl rfl | exact Or.inr rfl, by first | exact Or.inl rfl | exact Or.inr rfl⟩
  have nm7 : NmOk (cxOf CX0 P w K mg base ["_law_pool_here", "_law_tracks", "_law_wagons", "_law_many", "_law_lots", "_law_row", "_law_dealing", "_law_wagon", "_law_turn", "_law_at", "_law_some", "_law_t"] "_law_lane_rising" (defScope s_law_lane_rising) f_ cdv_ A outer s_ H E).nox 7 "_law_wagon" := ⟨rfl, by first | exact Or.inl rfl | exact Or.inr (Or.inl rfl) | exact Or.inr (Or.inr rfl), by decide, by decide⟩
  have lc7 : LcOk (cxOf CX0 P w K mg base ["_law_pool_here", "_law_tracks", "_law_wagons", "_law_many", "_law_lots", "_law_row", "_law_dealing", "_law_wagon", "_law_turn", "_law_at", "_law_some", "_law_t"] "_law_lane_rising" (defScope s_law_lane_rising) f_ cdv_ A outer s_ H E).nox 7 "_law_wagon" := ⟨rfl, by first | exact Or.inl rfl | exact Or.inr rfl, by first | exact Or.inl rfl | exact Or.inr rfl⟩
  have nm8 : NmOk (cxOf CX0 P w K mg base ["_law_pool_here", "_law_tracks", "_law_wagons", "_law_many", "_law_lots", "_law_row", "_law_dealing", "_law_wagon", "_law_turn", "_law_at", "_law_some", "_law_t"] "_law_lane_rising" (defScope s_law_lane_rising) f_ cdv_ A outer s_ H E).nox 8 "_law_turn" := ⟨rfl, by first | exact Or.inl rfl | exact Or.inr (Or.inl rfl) | exact Or.inr (Or.inr rfl), by decide, by decide⟩
  have lc8 : LcOk (cxOf CX0 P w K mg base ["_law_pool_here", "_law_tracks", "_law_wagons", "_law_many", "_law_lots", "_law_row", "_law_dealing", "_law_wagon", "_law_turn", "_law_at", "_law_some", "_law_t"] "_law_lane_rising" (defScope s_law_lane_rising) f_ cdv_ A outer s_ H E).nox 8 "_law_turn" := ⟨rfl, by first | exact Or.inl rfl | exact Or.inr rfl, by first | exact Or.inl rfl | exact Or.inr rfl⟩
  have nm9 : NmOk (cxOf CX0 P w K mg base ["_law_pool_here", "_law_tracks", "_law_wagons", "_law_many", "_law_lots", "_law_row", "_law_dealing", "_law_wagon", "_law_turn", "_law_at", "_law_some", "_law_t"] "_law_lane_rising" (defScope s_law_lane_rising) f_ cdv_ A outer s_ H E).nox 9 "_law_at" := ⟨rfl, by first | exact Or.inl rfl | exact Or.inr (Or.inl rfl) | exact Or.inr (Or.inr rfl), by decide, by decide⟩
  have lc9 : LcOk (cxOf CX0 P w K mg base ["_law_pool_here", "_law_tracks", "_law_wagons", "_law_many", "_law_lots", "_law_row", "_law_dealing", "_law_wagon", "_law_turn", "_law_at", "_law_some", "_law_t"] "_law_lane_rising" (defScope s_law_lane_rising) f_ cdv_ A outer s_ H E).nox 9 "_law_at" := ⟨rfl, by first | exact Or.inl rfl | exact Or.inr rfl, by first | exact Or.inl rfl | exact Or.inr rfl⟩
  have nm10 : NmOk (cxOf CX0 P w K mg base ["_law_pool_here", "_law_tracks", "_law_wagons", "_law_many", "_law_lots", "_law_row", "_law_dealing", "_law_wagon", "_law_turn", "_law_at", "_law_some", "_law_t"] "_law_lane_rising" (defScope s_law_lane_rising) f_ cdv_ A outer s_ H E).nox 10 "_law_some" := ⟨rfl, by first | exact Or.inl rfl | exact Or.inr (Or.inl rfl) | exact Or.inr (Or.inr rfl), by decide, by decide⟩
  have lc10 : LcOk (cxOf CX0 P w K mg base ["_law_pool_here", "_law_tracks", "_law_wagons", "_law_many", "_law_lots", "_law_row", "_law_dealing", "_law_wagon", "_law_turn", "_law_at", "_law_some", "_law_t"] "_law_lane_rising" (defScope s_law_lane_rising) f_ cdv_ A outer s_ H E).nox 10 "_law_some" := ⟨rfl, by first | exact Or.inl rfl | exact Or.inr rfl, by first | exact Or.inl rfl | exact Or.inr rfl⟩
  have dD1 : DefOk (cxOf CX0 P w K mg base ["_law_pool_here", "_law_tracks", "_law_wagons", "_law_many", "_law_lots", "_law_row", "_law_dealing", "_law_wagon", "_law_turn", "_law_at", "_law_some", "_law_t"] "_law_lane_rising" (defScope s_law_lane_rising) f_ cdv_ A outer s_ H E).nox.prog (cxOf CX0 P w K mg base ["_law_pool_here", "_law_tracks", "_law_wagons", "_law_many", "_law_lots", "_law_row", "_law_dealing", "_law_wagon", "_law_turn", "_law_at", "_law_some", "_law_t"] "_law_lane_rising" (defScope s_law_lane_rising) f_ cdv_ A outer s_ H E).nox.w (cxOf CX0 P w K mg base ["_law_pool_here", "_law_tracks", "_law_wagons", "_law_many", "_law_lots", "_law_row", "_law_dealing", "_law_wagon", "_law_turn", "_law_at", "_law_some", "_law_t"] "_law_lane_rising" (defScope s_law_lane_rising) f_ cdv_ A outer s_ H E).nox.K (cxOf CX0 P w K mg base ["_law_pool_here", "_law_tracks", "_law_wagons", "_law_many", "_law_lots", "_law_row", "_law_dealing", "_law_wagon", "_law_turn", "_law_at", "_law_some", "_law_t"] "_law_lane_rising" (defScope s_law_lane_rising) f_ cdv_ A outer s_ H E).nox.mg (cxOf CX0 P w K mg base ["_law_pool_here", "_law_tracks", "_law_wagons", "_law_many", "_law_lots", "_law_row", "_law_dealing", "_law_wagon", "_law_turn", "_law_at", "_law_some", "_law_t"] "_law_lane_rising" (defScope s_law_lane_rising) f_ cdv_ A outer s_ H E).nox.base 1 "_law_draw" ["_law_pool_here", "_law_many"] S_law_draw := D1
  obtain ⟨p, ts, wz, rfl, hwz, hnd, htz, hR⟩ := h
  refine js_mid (fun ρ => ∃ m : Nat, m ≤ 8 ∧ (0 < m → 0 < ts.length) ∧ ρ = [some (.pool p), some (.dat (dL ts)), some (.dat (dN wz)), some (.dat (dN m)), none, none, none, none, none, none, none, none]) ?_ fun ρ hρ => ?_
  · walk_at "go"
    refine okB (fun z => ?_) (fun z => ?_)
    · have z1 : 0 < ts.length := by have := of_decide_eq_true z; simp at this; exact this
      walk_at "go"
      refine ⟨p, wz + 1, rfl, by omega, by omega, fun v hv => ?_⟩
      walk_at "go"
      exact ⟨v, by omega, fun _ => z1, rfl⟩
    · walk_at "go"
      exact ⟨0, by omega, by omega, rfl⟩
  · obtain ⟨m, hm, hmt, rfl⟩ := hρ
    refine js_mid (fun ρ => ∃ q1 q2 q3 : Addr, ρ = [some (.pool p), some (.dat (dL ts)), some (.dat (dN wz)), some (.dat (dN m)), some (.lots q1 (dLL (List.replicate ts.length []))), some (.own q2 []), some (.own q3 []), none, none, none, none, none]) ?_ fun ρ hρ => ?_
    · refine js_parT [4, 5, 6] ?_ rfl (fun vs σ H Q hl q => ?_) (by decide) rfl rfl rfl rfl rfl
      · refine jn_cons ?_ rfl
        refine je_lcLots [("_law_t", 11)] 11 ?_ (by simp) (tgok_name 11 fun s H C cl fp => pg_name (by assumption) rfl (Or.inl rfl)) rfl hN (by walk_at "blk") (fun _ => rfl)
        refine ji_tup ?_
        walk_at "go"
        refine ⟨by rw [List.length_map]; omega, Nat.le_of_ble_eq_true rfl, fun d => rfl, fun q1 => ?_⟩
        walk_at "go"
        rename_i q2 q3
        refine ⟨rfl, ltAll rfl, q1, q2, q3, ?_⟩
        rw [List.length_map]
        unfold dLL
        rw [List.map_replicate]
        rfl
      · match vs, hl with
        | [u, v, x], _ => exact ofGs (pgs_cons (pg_name (i := 4) hN rfl (Or.inr rfl)) (pgs_cons (pg_name (i := 5) hN rfl (Or.inl rfl)) (pgs_cons (pg_name (i := 6) hN rfl (Or.inl rfl)) pgs_nil))) ⟨u, [v, x], rfl, v, [x], rfl, x, [], rfl, rfl, q⟩
    · obtain ⟨q1, q2, q3, rfl⟩ := hρ
      refine js_mid (fun ρ => ∃ lots : List (List Nat), ∃ c, ρ = [some (.pool p), some (.dat (dL ts)), some (.dat (dN wz)), some (.dat (dN m)), some (.lots q1 (dLL lots)), some (.own q2 []), some (.own q3 []), c, none, none, none, none] ∧ lots.length = ts.length ∧ lots.flatten.Perm (List.range m) ∧ ∀ l ∈ lots, l.Pairwise (· < ·)) ?_ fun ρ hρ => ?_
      · walk_at "go"
        refine ⟨m, rfl, by omega, ?_⟩
        refine ⟨fun i ρ => ∃ lots : List (List Nat), ∃ c, ρ = [some (.pool p), some (.dat (dL ts)), some (.dat (dN wz)), some (.dat (dN m)), some (.lots q1 (dLL lots)), some (.own q2 []), some (.own q3 []), c, none, none, none, none] ∧ lots.length = ts.length ∧ lots.flatten.Perm (List.range i) ∧ ∀ l ∈ lots, l.Pairwise (· < ·), ⟨List.replicate ts.length [], none, rfl, by simp, by simp, fun l hl => by rw [(List.mem_replicate.mp hl).2]; exact List.Pairwise.nil⟩, fun i ρ2 hi hI => ?_, fun ρ2 hI => hI⟩
        obtain ⟨lots, c, rfl, hl1, hl2, hl3⟩ := hI
        have hts := hmt (by omega)
        iterate 2 walk_at "x"
        refine js_lotsAppend 4 7 rfl (by first | exact Or.inl rfl | exact Or.inr (Or.inl rfl) | exact Or.inr (Or.inr rfl)) (by decide) (by decide) rfl (by first | exact Or.inl rfl | exact Or.inr (Or.inl rfl) | exact Or.inr (Or.inr rfl)) (by decide) (by decide) rfl ?_ (fun _ _ => rfl) rfl rfl rfl rfl rfl rfl
        walk_at "go"
        refine ⟨p, ts.length, by rw [List.length_map], by omega, by omega, fun v hv => ?_⟩
        obtain ⟨l, hl⟩ : ∃ x, lots[v]? = some x := ⟨_, List.getElem?_eq_getElem (by omega)⟩
        have hlm := List.mem_of_getElem? hl
        have hll := lane_le hlm
        rw [hl2.length_eq, List.length_range] at hll
        walk_at "go"
        refine ⟨v, _, _, dN i, rfl, rfl, dLL_at hl, rfl, by rw [List.length_map]; omega, lots.set v (l ++ [i]), some (.dat (dN i)), ?_, by rw [List.length_set]; exact hl1, ?_, fun l' hl' => ?_⟩
        · rw [← dLL_set, List.map_append]
          rfl
        · rw [List.range_succ]
          exact (flat_set hl).trans (hl2.append_right [i])
        · rcases List.mem_or_eq_of_mem_set hl' with q | q
          · exact hl3 l' q
          · subst q
            refine List.pairwise_append.mpr ⟨hl3 l hlm, List.pairwise_singleton _ _, fun a ha b hb => ?_⟩
            obtain rfl : b = i := by simpa using hb
            have := hl2.subset (List.mem_flatten_of_mem hlm ha)
            simpa using this
      · obtain ⟨lots, c, rfl, hl1, hl2, hl3⟩ := hρ
        walk_at "go"
        refine ⟨m, rfl, by omega, ?_⟩
        refine ⟨fun j ρ => ∃ (lots : List (List Nat)) (r d : List Nat) (c7 c8 c9 c10 : Option Cell), ρ = [some (.pool p), some (.dat (dL ts)), some (.dat (dN wz)), some (.dat (dN m)), some (.lots q1 (dLL lots)), some (.own q2 (r.map dN)), some (.own q3 (d.map dN)), c7, c8, c9, c10, none] ∧ Mid ts lots r d m j, ⟨lots, [], [], c, none, none, none, rfl, hl1, hl2, hl3, rfl, rfl, by simp, by simp, by simp⟩, fun j ρ2 hj hI => ?_, fun ρ2 hI => ?_⟩
        · obtain ⟨lots, r, d, c7, c8, c9, c10, rfl, hM⟩ := hI
          walk_at "go"
          refine js_setLc1 [("_law_at", 9)] 10 [9] ?_ (by simp) (by simp) (tgok_name 9 fun s H C cl fp => pg_name (by assumption) rfl (Or.inl rfl)) rfl (by assumption) rfl rfl (by walk_at "blk") (fun _ => rfl) rfl
          walk_at "go"
          refine ⟨ts.length, by rw [List.length_map], by omega, ?_⟩
          refine ⟨fun i acc => acc = ((List.range i).filter fun a => !(lots.getD a []).isEmpty).map dN, rfl, by omega, ltAll rfl, fun i acc hi hI => ?_, fun acc q4 hI => ?_⟩
          · obtain ⟨l, hl⟩ : ∃ x, lots[i]? = some x := ⟨_, List.getElem?_eq_getElem (by rw [hM.l1]; exact hi)⟩
            have hgl : lots.getD i [] = l := by rw [List.getD_eq_getElem?_getD, hl]; rfl
            refine ⟨[dN i], .one 9 _, fun s H C cl fp => ?_⟩
            walk_at "go"
            refine ⟨i, _, rfl, rfl, dLL_at hl, cm_Nl l, fun t ht => ?_⟩
            refine okB (fun z s H C cl fp => ?_) (fun z => ?_)
            · walk_at "go"
              refine ⟨rfl, ?_⟩
              show _ = _
              rw [hI, range_filt, if_pos (by rw [hgl]; cases l with | nil => exact absurd rfl (ht.mp z) | cons a l => rfl)]
              simp
            · refine ⟨rfl, ?_⟩
              show _ = _
              rw [hI, range_filt, if_neg (by rw [hgl]; cases l with | nil => simp | cons a l => rw [ht.mpr (by simp)] at z; cases z), List.append_nil]
          · subst hI
            have hne : ∃ a, a ∈ (List.range ts.length).filter fun a => !(lots.getD a []).isEmpty := by
              have hlen := hM.l2.length_eq
              rw [List.length_append, List.length_range, hM.rl] at hlen
              have : lots.flatten ≠ [] := fun z => by rw [z] at hlen; simp at hlen; omega
              obtain ⟨x, hx⟩ := List.exists_mem_of_ne_nil _ this
              obtain ⟨l, hl, hxl⟩ := List.mem_flatten.mp hx
              obtain ⟨a, ha⟩ := List.getElem?_of_mem hl
              have hal : a < lots.length := (List.getElem?_eq_some_iff.mp ha).1
              refine ⟨a, List.mem_filter.mpr ⟨List.mem_range.mpr (by rw [← hM.l1]; exact hal), ?_⟩⟩
              rw [List.getD_eq_getElem?_getD, ha]
              cases l with
              | nil => simp at hxl
              | cons _ _ => rfl
            have hsome : ∀ a ∈ (List.range ts.length).filter fun a => !(lots.getD a []).isEmpty, a < ts.length ∧ ∃ x l, lots[a]? = some (x :: l) := fun a ha => by
              obtain ⟨h1, h2⟩ := List.mem_filter.mp ha
              have h1 := List.mem_range.mp h1
              obtain ⟨l, hl⟩ : ∃ x, lots[a]? = some x := ⟨_, List.getElem?_eq_getElem (by rw [hM.l1]; exact h1)⟩
              rw [List.getD_eq_getElem?_getD, hl] at h2
              cases l with
              | nil => simp at h2
              | cons x l => exact ⟨h1, x, l, hl⟩
            have hsl : ((List.range ts.length).filter fun a => !(lots.getD a []).isEmpty).length ≤ 60 := Nat.le_trans (List.length_filter_le _ _) (by rw [List.length_range]; exact htz)
            generalize (List.range ts.length).filter (fun a => !(lots.getD a []).isEmpty) = som at hne hsome hsl ⊢
            have hsl0 : 0 < som.length := by
              obtain ⟨a, ha⟩ := hne
              exact List.length_pos_of_mem ha
            walk_at "go"
            refine ⟨p, som.length, by rw [List.length_map], by omega, by omega, fun v hv => ?_⟩
            obtain ⟨a, ha⟩ : ∃ x, som[v]? = some x := ⟨_, List.getElem?_eq_getElem hv⟩
            obtain ⟨ha1, x, l, hal⟩ := hsome a (List.mem_of_getElem? ha)
            obtain ⟨t, ht⟩ : ∃ x, ts[a]? = some x := ⟨_, List.getElem?_eq_getElem ha1⟩
            have hxl := dLL_at hal
            walk_at "go"
            refine ⟨a, _, dN x, l.map dN, rfl, rfl, hxl, ?_⟩
            walk_at "go"
            refine ⟨_, _, rfl, by rw [List.length_map, hM.rl]; omega, ?_⟩
            walk_at "go"
            refine ⟨_, _, rfl, by rw [List.length_map, hM.dl]; omega, lots.set a l, r ++ [x], d ++ [t], c7, some (.dat (dN j)), some (.dat (dN a)), some (.own q4 (som.map dN)), ?_, ?_⟩
            · rw [← dLL_set, List.map_append, List.map_append]
              rfl
            · exact hM.next hnd ht hal
        · obtain ⟨lots, r, d, c7, c8, c9, c10, rfl, hM⟩ := hI
          walk_at "go"
          have hl := hM.l2.length_eq
          rw [List.length_append, List.length_range, hM.rl] at hl
          have hf : lots.flatten = [] := List.eq_nil_of_length_eq_zero (by omega)
          have hp := hM.l2
          rw [hf, List.append_nil] at hp
          exact ⟨by walk_at "bk", hR r d ⟨by rw [hM.rl]; exact hp, by rw [hM.rl, hM.dl], hM.rng, hM.rise⟩ (by rw [hM.rl]; exact hm)⟩

end
end
section
local macro_rules | `(tactic| walk_at "e") => `(tactic| first
  | ((with_reducible refine isAt ?_); first | refine je_attr 0 (by assumption) (by assumption) rfl rfl ?_ rfl (by first | exact Or.inl rfl | exact Or.inr (Or.inl rfl) | exact Or.inr (Or.inr rfl)) (by decide) (by decide) rfl | refine je_attr 4 (by assumption) (by assumption) rfl rfl ?_ rfl (by first | exact Or.inl rfl | exact Or.inr (Or.inl rfl) | exact Or.inr (Or.inr rfl)) (by decide) (by decide) rfl | refine je_attr 5 (by assumption) (by assumption) rfl rfl ?_ rfl (by first | exact Or.inl rfl | exact Or.inr (Or.inl rfl) | exact Or.inr (Or.inr rfl)) (by decide) (by decide) rfl | refine je_attr 8 (by assumption) (by assumption) rfl rfl ?_ rfl (by first | exact Or.inl rfl | exact Or.inr (Or.inl rfl) | exact Or.inr (Or.inr rfl)) (by decide) (by decide) rfl)
  | ((with_reducible refine isMc ?_); first | refine je_meth0D 0 (by assumption) (by assumption) (Room.mono (by assumption) (by decide)) rfl rfl ?_ rfl (by first | exact Or.inl rfl | exact Or.inr (Or.inl rfl) | exact Or.inr (Or.inr rfl)) (by decide) (by decide) rfl | refine je_methD 0 (by assumption) (by assumption) (Room.mono (by assumption) (by decide)) rfl rfl ?_ rfl (by first | exact Or.inl rfl | exact Or.inr (Or.inl rfl) | exact Or.inr (Or.inr rfl)) (by decide) (by decide) rfl rfl rfl | refine je_meth0D 4 (by assumption) (by assumption) (Room.mono (by assumption) (by decide)) rfl rfl ?_ rfl (by first | exact Or.inl rfl | exact Or.inr (Or.inl rfl) | exact Or.inr (Or.inr rfl)) (by decide) (by decide) rfl | refine je_methD 4 (by assumption) (by assumption) (Room.mono (by assumption) (by decide)) rfl rfl ?_ rfl (by first | exact Or.inl rfl | exact Or.inr (Or.inl rfl) | exact Or.inr (Or.inr rfl)) (by decide) (by decide) rfl rfl rfl | refine je_meth0D 8 (by assumption) (by assumption) (Room.mono (by assumption) (by decide)) rfl rfl ?_ rfl (by first | exact Or.inl rfl | exact Or.inr (Or.inl rfl) | exact Or.inr (Or.inr rfl)) (by decide) (by decide) rfl | refine je_methD 8 (by assumption) (by assumption) (Room.mono (by assumption) (by decide)) rfl rfl ?_ rfl (by first | exact Or.inl rfl | exact Or.inr (Or.inl rfl) | exact Or.inr (Or.inr rfl)) (by decide) (by decide) rfl rfl rfl))
local macro_rules | `(tactic| walk_at "s") => `(tactic| first
  | ((with_reducible refine isAs ?_); first | refine js_attr 0 (by assumption) (by assumption) ?_ rfl (by first | exact Or.inl rfl | exact Or.inr (Or.inl rfl) | exact Or.inr (Or.inr rfl)) (by decide) (by decide) rfl | refine js_attr 5 (by assumption) (by assumption) ?_ rfl (by first | exact Or.inl rfl | exact Or.inr (Or.inl rfl) | exact Or.inr (Or.inr rfl)) (by decide) (by decide) rfl)
  | refine js_retN ?_)
local macro_rules | `(tactic| walk_at "c") => `(tactic| first | refine exC rfl (celND rfl) ?_ | refine exAt rfl rfl ?_)
local macro_rules | `(tactic| walk_at "x") => `(tactic| (refine isN ?_; first | refine jn_cons ?_ rfl | refine jn_nil ?_))
local macro_rules | `(tactic| walk_at "e") => `(tactic| ((with_reducible refine isMc ?_); first | refine je_pop 2 rfl ?_ rfl (by first | exact Or.inl rfl | exact Or.inr (Or.inl rfl) | exact Or.inr (Or.inr rfl)) (by decide) (by decide) rfl rfl rfl rfl rfl | refine je_pop 6 rfl ?_ rfl (by first | exact Or.inl rfl | exact Or.inr (Or.inl rfl) | exact Or.inr (Or.inr rfl)) (by decide) (by decide) rfl rfl rfl rfl rfl))
section
variable {P : Program} {w : World} {K : PySem.W.Frag} {mg : Str → Option Value} {base : Heap}
/-- what the scene gives -/
structure Scene (y : Yd) (r d : List Nat) : Prop where
  yd : YdOk y
  k4 : y.k ≤ 4
  l4 : y.l ≤ 4
  t7 : y.tr.length ≤ 7
  r8 : r.length ≤ 8
  frs : ∃ c, Drawn y c ∧ Rising c r d
theorem Drawn.lt {y : Yd} {c : List Nat} (h : Drawn y c) {t : Nat} (ht : t ∈ c) : t < y.tr.length := by
  obtain ⟨ts, h1, h2, h3⟩ := h
  have := h1.subset ((forest_sub y ts).subset (List.mem_of_mem_take (h2.subset ht)))
  simpa using this
theorem Drawn.nodup {y : Yd} {c : List Nat} (h : Drawn y c) : c.Nodup := by
  obtain ⟨ts, h1, h2, h3⟩ := h
  exact h3.imp fun h => Nat.ne_of_lt h
theorem Drawn.small {y : Yd} {c : List Nat} (h : Drawn y c) : c.length ≤ 60 := by
  obtain ⟨ts, h1, h2, h3⟩ := h
  rw [h2.length_eq, List.length_take]
  omega
def S_law_lane_home_scene : Spec := fun cs R => ∃ (p : Addr) (wz : Nat), cs = [.pool p, .dat (dN 4), .dat (dN 7), .dat (dN wz)] ∧ wz ≤ 8 ∧ ∀ y r d, Scene y r d → R cs (.dat (.tuple [dY y, dL r, dL d]))
theorem sc_law_lane_home_scene : FnScope ["_law_pool_here", "_law_lanes", "_law_most", "_law_wagons", "_law_yard", "_law_row", "_law_dealing"] ["_law_pool_here", "_law_lanes", "_law_most", "_law_wagons"] (defScope s_law_lane_home_scene) := ⟨rfl, rfl, rfl, by decide +kernel, rfl, by decide +kernel, by decide +kernel⟩
theorem ok_law_lane_home_scene (g : GD K mg "_law_lane_home_scene" s_law_lane_home_scene) (D1 : DefOk P w K mg base 3 "_law_web_yard" ["_law_pool_here", "_law_lanes", "_law_most"] S_law_web_yard) (D2 : DefOk P w K mg base 3 "_law_web_drawn_forest" ["_law_pool_here", "_law_yard", "_law_most"] S_law_web_drawn_forest) (D3 : DefOk P w K mg base 2 "_law_lane_rising" ["_law_pool_here", "_law_tracks", "_law_wagons"] S_law_lane_rising) : DefOk P w K mg base 4 "_law_lane_home_scene" ["_law_pool_here", "_law_lanes", "_law_most", "_law_wagons"] S_law_lane_home_scene := by
  refine defD g sc_law_lane_home_scene (by decide) (fun _ _ _ _ _ _ us hl => match us, hl with | [_, _, _, _], _ => rfl) (fun cs R h => ?_) fun f_ cdv_ A outer s_ H E cs R hr h => ?_
  · obtain ⟨p, wz, rfl, _⟩ := h
    rfl
  have hN : (["_law_pool_here", "_law_lanes", "_law_most", "_law_wagons", "_law_yard", "_law_row", "_law_dealing"] : List Str).Nodup := by decide +kernel
  have nm0 : NmOk (cxOf CX0 P w K mg base ["_law_pool_here", "_law_lanes", "_law_most", "_law_wagons", "_law_yard", "_law_row", "_law_dealing"] "_law_lane_home_scene" (defScope s_law_lane_home_scene) f_ cdv_ A outer s_ H E).nox 0 "_law_pool_here" := ⟨rfl, by first | exact Or.inl rfl | exact Or.inr (Or.inl rfl) | exact Or.inr (Or.inr rfl), by decide, by decide⟩
  have lc0 : LcOk (cxOf CX0 P w K mg base ["_law_pool_here", "_law_lanes", "_law_most", "_law_wagons", "_law_yard", "_law_row", "_law_dealing"] "_law_lane_home_scene" (defScope s_law_lane_home_scene) f_ cdv_ A outer s_ H E).nox 0 "_law_pool_here" := ⟨rfl, by first | exact Or.inl rfl | exact Or.inr rfl, by first | exact Or.inl rfl | exact Or.inr rfl⟩
  have nm1 : NmOk (cxOf CX0 P w K mg base ["_law_pool_here", "_law_lanes", "_law_most", "_law_wagons", "_law_yard", "_law_row", "_law_dealing"] "_law_lane_home_scene" (defScope s_law_lane_home_scene) f_ cdv_ A outer s_ H E).nox 1 "_law_lanes" := ⟨rfl, by first | exact Or.inl rfl | exact Or.inr (Or.inl rfl) | exact Or.inr (Or.inr rfl), by decide, by decide⟩
  have lc1 : LcOk (cxOf CX0 P w K mg base ["_law_pool_here", "_law_lanes", "_law_most", "_law_wagons", "_law_yard", "_law_row", "_law_dealing"] "_law_lane_home_scene" (defScope s_law_lane_home_scene) f_ cdv_ A outer s_ H E).nox 1 "_law_lanes" := ⟨rfl, by first | exact Or.inl rfl | exact Or.inr rfl, by first | exact Or.inl rfl | exact Or.inr rfl⟩
  have nm2 : NmOk (cxOf CX0 P w K mg base ["_law_pool_here", "_law_lanes", "_law_most", "_law_wagons", "_law_yard", "_law_row", "_law_dealing"] "_law_lane_home_scene" (defScope s_law_lane_home_scene) f_ cdv_ A outer s_ H E).nox 2 "_law_most" := ⟨rfl, by first | exact Or.inl rfl | exact Or.inr (Or.inl rfl) | exact Or.inr (Or.inr rfl), by decide, by decide⟩
  have lc2 : LcOk (cxOf CX0 P w K mg base ["_law_pool_here", "_law_lanes", "_law_most", "_law_wagons", "_law_yard", "_law_row", "_law_dealing"] "_law_lane_home_scene" (defScope s_law_lane_home_scene) f_ cdv_ A outer s_ H E).nox 2 "_law_most" := ⟨rfl, by first | exact Or.inl rfl | exact Or.inr rfl, by first | exact Or.inl rfl | exact Or.inr rfl⟩
  have nm3 : NmOk (cxOf CX0 P w K mg base ["_law_pool_here", "_law_lanes", "_law_most", "_law_wagons", "_law_yard", "_law_row", "_law_dealing"] "_law_lane_home_scene" (defScope s_law_lane_home_scene) f_ cdv_ A outer s_ H E).nox 3 "_law_wagons" := ⟨rfl, by first | exact Or.inl rfl | exact Or.inr (Or.inl rfl) | exact Or.inr (Or.inr rfl), by decide, by decide⟩
  have lc3 : LcOk (cxOf CX0 P w K mg base ["_law_pool_here", "_law_lanes", "_law_most", "_law_wagons", "_law_yard", "_law_row", "_law_dealing"] "_law_lane_home_scene" (defScope s_law_lane_home_scene) f_ cdv_ A outer s_ H E).nox 3 "_law_wagons" := ⟨rfl, by first | exact Or.inl rfl | exact Or.inr rfl, by first | exact Or.inl rfl | exact Or.inr rfl⟩
  have nm4 : NmOk (cxOf CX0 P w K mg base ["_law_pool_here", "_law_lanes", "_law_most", "_law_wagons", "_law_yard", "_law_row", "_law_dealing"] "_law_lane_home_scene" (defScope s_law_lane_home_scene) f_ cdv_ A outer s_ H E).nox 4 "_law_yard" := ⟨rfl, by first | exact Or.inl rfl | exact Or.inr (Or.inl rfl) | exact Or.inr (Or.inr rfl), by decide, by decide⟩
  have lc4 : LcOk (cxOf CX0 P w K mg base ["_law_pool_here", "_law_lanes", "_law_most", "_law_wagons", "_law_yard", "_law_row", "_law_dealing"] "_law_lane_home_scene" (defScope s_law_lane_home_scene) f_ cdv_ A outer s_ H E).nox 4 "_law_yard" := ⟨rfl, by first | exact Or.inl rfl | exact Or.inr rfl, by first | exact Or.inl rfl | exact Or.inr rfl⟩
  have nm5 : NmOk (cxOf CX0 P w K mg base ["_law_pool_here", "_law_lanes", "_law_most", "_law_wagons", "_law_yard", "_law_row", "_law_dealing"] "_law_lane_home_scene" (defScope s_law_lane_home_scene) f_ cdv_ A outer s_ H E).nox 5 "_law_row" := ⟨rfl, by first | exact Or.inl rfl | exact Or.inr (Or.inl rfl) | exact Or.inr (Or.inr rfl), by decide, by decide⟩
  have lc5 : LcOk (cxOf CX0 P w K mg base ["_law_pool_here", "_law_lanes", "_law_most", "_law_wagons", "_law_yard", "_law_row", "_law_dealing"] "_law_lane_home_scene" (defScope s_law_lane_home_scene) f_ cdv_ A outer s_ H E).nox 5 "_law_row" := ⟨rfl, by first | exact Or.inl rfl | exact Or.inr rfl, by first | exact Or.inl rfl | exact Or.inr rfl⟩
  have nm6 : NmOk (cxOf CX0 P w K mg base ["_law_pool_here", "_law_lanes", "_law_most", "_law_wagons", "_law_yard", "_law_row", "_law_dealing"] "_law_lane_home_scene" (defScope s_law_lane_home_scene) f_ cdv_ A outer s_ H E).nox 6 "_law_dealing" := ⟨rfl, by first | exact Or.inl rfl | exact Or.inr (Or.inl rfl) | exact Or.inr (Or.inr rfl), by decide, by decide⟩
  have lc6 : LcOk (cxOf CX0 P w K mg base ["_law_pool_here", "_law_lanes", "_law_most", "_law_wagons", "_law_yard", "_law_row", "_law_dealing"] "_law_lane_home_scene" (defScope s_law_lane_home_scene) f_ cdv_ A outer s_ H E).nox 6 "_law_dealing" := ⟨rfl, by first | exact Or.inl rfl | exact Or.inr rfl, by first | exact Or.inl rfl | exact Or.inr rfl⟩
  have dD1 : DefOk (cxOf CX0 P w K mg base ["_law_pool_here", "_law_lanes", "_law_most", "_law_wagons", "_law_yard", "_law_row", "_law_dealing"] "_law_lane_home_scene" (defScope s_law_lane_home_scene) f_ cdv_ A outer s_ H E).nox.prog (cxOf CX0 P w K mg base ["_law_pool_here", "_law_lanes", "_law_most", "_law_wagons", "_law_yard", "_law_row", "_law_dealing"] "_law_lane_home_scene" (defScope s_law_lane_home_scene) f_ cdv_ A outer s_ H E).nox.w (cxOf CX0 P w K mg base ["_law_pool_here", "_law_lanes", "_law_most", "_law_wagons", "_law_yard", "_law_row", "_law_dealing"] "_law_lane_home_scene" (defScope s_law_lane_home_scene) f_ cdv_ A outer s_ H E).nox.K (cxOf CX0 P w K mg base ["_law_pool_here", "_law_lanes", "_law_most", "_law_wagons", "_law_yard", "_law_row", "_law_dealing"] "_law_lane_home_scene" (defScope s_law_lane_home_scene) f_ cdv_ A outer s_ H E).nox.mg (cxOf CX0 P w K mg base ["_law_pool_here", "_law_lanes", "_law_most", "_law_wagons", "_law_yard", "_law_row", "_law_dealing"] "_law_lane_home_scene" (defScope s_law_lane_home_scene) f_ cdv_ A outer s_ H E).nox.base 3 "_law_web_yard" ["_law_pool_here", "_law_lanes", "_law_most"] S_law_web_yard := D1
  have dD2 : DefOk (cxOf CX0 P w K mg base ["_law_pool_here", "_law_lanes", "_law_most", "_law_wagons", "_law_yard", "_law_row", "_law_dealing"] "_law_lane_home_scene" (defScope s_law_lane_home_scene) f_ cdv_ A outer s_ H E).nox.prog (cxOf CX0 P w K mg base ["_law_pool_here", "_law_lanes", "_law_most", "_law_wagons", "_law_yard", "_law_row", "_law_dealing"] "_law_lane_home_scene" (defScope s_law_lane_home_scene) f_ cdv_ A outer s_ H E).nox.w (cxOf CX0 P w K mg base ["_law_pool_here", "_law_lanes", "_law_most", "_law_wagons", "_law_yard", "_law_row", "_law_dealing"] "_law_lane_home_scene" (defScope s_law_lane_home_scene) f_ cdv_ A outer s_ H E).nox.K (cxOf CX0 P w K mg base ["_law_pool_here", "_law_lanes", "_law_most", "_law_wagons", "_law_yard", "_law_row", "_law_dealing"] "_law_lane_home_scene" (defScope s_law_lane_home_scene) f_ cdv_ A outer s_ H E).nox.mg (cxOf CX0 P w K mg base ["_law_pool_here", "_law_lanes", "_law_most", "_law_wagons", "_law_yard", "_law_row", "_law_dealing"] "_law_lane_home_scene" (defScope s_law_lane_home_scene) f_ cdv_ A outer s_ H E).nox.base 3 "_law_web_drawn_forest" ["_law_pool_here", "_law_yard", "_law_most"] S_law_web_drawn_forest := D2
  have dD3 : DefOk (cxOf CX0 P w K mg base ["_law_pool_here", "_law_lanes", "_law_most", "_law_wagons", "_law_yard", "_law_row", "_law_dealing"] "_law_lane_home_scene" (defScope s_law_lane_home_scene) f_ cdv_ A outer s_ H E).nox.prog (cxOf CX0 P w K mg base ["_law_pool_here", "_law_lanes", "_law_most", "_law_wagons", "_law_yard", "_law_row", "_law_dealing"] "_law_lane_home_scene" (defScope s_law_lane_home_scene) f_ cdv_ A outer s_ H E).nox.w (cxOf CX0 P w K mg base ["_law_pool_here", "_law_lanes", "_law_most", "_law_wagons", "_law_yard", "_law_row", "_law_dealing"] "_law_lane_home_scene" (defScope s_law_lane_home_scene) f_ cdv_ A outer s_ H E).nox.K (cxOf CX0 P w K mg base ["_law_pool_here", "_law_lanes", "_law_most", "_law_wagons", "_law_yard", "_law_row", "_law_dealing"] "_law_lane_home_scene" (defScope s_law_lane_home_scene) f_ cdv_ A outer s_ H E).nox.mg (cxOf CX0 P w K mg base ["_law_pool_here", "_law_lanes", "_law_most", "_law_wagons", "_law_yard", "_law_row", "_law_dealing"] "_law_lane_home_scene" (defScope s_law_lane_home_scene) f_ cdv_ A outer s_ H E).nox.base 2 "_law_lane_rising" ["_law_pool_here", "_law_tracks", "_law_wagons"] S_law_lane_rising := D3
  obtain ⟨p, wz, rfl, hz, hR⟩ := h
  walk_at "go"
  refine ⟨p, rfl, fun y hy h1 h2 h3 => ?_⟩
  walk_at "go"
  refine ⟨p, y, rfl, hy, fun c hc => ?_⟩
  walk_at "go"
  refine ⟨p, c, wz, rfl, hz, hc.nodup, hc.small, fun r d hr hr8 => ?_⟩
  walk_at "go"
  exact ⟨by walk_at "bk", hR y r d ⟨hy, h1, h2, h3, by assumption, c, hc, hr⟩⟩

end
end
section
local macro_rules | `(tactic| walk_at "e") => `(tactic| first
  | ((with_reducible refine isAt ?_); first | refine je_attr 0 (by assumption) (by assumption) rfl rfl ?_ rfl (by first | exact Or.inl rfl | exact Or.inr (Or.inl rfl) | exact Or.inr (Or.inr rfl)) (by decide) (by decide) rfl | refine je_attr 4 (by assumption) (by assumption) rfl rfl ?_ rfl (by first | exact Or.inl rfl | exact Or.inr (Or.inl rfl) | exact Or.inr (Or.inr rfl)) (by decide) (by decide) rfl | refine je_attr 5 (by assumption) (by assumption) rfl rfl ?_ rfl (by first | exact Or.inl rfl | exact Or.inr (Or.inl rfl) | exact Or.inr (Or.inr rfl)) (by decide) (by decide) rfl | refine je_attr 8 (by assumption) (by assumption) rfl rfl ?_ rfl (by first | exact Or.inl rfl | exact Or.inr (Or.inl rfl) | exact Or.inr (Or.inr rfl)) (by decide) (by decide) rfl)
  | ((with_reducible refine isMc ?_); first | refine je_meth0D 0 (by assumption) (by assumption) (Room.mono (by assumption) (by decide)) rfl rfl ?_ rfl (by first | exact Or.inl rfl | exact Or.inr (Or.inl rfl) | exact Or.inr (Or.inr rfl)) (by decide) (by decide) rfl | refine je_methD 0 (by assumption) (by assumption) (Room.mono (by assumption) (by decide)) rfl rfl ?_ rfl (by first | exact Or.inl rfl | exact Or.inr (Or.inl rfl) | exact Or.inr (Or.inr rfl)) (by decide) (by decide) rfl rfl rfl | refine je_meth0D 4 (by assumption) (by assumption) (Room.mono (by assumption) (by decide)) rfl rfl ?_ rfl (by first | exact Or.inl rfl | exact Or.inr (Or.inl rfl) | exact Or.inr (Or.inr rfl)) (by decide) (by decide) rfl | refine je_methD 4 (by assumption) (by assumption) (Room.mono (by assumption) (by decide)) rfl rfl ?_ rfl (by first | exact Or.inl rfl | exact Or.inr (Or.inl rfl) | exact Or.inr (Or.inr rfl)) (by decide) (by decide) rfl rfl rfl | refine je_meth0D 8 (by assumption) (by assumption) (Room.mono (by assumption) (by decide)) rfl rfl ?_ rfl (by first | exact Or.inl rfl | exact Or.inr (Or.inl rfl) | exact Or.inr (Or.inr rfl)) (by decide) (by decide) rfl | refine je_methD 8 (by assumption) (by assumption) (Room.mono (by assumption) (by decide)) rfl rfl ?_ rfl (by first | exact Or.inl rfl | exact Or.inr (Or.inl rfl) | exact Or.inr (Or.inr rfl)) (by decide) (by decide) rfl rfl rfl))
local macro_rules | `(tactic| walk_at "s") => `(tactic| first
  | ((with_reducible refine isAs ?_); first | refine js_attr 0 (by assumption) (by assumption) ?_ rfl (by first | exact Or.inl rfl | exact Or.inr (Or.inl rfl) | exact Or.inr (Or.inr rfl)) (by decide) (by decide) rfl | refine js_attr 5 (by assumption) (by assumption) ?_ rfl (by first | exact Or.inl rfl | exact Or.inr (Or.inl rfl) | exact Or.inr (Or.inr rfl)) (by decide) (by decide) rfl)
  | refine js_retN ?_)
local macro_rules | `(tactic| walk_at "c") => `(tactic| first | refine exC rfl (celND rfl) ?_ | refine exAt rfl rfl ?_)
local macro_rules | `(tactic| walk_at "x") => `(tactic| (refine isN ?_; first | refine jn_cons ?_ rfl | refine jn_nil ?_))
local macro_rules | `(tactic| walk_at "e") => `(tactic| ((with_reducible refine isMc ?_); first | refine je_pop 2 rfl ?_ rfl (by first | exact Or.inl rfl | exact Or.inr (Or.inl rfl) | exact Or.inr (Or.inr rfl)) (by decide) (by decide) rfl rfl rfl rfl rfl | refine je_pop 6 rfl ?_ rfl (by first | exact Or.inl rfl | exact Or.inr (Or.inl rfl) | exact Or.inr (Or.inr rfl)) (by decide) (by decide) rfl rfl rfl rfl rfl))
section
variable {P : Program} {w : World} {K : PySem.W.Frag} {mg : Str → Option Value} {base : Heap}
def kvs (r d : List Nat) : List (Key × PyData) := (r.zip d).map fun p => (.inl (p.1 : Int), dN p.2)
theorem dval_no {xs : List (Nat × Nat)} {w : Nat} (h : ∀ p ∈ xs, p.1 ≠ w) : dval (xs.map fun p => (.inl (p.1 : Int), dN p.2)) (.inl (w : Int)) = none := by
  unfold dval
  rw [Option.map_eq_none_iff, List.find?_eq_none]
  intro kv hkv
  obtain ⟨p, hp, rfl⟩ := List.mem_map.mp hkv
  have := h p hp
  simp
  omega
def S_law_lane_tracks : Spec := fun cs R => ∃ r d : List Nat, cs = [.dat (dL r), .dat (dL d)] ∧ RowOk r ∧ d.length = r.length ∧ ∀ q, R cs (.new (.dct q (kvs r d)))
theorem sc_law_lane_tracks : FnScope ["_law_row", "_law_dealing", "_law_found", "_law_place", "_law_wagon"] ["_law_row", "_law_dealing"] (defScope s_law_lane_tracks) := ⟨rfl, rfl, rfl, by decide +kernel, rfl, by decide +kernel, by decide +kernel⟩
theorem ok_law_lane_tracks (g : GD K mg "_law_lane_tracks" s_law_lane_tracks) (m1 : mg "enumerate" = none) : DefOk P w K mg base 1 "_law_lane_tracks" ["_law_row", "_law_dealing"] S_law_lane_tracks := by
  refine defD g sc_law_lane_tracks (by decide) (fun _ _ _ _ _ _ us hl => match us, hl with | [_, _], _ => rfl) (fun cs R h => ?_) fun f_ cdv_ A outer s_ H E cs R hr h => ?_
  · obtain ⟨r, d, rfl, _⟩ := h
    rfl
  have hN : (["_law_row", "_law_dealing", "_law_found", "_law_place", "_law_wagon"] : List Str).Nodup := by decide +kernel
  have nm0 : NmOk (cxOf CX0 P w K mg base ["_law_row", "_law_dealing", "_law_found", "_law_place", "_law_wagon"] "_law_lane_tracks" (defScope s_law_lane_tracks) f_ cdv_ A outer s_ H E).nox 0 "_law_row" := ⟨rfl, by first | exact Or.inl rfl | exact Or.inr (Or.inl rfl) | exact Or.inr (Or.inr rfl), by decide, by decide⟩
  have lc0 : LcOk (cxOf CX0 P w K mg base ["_law_row", "_law_dealing", "_law_found", "_law_place", "_law_wagon"] "_law_lane_tracks" (defScope s_law_lane_tracks) f_ cdv_ A outer s_ H E).nox 0 "_law_row" := ⟨rfl, by first | exact Or.inl rfl | exact Or.inr rfl, by first | exact Or.inl rfl | exact Or.inr rfl⟩
  have nm1 : NmOk (cxOf CX0 P w K mg base ["_law_row", "_law_dealing", "_law_found", "_law_place", "_law_wagon"] "_law_lane_tracks" (defScope s_law_lane_tracks) f_ cdv_ A outer s_ H E).nox 1 "_law_dealing" := ⟨rfl, by first | exact Or.inl rfl | exact Or.inr (Or.inl rfl) | exact Or.inr (Or.inr rfl), by decide, by decide⟩
  have lc1 : LcOk (cxOf CX0 P w K mg base ["_law_row", "_law_dealing", "_law_found", "_law_place", "_law_wagon"] "_law_lane_tracks" (defScope s_law_lane_tracks) f_ cdv_ A outer s_ H E).nox 1 "_law_dealing" := ⟨rfl, by first | exact Or.inl rfl | exact Or.inr rfl, by first | exact Or.inl rfl | exact Or.inr rfl⟩
  have nm2 : NmOk (cxOf CX0 P w K mg base ["_law_row", "_law_dealing", "_law_found", "_law_place", "_law_wagon"] "_law_lane_tracks" (defScope s_law_lane_tracks) f_ cdv_ A outer s_ H E).nox 2 "_law_found" := ⟨rfl, by first | exact Or.inl rfl | exact Or.inr (Or.inl rfl) | exact Or.inr (Or.inr rfl), by decide, by decide⟩
  have lc2 : LcOk (cxOf CX0 P w K mg base ["_law_row", "_law_dealing", "_law_found", "_law_place", "_law_wagon"] "_law_lane_tracks" (defScope s_law_lane_tracks) f_ cdv_ A outer s_ H E).nox 2 "_law_found" := ⟨rfl, by first | exact Or.inl rfl | exact Or.inr rfl, by first | exact Or.inl rfl | exact Or.inr rfl⟩
  have nm3 : NmOk (cxOf CX0 P w K mg base ["_law_row", "_law_dealing", "_law_found", "_law_place", "_law_wagon"] "_law_lane_tracks" (defScope s_law_lane_tracks) f_ cdv_ A outer s_ H E).nox 3 "_law_place" := ⟨rfl, by first | exact Or.inl rfl | exact Or.inr (Or.inl rfl) | exact Or.inr (Or.inr rfl), by decide, by decide⟩
  have lc3 : LcOk (cxOf CX0 P w K mg base ["_law_row", "_law_dealing", "_law_found", "_law_place", "_law_wagon"] "_law_lane_tracks" (defScope s_law_lane_tracks) f_ cdv_ A outer s_ H E).nox 3 "_law_place" := ⟨rfl, by first | exact Or.inl rfl | exact Or.inr rfl, by first | exact Or.inl rfl | exact Or.inr rfl⟩
  have nm4 : NmOk (cxOf CX0 P w K mg base ["_law_row", "_law_dealing", "_law_found", "_law_place", "_law_wagon"] "_law_lane_tracks" (defScope s_law_lane_tracks) f_ cdv_ A outer s_ H E).nox 4 "_law_wagon" := ⟨rfl, by first | exact Or.inl rfl | exact Or.inr (Or.inl rfl) | exact Or.inr (Or.inr rfl), by decide, by decide⟩
  have lc4 : LcOk (cxOf CX0 P w K mg base ["_law_row", "_law_dealing", "_law_found", "_law_place", "_law_wagon"] "_law_lane_tracks" (defScope s_law_lane_tracks) f_ cdv_ A outer s_ H E).nox 4 "_law_wagon" := ⟨rfl, by first | exact Or.inl rfl | exact Or.inr rfl, by first | exact Or.inl rfl | exact Or.inr rfl⟩
  obtain ⟨r, d, rfl, hy, hd, hR⟩ := h
  have b1 := hy.len
  walk_at "x"
  walk_at "x"
  refine je_dnew fun q => ?_
  walk_at "go"
  refine ⟨fun i ρ => ∃ c1 c2, ρ = [some (.dat (dL r)), some (.dat (dL d)), some (.dct q (((r.zip d).take i).map fun p => (.inl (p.1 : Int), dN p.2))), c1, c2], ⟨none, none, rfl⟩, fun i ρ2 hi hI => ?_, fun ρ2 hI => ?_⟩
  · obtain ⟨c1, c2, rfl⟩ := hI
    rw [List.length_map] at hi
    obtain ⟨x, hx⟩ : ∃ x, r[i]? = some x := ⟨_, List.getElem?_eq_getElem hi⟩
    obtain ⟨z, hz⟩ : ∃ x, d[i]? = some x := ⟨_, List.getElem?_eq_getElem (by omega)⟩
    obtain ⟨hx1, hx2⟩ := row_get hy hx
    refine jg_eq (d' := .tuple [.int i, dN x]) (by dsimp only; rw [map_get hx]) ?_
    walk_at "go"
    refine js_dput (p0 := q) 2 (room1 hr) rfl (Or.inl rfl) (by decide) (by decide) ?_ rfl
    walk_at "go"
    refine ⟨_, rfl, ?_⟩
    walk_at "go"
    have hzz : (r.zip d)[i]? = some (x, z) := by rw [List.getElem?_zip_eq_some]; exact ⟨hx, hz⟩
    refine ⟨_, .inl (x : Int), rfl, rfl, dval_no fun p hp e => ?_, ?_, some (.dat (dN i)), some (.dat (dN x)), ?_⟩
    · have hm : p.1 ∈ ((r.zip d).take i).map Prod.fst := List.mem_map_of_mem hp
      rw [List.map_take, List.map_fst_zip (by omega), e] at hm
      exact hx2 hm
    · rw [List.length_map, List.length_take]
      omega
    · rw [List.take_add_one, hzz, List.map_append]
      rfl
  · obtain ⟨c1, c2, rfl⟩ := hI
    walk_at "go"
    refine ⟨by walk_at "bk", Nat.le_of_ble_eq_true rfl, _, rfl, ?_⟩
    rw [List.length_map, List.take_of_length_le (by rw [List.length_zip]; omega)]
    exact hR q
def allM (y : Yd) : List Mv := (List.range y.k).map (Mv.mk .inn) ++ (List.range y.tr.length).map (Mv.mk .over) ++ (List.range y.l).map (Mv.mk .out)
def S_law_lane_all : Spec := fun cs R => ∃ y : Yd, cs = [.dat (dY y)] ∧ YdOk y ∧ ∀ q, R cs (.new (.own q ((allM y).map dM)))
theorem sc_law_lane_all : FnScope ["_law_yard", "_law_found", "_law_a", "_law_t", "_law_b"] ["_law_yard"] (defScope s_law_lane_all) := ⟨rfl, rfl, rfl, by decide +kernel, rfl, by decide +kernel, by decide +kernel⟩
theorem ok_law_lane_all (g : GD K mg "_law_lane_all" s_law_lane_all) (m1 : mg "range" = none) (m2 : mg "len" = none) : DefOk P w K mg base 1 "_law_lane_all" ["_law_yard"] S_law_lane_all := by
  refine defD g sc_law_lane_all (by decide) (fun _ _ _ _ _ _ us hl => match us, hl with | [_], _ => rfl) (fun cs R h => ?_) fun f_ cdv_ A outer s_ H E cs R hr h => ?_
  · obtain ⟨y, rfl, _⟩ := h
    rfl
  have hN : (["_law_yard", "_law_found", "_law_a", "_law_t", "_law_b"] : List Str).Nodup := by decide +kernel
  have nm0 : NmOk (cxOf CX0 P w K mg base ["_law_yard", "_law_found", "_law_a", "_law_t", "_law_b"] "_law_lane_all" (defScope s_law_lane_all) f_ cdv_ A outer s_ H E).nox 0 "_law_yard" := ⟨rfl, by first | exact Or.inl rfl | exact Or.inr (Or.inl rfl) | exact Or.inr (Or.inr rfl), by decide, by decide⟩
  have lc0 : LcOk (cxOf CX0 P w K mg base ["_law_yard", "_law_found", "_law_a", "_law_t", "_law_b"] "_law_lane_all" (defScope s_law_lane_all) f_ cdv_ A outer s_ H E).nox 0 "_law_yard" := ⟨rfl, by first | exact Or.inl rfl | exact Or.inr rfl, by first | exact Or.inl rfl | exact Or.inr rfl⟩
  have nm1 : NmOk (cxOf CX0 P w K mg base ["_law_yard", "_law_found", "_law_a", "_law_t", "_law_b"] "_law_lane_all" (defScope s_law_lane_all) f_ cdv_ A outer s_ H E).nox 1 "_law_found" := ⟨rfl, by first | exact Or.inl rfl | exact Or.inr (Or.inl rfl) | exact Or.inr (Or.inr rfl), by decide, by decide⟩
  have lc1 : LcOk (cxOf CX0 P w K mg base ["_law_yard", "_law_found", "_law_a", "_law_t", "_law_b"] "_law_lane_all" (defScope s_law_lane_all) f_ cdv_ A outer s_ H E).nox 1 "_law_found" := ⟨rfl, by first | exact Or.inl rfl | exact Or.inr rfl, by first | exact Or.inl rfl | exact Or.inr rfl⟩
  obtain ⟨y, rfl, hy, hR⟩ := h
  have b1 := hy.k2
  have b2 := hy.l2
  have b3 := hy.len
  walk_at "x"
  walk_at "x"
  refine je_catL ?_
  refine je_lc0 [("_law_a", 2)] [2] ?_ (by simp) (by simp) (tgok_name 2 fun s H C cl fp => pg_name (by assumption) rfl (Or.inl rfl)) rfl (by assumption) (by walk_at "blk") (fun _ => rfl)
  walk_at "go"
  refine ⟨y.k, rfl, by omega, ?_⟩
  refine ⟨fun i acc => acc = ((List.range i).map (Mv.mk .inn)).map dM, rfl, by omega, ltAll rfl, fun i acc hi hI => ⟨[dN i], .one 2 _, fun s H C cl fp => ?_⟩, fun acc q1 hI => ?_⟩
  · walk_at "go"
    refine ⟨rfl, ?_⟩
    show _ = _
    rw [hI, List.range_succ]
    simp only [List.map_append]
    rfl
  subst hI
  refine je_lc0 [("_law_t", 3)] [3] ?_ (by simp) (by simp) (tgok_name 3 fun s H C cl fp => pg_name (by assumption) rfl (Or.inl rfl)) rfl (by assumption) (by walk_at "blk") (fun _ => rfl)
  walk_at "go"
  refine ⟨y.tr.length, by rw [List.length_map], by omega, ?_⟩
  refine ⟨fun i acc => acc = ((List.range i).map (Mv.mk .over)).map dM, rfl, by omega, ltAll rfl, fun i acc hi hI => ⟨[dN i], .one 3 _, fun s H C cl fp => ?_⟩, fun acc q2 hI => ?_⟩
  · walk_at "go"
    refine ⟨rfl, ?_⟩
    show _ = _
    rw [hI, List.range_succ]
    simp only [List.map_append]
    rfl
  subst hI
  refine ⟨_, _, rfl, rfl, by simp only [List.length_map, List.length_range]; omega, fun q3 => ?_⟩
  iterate 3 walk_at "x"
  refine je_catL ?_
  walk_at "x"
  refine je_lc0 [("_law_b", 4)] [4] ?_ (by simp) (by simp) (tgok_name 4 fun s H C cl fp => pg_name (by assumption) rfl (Or.inl rfl)) rfl (by assumption) (by walk_at "blk") (fun _ => rfl)
  walk_at "go"
  refine ⟨y.l, rfl, by omega, ?_⟩
  refine ⟨fun i acc => acc = ((List.range i).map (Mv.mk .out)).map dM, rfl, by omega, ltAll rfl, fun i acc hi hI => ⟨[dN i], .one 4 _, fun s H C cl fp => ?_⟩, fun acc q4 hI => ?_⟩
  · walk_at "go"
    refine ⟨rfl, ?_⟩
    show _ = _
    rw [hI, List.range_succ]
    simp only [List.map_append]
    rfl
  subst hI
  refine ⟨_, _, rfl, rfl, by simp only [List.length_map, List.length_range, List.length_append]; omega, fun q5 => ?_⟩
  refine ⟨by walk_at "bk", ?_⟩
  have := hR q5
  unfold allM at this
  rw [List.map_append, List.map_append] at this
  exact this

end
end
section
local macro_rules | `(tactic| walk_at "e") => `(tactic| first
  | ((with_reducible refine isAt ?_); first | refine je_attr 0 (by assumption) (by assumption) rfl rfl ?_ rfl (by first | exact Or.inl rfl | exact Or.inr (Or.inl rfl) | exact Or.inr (Or.inr rfl)) (by decide) (by decide) rfl | refine je_attr 4 (by assumption) (by assumption) rfl rfl ?_ rfl (by first | exact Or.inl rfl | exact Or.inr (Or.inl rfl) | exact Or.inr (Or.inr rfl)) (by decide) (by decide) rfl | refine je_attr 5 (by assumption) (by assumption) rfl rfl ?_ rfl (by first | exact Or.inl rfl | exact Or.inr (Or.inl rfl) | exact Or.inr (Or.inr rfl)) (by decide) (by decide) rfl | refine je_attr 8 (by assumption) (by assumption) rfl rfl ?_ rfl (by first | exact Or.inl rfl | exact Or.inr (Or.inl rfl) | exact Or.inr (Or.inr rfl)) (by decide) (by decide) rfl)
  | ((with_reducible refine isMc ?_); first | refine je_meth0D 0 (by assumption) (by assumption) (Room.mono (by assumption) (by decide)) rfl rfl ?_ rfl (by first | exact Or.inl rfl | exact Or.inr (Or.inl rfl) | exact Or.inr (Or.inr rfl)) (by decide) (by decide) rfl | refine je_methD 0 (by assumption) (by assumption) (Room.mono (by assumption) (by decide)) rfl rfl ?_ rfl (by first | exact Or.inl rfl | exact Or.inr (Or.inl rfl) | exact Or.inr (Or.inr rfl)) (by decide) (by decide) rfl rfl rfl | refine je_meth0D 4 (by assumption) (by assumption) (Room.mono (by assumption) (by decide)) rfl rfl ?_ rfl (by first | exact Or.inl rfl | exact Or.inr (Or.inl rfl) | exact Or.inr (Or.inr rfl)) (by decide) (by decide) rfl | refine je_methD 4 (by assumption) (by assumption) (Room.mono (by assumption) (by decide)) rfl rfl ?_ rfl (by first | exact Or.inl rfl | exact Or.inr (Or.inl rfl) | exact Or.inr (Or.inr rfl)) (by decide) (by decide) rfl rfl rfl | refine je_meth0D 8 (by assumption) (by assumption) (Room.mono (by assumption) (by decide)) rfl rfl ?_ rfl (by first | exact Or.inl rfl | exact Or.inr (Or.inl rfl) | exact Or.inr (Or.inr rfl)) (by decide) (by decide) rfl | refine je_methD 8 (by assumption) (by assumption) (Room.mono (by assumption) (by decide)) rfl rfl ?_ rfl (by first | exact Or.inl rfl | exact Or.inr (Or.inl rfl) | exact Or.inr (Or.inr rfl)) (by decide) (by decide) rfl rfl rfl))
local macro_rules | `(tactic| walk_at "s") => `(tactic| first
  | ((with_reducible refine isAs ?_); first | refine js_attr 0 (by assumption) (by assumption) ?_ rfl (by first | exact Or.inl rfl | exact Or.inr (Or.inl rfl) | exact Or.inr (Or.inr rfl)) (by decide) (by decide) rfl | refine js_attr 5 (by assumption) (by assumption) ?_ rfl (by first | exact Or.inl rfl | exact Or.inr (Or.inl rfl) | exact Or.inr (Or.inr rfl)) (by decide) (by decide) rfl)
  | refine js_retN ?_)
local macro_rules | `(tactic| walk_at "c") => `(tactic| first | refine exC rfl (celND rfl) ?_ | refine exAt rfl rfl ?_)
local macro_rules | `(tactic| walk_at "x") => `(tactic| (refine isN ?_; first | refine jn_cons ?_ rfl | refine jn_nil ?_))
local macro_rules | `(tactic| walk_at "e") => `(tactic| ((with_reducible refine isMc ?_); first | refine je_pop 2 rfl ?_ rfl (by first | exact Or.inl rfl | exact Or.inr (Or.inl rfl) | exact Or.inr (Or.inr rfl)) (by decide) (by decide) rfl rfl rfl rfl rfl | refine je_pop 6 rfl ?_ rfl (by first | exact Or.inl rfl | exact Or.inr (Or.inl rfl) | exact Or.inr (Or.inr rfl)) (by decide) (by decide) rfl rfl rfl rfl rfl))
section
variable {P : Program} {w : World} {K : PySem.W.Frag} {mg : Str → Option Value} {base : Heap}
def S_law_lane_after : Spec := fun cs R => ∃ (y : Yd) (s : Sd) (m : Mv), cs = [.dat (dY y), .dat (dS s), .dat (dM m)] ∧ YdOk y ∧ Shp y s ∧ Can y s m ∧ R cs (.dat (dS (step y s m)))
theorem sc_law_lane_after : FnScope ["_law_yard", "_law_stand", "_law_move", "_law_waiting", "_law_firsts", "_law_seconds", "_law_gone", "_law_word", "_law_at", "_law_first", "_law_second", "_law_wagon", "_law_over"] ["_law_yard", "_law_stand", "_law_move"] (defScope s_law_lane_after) := ⟨rfl, rfl, rfl, by decide +kernel, rfl, by decide +kernel, by decide +kernel⟩
theorem ok_law_lane_after (g : GD K mg "_law_lane_after" s_law_lane_after) (m2 : mg "len" = none) (D1 : DefOk P w K mg base 1 "_law_lane_put" ["_law_lanes", "_law_at", "_law_lane"] S_law_lane_put) : DefOk P w K mg base 2 "_law_lane_after" ["_law_yard", "_law_stand", "_law_move"] S_law_lane_after := by
  refine defD g sc_law_lane_after (by decide) (fun _ _ _ _ _ _ us hl => match us, hl with | [_, _, _], _ => rfl) (fun cs R h => ?_) fun f_ cdv_ A outer s_ H E cs R hr h => ?_
  · obtain ⟨y, s, m, rfl, _⟩ := h
    rfl
  have hN : (["_law_yard", "_law_stand", "_law_move", "_law_waiting", "_law_firsts", "_law_seconds", "_law_gone", "_law_word", "_law_at", "_law_first", "_law_second", "_law_wagon", "_law_over"] : List Str).Nodup := by decide +kernel
  have nm0 : NmOk (cxOf CX0 P w K mg base ["_law_yard", "_law_stand", "_law_move", "_law_waiting", "_law_firsts", "_law_seconds", "_law_gone", "_law_word", "_law_at", "_law_first", "_law_second", "_law_wagon", "_law_over"] "_law_lane_after" (defScope s_law_lane_after) f_ cdv_ A outer s_ H E).nox 0 "_law_yard" := ⟨rfl, by first | exact Or.inl rfl | exact Or.inr (Or.inl rfl) | exact Or.inr (Or.inr rfl), by decide, by decide⟩
  have lc0 : LcOk (cxOf CX0 P w K mg base ["_law_yard", "_law_stand", "_law_move", "_law_waiting", "_law_firsts", "_law_seconds", "_law_gone", "_law_word", "_law_at", "_law_first", "_law_second", "_law_wagon", "_law_over"] "_law_lane_after" (defScope s_law_lane_after) f_ cdv_ A outer s_ H E).nox 0 "_law_yard" := ⟨rfl, by first | exact Or.inl rfl | exact Or.inr rfl, by first | exact Or.inl rfl | exact Or.inr rfl⟩
  have nm1 : NmOk (cxOf CX0 P w K mg base ["_law_yard", "_law_stand", "_law_move", "_law_waiting", "_law_firsts", "_law_seconds", "_law_gone", "_law_word", "_law_at", "_law_first", "_law_second", "_law_wagon", "_law_over"] "_law_lane_after" (defScope s_law_lane_after) f_ cdv_ A outer s_ H E).nox 1 "_law_stand" := ⟨rfl, by first | exact Or.inl rfl | exact Or.inr (Or.inl rfl) | exact Or.inr (Or.inr rfl), by decide, by decide⟩
  have lc1 : LcOk (cxOf CX0 P w K mg base ["_law_yard", "_law_stand", "_law_move", "_law_waiting", "_law_firsts", "_law_seconds", "_law_gone", "_law_word", "_law_at", "_law_first", "_law_second", "_law_wagon", "_law_over"] "_law_lane_after" (defScope s_law_lane_after) f_ cdv_ A outer s_ H E).nox 1 "_law_stand" := ⟨rfl, by first | exact Or.inl rfl | exact Or.inr rfl, by first | exact Or.inl rfl | exact Or.inr rfl⟩
  have nm2 : NmOk (cxOf CX0 P w K mg base ["_law_yard", "_law_stand", "_law_move", "_law_waiting", "_law_firsts", "_law_seconds", "_law_gone", "_law_word", "_law_at", "_law_first", "_law_second", "_law_wagon", "_law_over"] "_law_lane_after" (defScope s_law_lane_after) f_ cdv_ A outer s_ H E).nox 2 "_law_move" := ⟨rfl, by first | exact Or.inl rfl | exact Or.inr (Or.inl rfl) | exact Or.inr (Or.inr rfl), by decide, by decide⟩
  have lc2 : LcOk (cxOf CX0 P w K mg base ["_law_yard", "_law_stand", "_law_move", "_law_waiting", "_law_firsts", "_law_seconds", "_law_gone", "_law_word", "_law_at", "_law_first", "_law_second", "_law_wagon", "_law_over"] "_law_lane_after" (defScope s_law_lane_after) f_ cdv_ A outer s_ H E).nox 2 "_law_move" := ⟨rfl, by first | exact Or.inl rfl | exact Or.inr rfl, by first | exact Or.inl rfl | exact Or.inr rfl⟩
  have nm3 : NmOk (cxOf CX0 P w K mg base ["_law_yard", "_law_stand", "_law_move", "_law_waiting", "_law_firsts", "_law_seconds", "_law_gone", "_law_word", "_law_at", "_law_first", "_law_second", "_law_wagon", "_law_over"] "_law_lane_after" (defScope s_law_lane_after) f_ cdv_ A outer s_ H E).nox 3 "_law_waiting" := ⟨rfl, by first | exact Or.inl rfl | exact Or.inr (Or.inl rfl) | exact Or.inr (Or.inr rfl), by decide, by decide⟩
  have lc3 : LcOk (cxOf CX0 P w K mg base ["_law_yard", "_law_stand", "_law_move", "_law_waiting", "_law_firsts", "_law_seconds", "_law_gone", "_law_word", "_law_at", "_law_first", "_law_second", "_law_wagon", "_law_over"] "_law_lane_after" (defScope s_law_lane_after) f_ cdv_ A outer s_ H E).nox 3 "_law_waiting" := ⟨rfl, by first | exact Or.inl rfl | exact Or.inr rfl, by first | exact Or.inl rfl | exact Or.inr rfl⟩
  have nm4 : NmOk (cxOf CX0 P w K mg base ["_law_yard", "_law_stand", "_law_move", "_law_waiting", "_law_firsts", "_law_seconds", "_law_gone", "_law_word", "_law_at", "_law_first", "_law_second", "_law_wagon", "_law_over"] "_law_lane_after" (defScope s_law_lane_after) f_ cdv_ A outer s_ H E).nox 4 "_law_firsts" := ⟨rfl, by first | exact Or.inl rfl | exact Or.inr (Or.inl rfl) | exact Or.inr (Or.inr rfl), by decide, by decide⟩
  have lc4 : LcOk (cxOf CX0 P w K mg base ["_law_yard", "_law_stand", "_law_move", "_law_waiting", "_law_firsts", "_law_seconds", "_law_gone", "_law_word", "_law_at", "_law_first", "_law_second", "_law_wagon", "_law_over"] "_law_lane_after" (defScope s_law_lane_after) f_ cdv_ A outer s_ H E).nox 4 "_law_firsts" := ⟨rfl, by first | exact Or.inl rfl | exact Or.inr rfl, by first | exact Or.inl rfl | exact Or.inr rfl⟩
  have nm5 : NmOk (cxOf CX0 P w K mg base ["_law_yard", "_law_stand", "_law_move", "_law_waiting", "_law_firsts", "_law_seconds", "_law_gone", "_law_word", "_law_at", "_law_first", "_law_second", "_law_wagon", "_law_over"] "_law_lane_after" (defScope s_law_lane_after) f_ cdv_ A outer s_ H E).nox 5 "_law_seconds" := ⟨rfl, by first | exact Or.inl rfl | exact Or.inr (Or.inl rfl) | exact Or.inr (Or.inr rfl), by decide, by decide⟩
  have lc5 : LcOk (cxOf CX0 P w K mg base ["_law_yard", "_law_stand", "_law_move", "_law_waiting", "_law_firsts", "_law_seconds", "_law_gone", "_law_word", "_law_at", "_law_first", "_law_second", "_law_wagon", "_law_over"] "_law_lane_after" (defScope s_law_lane_after) f_ cdv_ A outer s_ H E).nox 5 "_law_seconds" := ⟨rfl, by first | exact Or.inl rfl | exact Or.inr rfl, by first | exact Or.inl rfl | exact Or.inr rfl⟩
  have nm6 : NmOk (cxOf CX0 P w K mg base ["_law_yard", "_law_stand", "_law_move", "_law_waiting", "_law_firsts", "_law_seconds", "_law_gone", "_law_word", "_law_at", "_law_first", "_law_second", "_law_wagon", "_law_over"] "_law_lane_after" (defScope s_law_lane_after) f_ cdv_ A outer s_ H E).nox 6 "_law_gone" := ⟨rfl, by first | exact Or.inl rfl | exact Or.inr (Or.inl rfl) | exact Or.inr (Or.inr rfl), by decide, by decide⟩
  have lc6 : LcOk (cxOf CX0 P w K mg base ["_law_yard", "_law_stand", "_law_move", "_law_waiting", "_law_firsts", "_law_seconds", "_law_gone", "_law_word", "_law_at", "_law_first", "_law_second", "_law_wagon", "_law_over"] "_law_lane_after" (defScope s_law_lane_after) f_ cdv_ A outer s_ H E).nox 6 "_law_gone" := ⟨rfl, by first | exact Or.inl rfl | exact Or.inr rfl, by first | exact Or.inl rfl | exact Or.inr rfl⟩
  have nm7 : NmOk (cxOf CX0 P w K mg base ["_law_yard", "_law_stand", "_law_move", "_law_waiting", "_law_firsts", "_law_seconds", "_law_gone", "_law_word", "_law_at", "_law_first", "_law_second", "_law_wagon", "_law_over"] "_law_lane_after" (defScope s_law_lane_after) f_ cdv_ A outer s_ H E).nox 7 "_law_word" := ⟨rfl, by first | exact Or.inl rfl | exact Or.inr (Or.inl rfl) | exact Or.inr (Or.inr rfl), by decide, by decide⟩
  have lc7 : LcOk (cxOf CX0 P w K mg base ["_law_yard", "_law_stand", "_law_move", "_law_waiting", "_law_firsts", "_law_seconds", "_law_gone", "_law_word", "_law_at", "_law_first", "_law_second", "_law_wagon", "_law_over"] "_law_lane_after" (defScope s_law_lane_after) f_ cdv_ A outer s_ H E).nox 7 "_law_word" := ⟨rfl, by first | exact Or.inl rfl | exact Or.inr rfl, by first | exact Or.inl rfl | exact Or.inr rfl⟩
  have nm8 : NmOk (cxOf CX0 P w K mg base ["_law_yard", "_law_stand", "_law_move", "_law_waiting", "_law_firsts", "_law_seconds", "_law_gone", "_law_word", "_law_at", "_law_first", "_law_second", "_law_wagon", "_law_over"] "_law_lane_after" (defScope s_law_lane_after) f_ cdv_ A outer s_ H E).nox 8 "_law_at" := ⟨rfl, by first | exact Or.inl rfl | exact Or.inr (Or.inl rfl) | exact Or.inr (Or.inr rfl), by decide, by decide⟩
  have lc8 : LcOk (cxOf CX0 P w K mg base ["_law_yard", "_law_stand", "_law_move", "_law_waiting", "_law_firsts", "_law_seconds", "_law_gone", "_law_word", "_law_at", "_law_first", "_law_second", "_law_wagon", "_law_over"] "_law_lane_after" (defScope s_law_lane_after) f_ cdv_ A outer s_ H E).nox 8 "_law_at" := ⟨rfl, by first | exact Or.inl rfl | exact Or.inr rfl, by first | exact Or.inl rfl | exact Or.inr rfl⟩
  have nm9 : NmOk (cxOf CX0 P w K mg base ["_law_yard", "_law_stand", "_law_move", "_law_waiting", "_law_firsts", "_law_seconds", "_law_gone", "_law_word", "_law_at", "_law_first", "_law_second", "_law_wagon", "_law_over"] "_law_lane_after" (defScope s_law_lane_after) f_ cdv_ A outer s_ H E).nox 9 "_law_first" := ⟨rfl, by first | exact Or.inl rfl | exact Or.inr (Or.inl rfl) | exact Or.inr (Or.inr rfl), by decide, by decide⟩
  have lc9 : LcOk (cxOf CX0 P w K mg base ["_law_yard", "_law_stand", "_law_move", "_law_waiting", "_law_firsts", "_law_seconds", "_law_gone", "_law_word", "_law_at", "_law_first", "_law_second", "_law_wagon", "_law_over"] "_law_lane_after" (defScope s_law_lane_after) f_ cdv_ A outer s_ H E).nox 9 "_law_first" := ⟨rfl, by first | exact Or.inl rfl | exact Or.inr rfl, by first | exact Or.inl rfl | exact Or.inr rfl⟩
  have nm10 : NmOk (cxOf CX0 P w K mg base ["_law_yard", "_law_stand", "_law_move", "_law_waiting", "_law_firsts", "_law_seconds", "_law_gone", "_law_word", "_law_at", "_law_first", "_law_second", "_law_wagon", "_law_over"] "_law_lane_after" (defScope s_law_lane_after) f_ cdv_ A outer s_ H E).nox 10 "_law_second" := ⟨rfl, by first | exact Or.inl rfl | exact Or.inr (Or.inl rfl) | exact Or.inr (Or.inr rfl), by decide, by decide⟩
  have lc10 : LcOk (cxOf CX0 P w K mg base ["_law_yard", "_law_stand", "_law_move", "_law_waiting", "_law_firsts", "_law_seconds", "_law_gone", "_law_word", "_law_at", "_law_first", "_law_second", "_law_wagon", "_law_over"] "_law_lane_after" (defScope s_law_lane_after) f_ cdv_ A outer s_ H E).nox 10 "_law_second" := ⟨rfl, by first | exact Or.inl rfl | exact Or.inr rfl, by first | exact Or.inl rfl | exact Or.inr rfl⟩
  have nm11 : NmOk (cxOf CX0 P w K mg base ["_law_yard", "_law_stand", "_law_move", "_law_waiting", "_law_firsts", "_law_seconds", "_law_gone", "_law_word", "_law_at", "_law_first", "_law_second", "_law_wagon", "_law_over"] "_law_lane_after" (defScope s_law_lane_after) f_ cdv_ A outer s_ H E).nox 11 "_law_wagon" := ⟨rfl, by first | exact Or.inl rfl | exact Or.inr (Or.inl rfl) | exact Or.inr (Or.inr rfl), by decide, by decide⟩
  have lc11 : LcOk (cxOf CX0 P w K mg base ["_law_yard", "_law_stand", "_law_move", "_law_waiting", "_law_firsts", "_law_seconds", "_law_gone", "_law_word", "_law_at", "_law_first", "_law_second", "_law_wagon", "_law_over"] "_law_lane_after" (defScope s_law_lane_after) f_ cdv_ A outer s_ H E).nox 11 "_law_wagon" := ⟨rfl, by first | exact Or.inl rfl | exact Or.inr rfl, by first | exact Or.inl rfl | exact Or.inr rfl⟩
  have nm12 : NmOk (cxOf CX0 P w K mg base ["_law_yard", "_law_stand", "_law_move", "_law_waiting", "_law_firsts", "_law_seconds", "_law_gone", "_law_word", "_law_at", "_law_first", "_law_second", "_law_wagon", "_law_over"] "_law_lane_after" (defScope s_law_lane_after) f_ cdv_ A outer s_ H E).nox 12 "_law_over" := ⟨rfl, by first | exact Or.inl rfl | exact Or.inr (Or.inl rfl) | exact Or.inr (Or.inr rfl), by decide, by decide⟩
  have lc12 : LcOk (cxOf CX0 P w K mg base ["_law_yard", "_law_stand", "_law_move", "_law_waiting", "_law_firsts", "_law_seconds", "_law_gone", "_law_word", "_law_at", "_law_first", "_law_second", "_law_wagon", "_law_over"] "_law_lane_after" (defScope s_law_lane_after) f_ cdv_ A outer s_ H E).nox 12 "_law_over" := ⟨rfl, by first | exact Or.inl rfl | exact Or.inr rfl, by first | exact Or.inl rfl | exact Or.inr rfl⟩
  have dD1 : DefOk (cxOf CX0 P w K mg base ["_law_yard", "_law_stand", "_law_move", "_law_waiting", "_law_firsts", "_law_seconds", "_law_gone", "_law_word", "_law_at", "_law_first", "_law_second", "_law_wagon", "_law_over"] "_law_lane_after" (defScope s_law_lane_after) f_ cdv_ A outer s_ H E).nox.prog (cxOf CX0 P w K mg base ["_law_yard", "_law_stand", "_law_move", "_law_waiting", "_law_firsts", "_law_seconds", "_law_gone", "_law_word", "_law_at", "_law_first", "_law_second", "_law_wagon", "_law_over"] "_law_lane_after" (defScope s_law_lane_after) f_ cdv_ A outer s_ H E).nox.w (cxOf CX0 P w K mg base ["_law_yard", "_law_stand", "_law_move", "_law_waiting", "_law_firsts", "_law_seconds", "_law_gone", "_law_word", "_law_at", "_law_first", "_law_second", "_law_wagon", "_law_over"] "_law_lane_after" (defScope s_law_lane_after) f_ cdv_ A outer s_ H E).nox.K (cxOf CX0 P w K mg base ["_law_yard", "_law_stand", "_law_move", "_law_waiting", "_law_firsts", "_law_seconds", "_law_gone", "_law_word", "_law_at", "_law_first", "_law_second", "_law_wagon", "_law_over"] "_law_lane_after" (defScope s_law_lane_after) f_ cdv_ A outer s_ H E).nox.mg (cxOf CX0 P w K mg base ["_law_yard", "_law_stand", "_law_move", "_law_waiting", "_law_firsts", "_law_seconds", "_law_gone", "_law_word", "_law_at", "_law_first", "_law_second", "_law_wagon", "_law_over"] "_law_lane_after" (defScope s_law_lane_after) f_ cdv_ A outer s_ H E).nox.base 1 "_law_lane_put" ["_law_lanes", "_law_at", "_law_lane"] S_law_lane_put := D1
  obtain ⟨y, s, m, rfl, hy, hs, hc, hR⟩ := h
  have b1 := hs.fl
  have b2 := hs.sl
  have b3 := hy.k2
  have b4 := hy.l2
  walk_at "go"
  obtain ⟨wd, ix⟩ := m
  cases wd with
  | inn =>
    obtain ⟨e1, e2⟩ := fr_at (a := ix) hs hc.1
    refine Or.inl ⟨_, (cm_W .inn).shaped, rfl, rfl, ?_⟩
    refine okT ?_
    cases hw : s.w with
    | nil => exact absurd hw hc.2
    | cons h rest =>
      have h0 := at0 (f := dN) (x := h) (xs := rest)
      walk_at "go"
      refine Or.inr ⟨cm_N _, cm_I _, fun t ht => ?_⟩
      have ef : t = false := by
        cases t with
        | false => rfl
        | true => have := ht.mp rfl; simp at this; omega
      refine okFe ef ?_
      walk_at "go"
      refine ⟨by simp only [List.length_map, List.length_cons, List.length_nil]; omega, ?_⟩
      walk_at "go"
      refine ⟨s.f, ix, s.fr ix ++ [h], by simp only [dL, List.map_append]; rfl, by omega, ?_⟩
      walk_at "go"
      refine ⟨by walk_at "bk", ?_⟩
      have e : step y s ⟨.inn, ix⟩ = ⟨rest, s.f.set ix (s.fr ix ++ [h]), s.s, s.g⟩ := by
        show (⟨s.w.drop 1, s.f.set ix (s.fr ix ++ s.w.take 1), s.s, s.g⟩ : Sd) = _
        rw [hw]
        rfl
      rw [e, ] at hR
      exact hR
  | over =>
    obtain ⟨k1, k2, k3⟩ := tk_at (t := ix) hy hc.1
    obtain ⟨e1, e2⟩ := fr_at hs k2
    obtain ⟨e3, e4⟩ := se_at hs k3
    refine Or.inr ⟨cm_W .over, cm_W .inn, fun t ht => ?_⟩
    refine okFe ((tEq ht (str_eq (a := .over) (b := .inn))).trans (decide_eq_false (by decide))) ?_
    walk_at "go"
    refine Or.inl ⟨_, (cm_W .over).shaped, rfl, rfl, ?_⟩
    refine okT ?_
    cases hf : s.fr (y.tk ix).1 with
    | nil => exact absurd hf hc.2
    | cons h rest =>
      rw [hf] at e1
      have h0 := at0 (f := dN) (x := h) (xs := rest)
      walk_at "go"
      refine Or.inr ⟨cm_N _, cm_I _, fun t ht => ?_⟩
      have ef : t = false := by
        cases t with
        | false => rfl
        | true => have := ht.mp rfl; simp at this; omega
      refine okFe ef ?_
      walk_at "go"
      refine ⟨by simp only [List.length_map, List.length_cons, List.length_nil]; omega, ?_⟩
      walk_at "go"
      refine ⟨s.s, (y.tk ix).2, s.se (y.tk ix).2 ++ [h], by simp only [dL, List.map_append]; rfl, by omega, ?_⟩
      walk_at "go"
      refine ⟨s.f, (y.tk ix).1, rest, rfl, by omega, ?_⟩
      walk_at "go"
      refine ⟨by walk_at "bk", ?_⟩
      have e : step y s ⟨.over, ix⟩ = ⟨s.w, s.f.set (y.tk ix).1 rest, s.s.set (y.tk ix).2 (s.se (y.tk ix).2 ++ [h]), s.g⟩ := by
        show (⟨s.w, s.f.set (y.tk ix).1 ((s.fr (y.tk ix).1).drop 1), s.s.set (y.tk ix).2 (s.se (y.tk ix).2 ++ (s.fr (y.tk ix).1).take 1), s.g⟩ : Sd) = _
        rw [hf]
        rfl
      rw [e] at hR
      exact hR
  | out =>
    obtain ⟨e1, e2⟩ := se_at (a := ix) hs hc.1
    obtain ⟨xs, hx⟩ := hc.2
    refine Or.inr ⟨cm_W .out, cm_W .inn, fun t ht => ?_⟩
    refine okFe ((tEq ht (str_eq (a := .out) (b := .inn))).trans (decide_eq_false (by decide))) ?_
    walk_at "go"
    refine Or.inr ⟨cm_W .out, cm_W .over, fun t ht => ?_⟩
    refine okFe ((tEq ht (str_eq (a := .out) (b := .over))).trans (decide_eq_false (by decide))) ?_
    have hx' : s.se ix = s.g :: xs := hx
    rw [hx'] at e1
    have h0 := at0 (f := dN) (x := s.g) (xs := xs)
    walk_at "go"
    refine Or.inr ⟨cm_N _, cm_I _, fun t ht => ?_⟩
    have ef : t = false := by
      cases t with
      | false => rfl
      | true => have := ht.mp rfl; simp at this; omega
    refine okFe ef ?_
    walk_at "go"
    walk_at "same"
    refine okF ?_
    walk_at "go"
    refine ⟨s.s, ix, xs, rfl, by omega, ?_⟩
    walk_at "go"
    refine ⟨by walk_at "bk", ?_⟩
    have e : step y s ⟨.out, ix⟩ = ⟨s.w, s.f, s.s.set ix xs, s.g + 1⟩ := by
      show (⟨s.w, s.f, s.s.set ix ((s.se ix).drop 1), s.g + 1⟩ : Sd) = _
      rw [hx']
      rfl
    rw [e] at hR
    exact hR

end
end
section
local macro_rules | `(tactic| walk_at "e") => `(tactic| first
  | ((with_reducible refine isAt ?_); first | refine je_attr 0 (by assumption) (by assumption) rfl rfl ?_ rfl (by first | exact Or.inl rfl | exact Or.inr (Or.inl rfl) | exact Or.inr (Or.inr rfl)) (by decide) (by decide) rfl | refine je_attr 4 (by assumption) (by assumption) rfl rfl ?_ rfl (by first | exact Or.inl rfl | exact Or.inr (Or.inl rfl) | exact Or.inr (Or.inr rfl)) (by decide) (by decide) rfl | refine je_attr 5 (by assumption) (by assumption) rfl rfl ?_ rfl (by first | exact Or.inl rfl | exact Or.inr (Or.inl rfl) | exact Or.inr (Or.inr rfl)) (by decide) (by decide) rfl | refine je_attr 8 (by assumption) (by assumption) rfl rfl ?_ rfl (by first | exact Or.inl rfl | exact Or.inr (Or.inl rfl) | exact Or.inr (Or.inr rfl)) (by decide) (by decide) rfl)
  | ((with_reducible refine isMc ?_); first | refine je_meth0D 0 (by assumption) (by assumption) (Room.mono (by assumption) (by decide)) rfl rfl ?_ rfl (by first | exact Or.inl rfl | exact Or.inr (Or.inl rfl) | exact Or.inr (Or.inr rfl)) (by decide) (by decide) rfl | refine je_methD 0 (by assumption) (by assumption) (Room.mono (by assumption) (by decide)) rfl rfl ?_ rfl (by first | exact Or.inl rfl | exact Or.inr (Or.inl rfl) | exact Or.inr (Or.inr rfl)) (by decide) (by decide) rfl rfl rfl | refine je_meth0D 4 (by assumption) (by assumption) (Room.mono (by assumption) (by decide)) rfl rfl ?_ rfl (by first | exact Or.inl rfl | exact Or.inr (Or.inl rfl) | exact Or.inr (Or.inr rfl)) (by decide) (by decide) rfl | refine je_methD 4 (by assumption) (by assumption) (Room.mono (by assumption) (by decide)) rfl rfl ?_ rfl (by first | exact Or.inl rfl | exact Or.inr (Or.inl rfl) | exact Or.inr (Or.inr rfl)) (by decide) (by decide) rfl rfl rfl | refine je_meth0D 8 (by assumption) (by assumption) (Room.mono (by assumption) (by decide)) rfl rfl ?_ rfl (by first | exact Or.inl rfl | exact Or.inr (Or.inl rfl) | exact Or.inr (Or.inr rfl)) (by decide) (by decide) rfl | refine je_methD 8 (by assumption) (by assumption) (Room.mono (by assumption) (by decide)) rfl rfl ?_ rfl (by first | exact Or.inl rfl | exact Or.inr (Or.inl rfl) | exact Or.inr (Or.inr rfl)) (by decide) (by decide) rfl rfl rfl))
local macro_rules | `(tactic| walk_at "s") => `(tactic| first
  | ((with_reducible refine isAs ?_); first | refine js_attr 0 (by assumption) (by assumption) ?_ rfl (by first | exact Or.inl rfl | exact Or.inr (Or.inl rfl) | exact Or.inr (Or.inr rfl)) (by decide) (by decide) rfl | refine js_attr 5 (by assumption) (by assumption) ?_ rfl (by first | exact Or.inl rfl | exact Or.inr (Or.inl rfl) | exact Or.inr (Or.inr rfl)) (by decide) (by decide) rfl)
  | refine js_retN ?_)
local macro_rules | `(tactic| walk_at "c") => `(tactic| first | refine exC rfl (celND rfl) ?_ | refine exAt rfl rfl ?_)
local macro_rules | `(tactic| walk_at "x") => `(tactic| (refine isN ?_; first | refine jn_cons ?_ rfl | refine jn_nil ?_))
local macro_rules | `(tactic| walk_at "e") => `(tactic| ((with_reducible refine isMc ?_); first | refine je_pop 2 rfl ?_ rfl (by first | exact Or.inl rfl | exact Or.inr (Or.inl rfl) | exact Or.inr (Or.inr rfl)) (by decide) (by decide) rfl rfl rfl rfl rfl | refine je_pop 6 rfl ?_ rfl (by first | exact Or.inl rfl | exact Or.inr (Or.inl rfl) | exact Or.inr (Or.inr rfl)) (by decide) (by decide) rfl rfl rfl rfl rfl))
section
variable {P : Program} {w : World} {K : PySem.W.Frag} {mg : Str → Option Value} {base : Heap}
/-- what the law holds green -/
def lawG (y : Yd) (tk : List Nat) (s : Sd) (m : Mv) : Bool := match m.wd with
  | .inn => match s.w with
    | [] => false
    | h :: _ => decide ((y.tk (tk.getD h 0)).1 = m.ix)
  | .over => overG y tk s m.ix
  | .out => outG s m.ix
/-- the law's dict of tracks says what the list says -/
def Says (kv : List (Key × PyData)) (tk : List Nat) : Prop := ∀ x, x < tk.length → dval kv (.inl (x : Int)) = some (dN (tk.getD x 0))
def S_law_lane_is_green : Spec := fun cs R => ∃ (y : Yd) (q : Addr) (kv : List (Key × PyData)) (tk : List Nat) (s : Sd) (m : Mv), cs = [.dat (dY y), .dct q kv, .dat (dS s), .dat (dM m)] ∧ YdOk y ∧ Shp y s ∧ TkOk y tk s ∧ tk.length ≤ 1000 ∧ Says kv tk ∧ m.ix < lim y m.wd ∧ R cs (.dat (.bool (lawG y tk s m)))
theorem sc_law_lane_is_green : FnScope ["_law_yard", "_law_tracks", "_law_stand", "_law_move", "_law_waiting", "_law_firsts", "_law_seconds", "_law_gone", "_law_word", "_law_at", "_law_first", "_law_second", "_law_wagon", "_law_lane"] ["_law_yard", "_law_tracks", "_law_stand", "_law_move"] (defScope s_law_lane_is_green) := ⟨rfl, rfl, rfl, by decide +kernel, rfl, by decide +kernel, by decide +kernel⟩
theorem ok_law_lane_is_green (g : GD K mg "_law_lane_is_green" s_law_lane_is_green) (m1 : mg "len" = none) (m2 : mg "range" = none) : DefOk P w K mg base 1 "_law_lane_is_green" ["_law_yard", "_law_tracks", "_law_stand", "_law_move"] S_law_lane_is_green := by
  refine defD g sc_law_lane_is_green (by decide) (fun _ _ _ _ _ _ us hl => match us, hl with | [_, _, _, _], _ => rfl) (fun cs R h => ?_) fun f_ cdv_ A outer s_ H E cs R hr h => ?_
  · obtain ⟨y, q, kv, tk, s, m, rfl, _⟩ := h
    rfl
  have hN : (["_law_yard", "_law_tracks", "_law_stand", "_law_move", "_law_waiting", "_law_firsts", "_law_seconds", "_law_gone", "_law_word", "_law_at", "_law_first", "_law_second", "_law_wagon", "_law_lane"] : List Str).Nodup := by decide +kernel
  have nm0 : NmOk (cxOf CX0 P w K mg base ["_law_yard", "_law_tracks", "_law_stand", "_law_move", "_law_waiting", "_law_firsts", "_law_seconds", "_law_gone", "_law_word", "_law_at", "_law_first", "_law_second", "_law_wagon", "_law_lane"] "_law_lane_is_green" (defScope s_law_lane_is_green) f_ cdv_ A outer s_ H E).nox 0 "_law_yard" := ⟨rfl, by first | exact Or.inl rfl | exact Or.inr (Or.inl rfl) | exact Or.inr (Or.inr rfl), by decide, by decide⟩
  have lc0 : LcOk (cxOf CX0 P w K mg base ["_law_yard", "_law_tracks", "_law_stand", "_law_move", "_law_waiting", "_law_firsts", "_law_seconds", "_law_gone", "_law_word", "_law_at", "_law_first", "_law_second", "_law_wagon", "_law_lane"] "_law_lane_is_green" (defScope s_law_lane_is_green) f_ cdv_ A outer s_ H E).nox 0 "_law_yard" := ⟨rfl, by first | exact Or.inl rfl | exact Or.inr rfl, by first | exact Or.inl rfl | exact Or.inr rfl⟩
  have nm1 : NmOk (cxOf CX0 P w K mg base ["_law_yard", "_law_tracks", "_law_stand", "_law_move", "_law_waiting", "_law_firsts", "_law_seconds", "_law_gone", "_law_word", "_law_at", "_law_first", "_law_second", "_law_wagon", "_law_lane"] "_law_lane_is_green" (defScope s_law_lane_is_green) f_ cdv_ A outer s_ H E).nox 1 "_law_tracks" := ⟨rfl, by first | exact Or.inl rfl | exact Or.inr (Or.inl rfl) | exact Or.inr (Or.inr rfl), by decide, by decide⟩
  have lc1 : LcOk (cxOf CX0 P w K mg base ["_law_yard", "_law_tracks", "_law_stand", "_law_move", "_law_waiting", "_law_firsts", "_law_seconds", "_law_gone", "_law_word", "_law_at", "_law_first", "_law_second", "_law_wagon", "_law_lane"] "_law_lane_is_green" (defScope s_law_lane_is_green) f_ cdv_ A outer s_ H E).nox 1 "_law_tracks" := ⟨rfl, by first | exact Or.inl rfl | exact Or.inr rfl, by first | exact Or.inl rfl | exact Or.inr rfl⟩
  have nm2 : NmOk (cxOf CX0 P w K mg base ["_law_yard", "_law_tracks", "_law_stand", "_law_move", "_law_waiting", "_law_firsts", "_law_seconds", "_law_gone", "_law_word", "_law_at", "_law_first", "_law_second", "_law_wagon", "_law_lane"] "_law_lane_is_green" (defScope s_law_lane_is_green) f_ cdv_ A outer s_ H E).nox 2 "_law_stand" := ⟨rfl, by first | exact Or.inl rfl | exact Or.inr (Or.inl rfl) | exact Or.inr (Or.inr rfl), by decide, by decide⟩
  have lc2 : LcOk (cxOf CX0 P w K mg base ["_law_yard", "_law_tracks", "_law_stand", "_law_move", "_law_waiting", "_law_firsts", "_law_seconds", "_law_gone", "_law_word", "_law_at", "_law_first", "_law_second", "_law_wagon", "_law_lane"] "_law_lane_is_green" (defScope s_law_lane_is_green) f_ cdv_ A outer s_ H E).nox 2 "_law_stand" := ⟨rfl, by first | exact Or.inl rfl | exact Or.inr rfl, by first | exact Or.inl rfl | exact Or.inr rfl⟩
  have nm3 : NmOk (cxOf CX0 P w K mg base ["_law_yard", "_law_tracks", "_law_stand", "_law_move", "_law_waiting", "_law_firsts", "_law_seconds", "_law_gone", "_law_word", "_law_at", "_law_first", "_law_second", "_law_wagon", "_law_lane"] "_law_lane_is_green" (defScope s_law_lane_is_green) f_ cdv_ A outer s_ H E).nox 3 "_law_move" := ⟨rfl, by first | exact Or.inl rfl | exact Or.inr (Or.inl rfl) | exact Or.inr (Or.inr rfl), by decide, by decide⟩
  have lc3 : LcOk (cxOf CX0 P w K mg base ["_law_yard", "_law_tracks", "_law_stand", "_law_move", "_law_waiting", "_law_firsts", "_law_seconds", "_law_gone", "_law_word", "_law_at", "_law_first", "_law_second", "_law_wagon", "_law_lane"] "_law_lane_is_green" (defScope s_law_lane_is_green) f_ cdv_ A outer s_ H E).nox 3 "_law_move" := ⟨rfl, by first | exact Or.inl rfl | exact Or.inr rfl, by first | exact Or.inl rfl | exact Or.inr rfl⟩
  have nm4 : NmOk (cxOf CX0 P w K mg base ["_law_yard", "_law_tracks", "_law_stand", "_law_move", "_law_waiting", "_law_firsts", "_law_seconds", "_law_gone", "_law_word", "_law_at", "_law_first", "_law_second", "_law_wagon", "_law_lane"] "_law_lane_is_green" (defScope s_law_lane_is_green) f_ cdv_ A outer s_ H E).nox 4 "_law_waiting" := ⟨rfl, by first | exact Or.inl rfl | exact Or.inr (Or.inl rfl) | exact Or.inr (Or.inr rfl), by decide, by decide⟩
  have lc4 : LcOk (cxOf CX0 P w K mg base ["_law_yard", "_law_tracks", "_law_stand", "_law_move", "_law_waiting", "_law_firsts", "_law_seconds", "_law_gone", "_law_word", "_law_at", "_law_first", "_law_second", "_law_wagon", "_law_lane"] "_law_lane_is_green" (defScope s_law_lane_is_green) f_ cdv_ A outer s_ H E).nox 4 "_law_waiting" := ⟨rfl, by first | exact Or.inl rfl | exact Or.inr rfl, by first | exact Or.inl rfl | exact Or.inr rfl⟩
  have nm5 : NmOk (cxOf CX0 P w K mg base ["_law_yard", "_law_tracks", "_law_stand", "_law_move", "_law_waiting", "_law_firsts", "_law_seconds", "_law_gone", "_law_word", "_law_at", "_law_first", "_law_second", "_law_wagon", "_law_lane"] "_law_lane_is_green" (defScope s_law_lane_is_green) f_ cdv_ A outer s_ H E).nox 5 "_law_firsts" := ⟨rfl, by first | exact Or.inl rfl | exact Or.inr (Or.inl rfl) | exact Or.inr (Or.inr rfl), by decide, by decide⟩
  have lc5 : LcOk (cxOf CX0 P w K mg base ["_law_yard", "_law_tracks", "_law_stand", "_law_move", "_law_waiting", "_law_firsts", "_law_seconds", "_law_gone", "_law_word", "_law_at", "_law_first", "_law_second", "_law_wagon", "_law_lane"] "_law_lane_is_green" (defScope s_law_lane_is_green) f_ cdv_ A outer s_ H E).nox 5 "_law_firsts" := ⟨rfl, by first | exact Or.inl rfl | exact Or.inr rfl, by first | exact Or.inl rfl | exact Or.inr rfl⟩
  have nm6 : NmOk (cxOf CX0 P w K mg base ["_law_yard", "_law_tracks", "_law_stand", "_law_move", "_law_waiting", "_law_firsts", "_law_seconds", "_law_gone", "_law_word", "_law_at", "_law_first", "_law_second", "_law_wagon", "_law_lane"] "_law_lane_is_green" (defScope s_law_lane_is_green) f_ cdv_ A outer s_ H E).nox 6 "_law_seconds" := ⟨rfl, by first | exact Or.inl rfl | exact Or.inr (Or.inl rfl) | exact Or.inr (Or.inr rfl), by decide, by decide⟩
  have lc6 : LcOk (cxOf CX0 P w K mg base ["_law_yard", "_law_tracks", "_law_stand", "_law_move", "_law_waiting", "_law_firsts", "_law_seconds", "_law_gone", "_law_word", "_law_at", "_law_first", "_law_second", "_law_wagon", "_law_lane"] "_law_lane_is_green" (defScope s_law_lane_is_green) f_ cdv_ A outer s_ H E).nox 6 "_law_seconds" := ⟨rfl, by first | exact Or.inl rfl | exact Or.inr rfl, by first | exact Or.inl rfl | exact Or.inr rfl⟩
  have nm7 : NmOk (cxOf CX0 P w K mg base ["_law_yard", "_law_tracks", "_law_stand", "_law_move", "_law_waiting", "_law_firsts", "_law_seconds", "_law_gone", "_law_word", "_law_at", "_law_first", "_law_second", "_law_wagon", "_law_lane"] "_law_lane_is_green" (defScope s_law_lane_is_green) f_ cdv_ A outer s_ H E).nox 7 "_law_gone" := ⟨rfl, by first | exact Or.inl rfl | exact Or.inr (Or.inl rfl) | exact Or.inr (Or.inr rfl), by decide, by decide⟩
  have lc7 : LcOk (cxOf CX0 P w K mg base ["_law_yard", "_law_tracks", "_law_stand", "_law_move", "_law_waiting", "_law_firsts", "_law_seconds", "_law_gone", "_law_word", "_law_at", "_law_first", "_law_second", "_law_wagon", "_law_lane"] "_law_lane_is_green" (defScope s_law_lane_is_green) f_ cdv_ A outer s_ H E).nox 7 "_law_gone" := ⟨rfl, by first | exact Or.inl rfl | exact Or.inr rfl, by first | exact Or.inl rfl | exact Or.inr rfl⟩
  have nm8 : NmOk (cxOf CX0 P w K mg base ["_law_yard", "_law_tracks", "_law_stand", "_law_move", "_law_waiting", "_law_firsts", "_law_seconds", "_law_gone", "_law_word", "_law_at", "_law_first", "_law_second", "_law_wagon", "_law_lane"] "_law_lane_is_green" (defScope s_law_lane_is_green) f_ cdv_ A outer s_ H E).nox 8 "_law_word" := ⟨rfl, by first | exact Or.inl rfl | exact Or.inr (Or.inl rfl) | exact Or.inr (Or.inr rfl), by decide, by decide⟩
  have lc8 : LcOk (cxOf CX0 P w K mg base ["_law_yard", "_law_tracks", "_law_stand", "_law_move", "_law_waiting", "_law_firsts", "_law_seconds", "_law_gone", "_law_word", "_law_at", "_law_first", "_law_second", "_law_wagon", "_law_lane"] "_law_lane_is_green" (defScope s_law_lane_is_green) f_ cdv_ A outer s_ H E).nox 8 "_law_word" := ⟨rfl, by first | exact Or.inl rfl | exact Or.inr rfl, by first | exact Or.inl rfl | exact Or.inr rfl⟩
  have nm9 : NmOk (cxOf CX0 P w K mg base ["_law_yard", "_law_tracks", "_law_stand", "_law_move", "_law_waiting", "_law_firsts", "_law_seconds", "_law_gone", "_law_word", "_law_at", "_law_first", "_law_second", "_law_wagon", "_law_lane"] "_law_lane_is_green" (defScope s_law_lane_is_green) f_ cdv_ A outer s_ H E).nox 9 "_law_at" := ⟨rfl, by first | exact Or.inl rfl | exact Or.inr (Or.inl rfl) | exact Or.inr (Or.inr rfl), by decide, by decide⟩
  have lc9 : LcOk (cxOf CX0 P w K mg base ["_law_yard", "_law_tracks", "_law_stand", "_law_move", "_law_waiting", "_law_firsts", "_law_seconds", "_law_gone", "_law_word", "_law_at", "_law_first", "_law_second", "_law_wagon", "_law_lane"] "_law_lane_is_green" (defScope s_law_lane_is_green) f_ cdv_ A outer s_ H E).nox 9 "_law_at" := ⟨rfl, by first | exact Or.inl rfl | exact Or.inr rfl, by first | exact Or.inl rfl | exact Or.inr rfl⟩
  have nm10 : NmOk (cxOf CX0 P w K mg base ["_law_yard", "_law_tracks", "_law_stand", "_law_move", "_law_waiting", "_law_firsts", "_law_seconds", "_law_gone", "_law_word", "_law_at", "_law_first", "_law_second", "_law_wagon", "_law_lane"] "_law_lane_is_green" (defScope s_law_lane_is_green) f_ cdv_ A outer s_ H E).nox 10 "_law_first" := ⟨rfl, by first | exact Or.inl rfl | exact Or.inr (Or.inl rfl) | exact Or.inr (Or.inr rfl), by decide, by decide⟩
  have lc10 : LcOk (cxOf CX0 P w K mg base ["_law_yard", "_law_tracks", "_law_stand", "_law_move", "_law_waiting", "_law_firsts", "_law_seconds", "_law_gone", "_law_word", "_law_at", "_law_first", "_law_second", "_law_wagon", "_law_lane"] "_law_lane_is_green" (defScope s_law_lane_is_green) f_ cdv_ A outer s_ H E).nox 10 "_law_first" := ⟨rfl, by first | exact Or.inl rfl | exact Or.inr rfl, by first | exact Or.inl rfl | exact Or.inr rfl⟩
  have nm11 : NmOk (cxOf CX0 P w K mg base ["_law_yard", "_law_tracks", "_law_stand", "_law_move", "_law_waiting", "_law_firsts", "_law_seconds", "_law_gone", "_law_word", "_law_at", "_law_first", "_law_second", "_law_wagon", "_law_lane"] "_law_lane_is_green" (defScope s_law_lane_is_green) f_ cdv_ A outer s_ H E).nox 11 "_law_second" := ⟨rfl, by first | exact Or.inl rfl | exact Or.inr (Or.inl rfl) | exact Or.inr (Or.inr rfl), by decide, by decide⟩
  have lc11 : LcOk (cxOf CX0 P w K mg base ["_law_yard", "_law_tracks", "_law_stand", "_law_move", "_law_waiting", "_law_firsts", "_law_seconds", "_law_gone", "_law_word", "_law_at", "_law_first", "_law_second", "_law_wagon", "_law_lane"] "_law_lane_is_green" (defScope s_law_lane_is_green) f_ cdv_ A outer s_ H E).nox 11 "_law_second" := ⟨rfl, by first | exact Or.inl rfl | exact Or.inr rfl, by first | exact Or.inl rfl | exact Or.inr rfl⟩
  have nm12 : NmOk (cxOf CX0 P w K mg base ["_law_yard", "_law_tracks", "_law_stand", "_law_move", "_law_waiting", "_law_firsts", "_law_seconds", "_law_gone", "_law_word", "_law_at", "_law_first", "_law_second", "_law_wagon", "_law_lane"] "_law_lane_is_green" (defScope s_law_lane_is_green) f_ cdv_ A outer s_ H E).nox 12 "_law_wagon" := ⟨rfl, by first | exact Or.inl rfl | exact Or.inr (Or.inl rfl) | exact Or.inr (Or.inr rfl), by decide, by decide⟩
  have lc12 : LcOk (cxOf CX0 P w K mg base ["_law_yard", "_law_tracks", "_law_stand", "_law_move", "_law_waiting", "_law_firsts", "_law_seconds", "_law_gone", "_law_word", "_law_at", "_law_first", "_law_second", "_law_wagon", "_law_lane"] "_law_lane_is_green" (defScope s_law_lane_is_green) f_ cdv_ A outer s_ H E).nox 12 "_law_wagon" := ⟨rfl, by first | exact Or.inl rfl | exact Or.inr rfl, by first | exact Or.inl rfl | exact Or.inr rfl⟩
  obtain ⟨y, q, kv, tk, s, m, rfl, hy, hs, hk, htl, hkv, hc, hR⟩ := h
  have b1 := hs.fl
  have b2 := hs.sl
  have b3 := hy.k2
  have b4 := hy.l2
  walk_at "go"
  obtain ⟨wd, ix⟩ := m
  cases wd with
  | inn =>
    refine Or.inl ⟨_, (cm_W .inn).shaped, rfl, rfl, ?_⟩
    refine okT ?_
    unfold lawG at hR
    cases hw : s.w with
    | nil =>
      rw [hw] at hR
      walk_at "go"
      refine okFe (by simp) ?_
      exact ⟨by walk_at "bk", hR⟩
    | cons h rest =>
      rw [hw] at hR
      have hm : h ∈ behind s := by unfold behind; rw [hw]; simp
      obtain ⟨k1, k2⟩ := tk_in hk hm
      obtain ⟨k3, k4, k5⟩ := tk_at hy k2
      have h0 := at0 (f := dN) (x := h) (xs := rest)
      have hd := hkv h (hk.inn h hm)
      walk_at "go"
      refine okTe (by simp) ?_
      walk_at "go"
      refine ⟨_, _, .inl (h : Int), _, rfl, rfl, hd, ?_⟩
      walk_at "go"
      refine Or.inr ⟨cm_N _, cm_N _, fun t ht => ?_⟩
      have e := tEq ht nat_eq
      refine ⟨by walk_at "bk", ?_⟩
      rw [e]
      exact hR
  | over =>
    refine Or.inr ⟨cm_W .over, cm_W .inn, fun t ht => ?_⟩
    refine okFe ((tEq ht (str_eq (a := .over) (b := .inn))).trans (decide_eq_false (by decide))) ?_
    walk_at "go"
    refine Or.inr ⟨cm_W .over, cm_W .out, fun t ht => ?_⟩
    refine okFe ((tEq ht (str_eq (a := .over) (b := .out))).trans (decide_eq_false (by decide))) ?_
    obtain ⟨k1, k2, k3⟩ := tk_at (t := ix) hy hc
    obtain ⟨e1, e2⟩ := fr_at hs k2
    have hR' : R [.dat (dY y), .dct q kv, .dat (dS s), .dat (dM ⟨.over, ix⟩)] (.dat (.bool (overG y tk s ix))) := hR
    unfold overG at hR'
    walk_at "go"
    cases hf : s.fr (y.tk ix).1 with
    | nil =>
      rw [hf] at hR'
      walk_at "same"
      refine okT (okT ?_)
      walk_at "go"
      exact ⟨by walk_at "bk", hR'⟩
    | cons h rest =>
      rw [hf] at hR' e1
      refine Or.inr ⟨cm_N _, cm_I _, fun t ht => ?_⟩
      have ef : t = false := by
        cases t with
        | false => rfl
        | true => have := ht.mp rfl; simp at this; omega
      refine okFe ef ?_
      have hm : h ∈ behind s := List.mem_append_right _ (List.mem_flatten.mpr ⟨_, List.mem_of_getElem? e1, by simp⟩)
      obtain ⟨k4, k5⟩ := tk_in hk hm
      have hh := hk.inn h hm
      have h0 := at0 (f := dN) (x := h) (xs := rest)
      have hd := hkv h hh
      walk_at "go"
      refine ⟨_, _, .inl (h : Int), _, rfl, rfl, hd, ?_⟩
      walk_at "go"
      refine Or.inr ⟨cm_N _, cm_N _, fun t ht => ?_⟩
      have e := tNe ht nat_eq
      refine okB (fun z => ?_) (fun z => ?_)
      · rw [z] at e
        have q9 : ¬ tk.getD h 0 = ix := by simpa using e
        walk_at "go"
        simp only [q9, decide_false, Bool.false_and] at hR'
        exact ⟨by walk_at "bk", hR'⟩
      · rw [z] at e
        have q9 : tk.getD h 0 = ix := by simpa using e
        simp only [q9, decide_true, Bool.true_and] at hR'
        walk_at "go"
        refine ⟨h, rfl, by omega, ?_⟩
        refine ⟨fun i ρ => ∃ c, ρ = [some (.dat (dY y)), some (.dct q kv), some (.dat (dS s)), some (.dat (dM ⟨.over, ix⟩)), some (.dat (dL s.w)), some (.dat (.tuple (s.f.map dL))), some (.dat (.tuple (s.s.map dL))), some (.dat (dN s.g)), some (.dat (.str Wd.over.str)), some (.dat (dN ix)), some (.dat (dN (y.tk ix).1)), some (.dat (dN (y.tk ix).2)), c, none] ∧ ∀ w, w < i → w ∈ behind s → ¬ (y.tk (tk.getD w 0)).2 = (y.tk ix).2, ⟨none, rfl, by omega⟩, fun i ρ2 hi hI => ?_, fun ρ2 hI => ?_⟩
        · obtain ⟨c, rfl, hI⟩ := hI
          have hit : i < tk.length := by omega
          have hdi := hkv i hit
          have k6 : tk[i]? = some (tk.getD i 0) := by rw [List.getD_eq_getElem?_getD, List.getElem?_eq_getElem hit]; rfl
          obtain ⟨k7, k8, k9⟩ := tk_at hy (hk.rng _ (List.mem_of_getElem? k6))
          walk_at "go"
          refine ⟨_, _, .inl (i : Int), _, rfl, rfl, hdi, ?_⟩
          walk_at "go"
          refine Or.inr ⟨cm_N _, cm_N _, fun t ht => ?_⟩
          have e10 := tEq ht nat_eq
          have nxt_ : ∀ w, (w ∈ behind s → ¬ (y.tk (tk.getD i 0)).2 = (y.tk ix).2 ∨ w ≠ i) → w < i + 1 → w ∈ behind s → ¬ (y.tk (tk.getD w 0)).2 = (y.tk ix).2 := fun w hw hlt hwb => by
            by_cases ew : w = i
            · subst ew
              exact (hw hwb).resolve_right (fun z => z rfl)
            · exact hI w (by omega) hwb
          have bad : i ∈ behind s → (y.tk (tk.getD i 0)).2 = (y.tk ix).2 → R [.dat (dY y), .dct q kv, .dat (dS s), .dat (dM ⟨.over, ix⟩)] (.dat (.bool false)) := fun hb he => by
            have ea : ((behind s).all fun w => !(decide (w < h) && decide ((y.tk (tk.getD w 0)).2 = (y.tk ix).2))) = false := by
              rw [List.all_eq_false]
              exact ⟨i, hb, by rw [decide_eq_true hi, decide_eq_true he]; simp⟩
            rw [ea] at hR'
            exact hR'
          refine okB (fun z => ?_) (fun z => ?_)
          · rw [z] at e10
            have q10 := of_decide_eq_true e10.symm
            walk_at "go"
            refine jt_inS ?_ rfl
            walk_at "go"
            refine ⟨(i : Int), s.w.map fun i : Nat => (i : Int), rfl, by rw [List.map_map]; rfl, fun t ht => ?_⟩
            refine okB (fun z => ?_) (fun z => ?_)
            · have hb : i ∈ behind s := by
                obtain ⟨a, ha, e⟩ := List.mem_map.mp (ht.mp z)
                have : a = i := by omega
                subst this
                exact List.mem_append_left _ ha
              refine okT ?_
              walk_at "go"
              exact ⟨by walk_at "bk", bad hb q10⟩
            · have hb1 : i ∉ s.w := fun q => by
                have := ht.mpr (List.mem_map.mpr ⟨i, q, rfl⟩)
                rw [z] at this
                cases this
              walk_at "go"
              refine je_lc1 [("_law_lane", 13)] [13] ?_ (by simp) (by simp) (tgok_name 13 fun s H C cl fp => pg_name (by assumption) rfl (Or.inl rfl)) rfl (by assumption) (by walk_at "blk") (fun _ => rfl)
              refine ji_tup ?_
              walk_at "go"
              refine ⟨fun j acc => acc = ((s.f.take j).filter fun l => decide (i ∈ l)).map (fun _ => PyData.int 1), rfl, by rw [List.length_map]; omega, ltAll rfl, fun j acc hj hA => ?_, fun acc p hA => ?_⟩
              · rw [List.length_map] at hj
                obtain ⟨l, hl⟩ : ∃ x, s.f[j]? = some x := ⟨_, List.getElem?_eq_getElem hj⟩
                refine ⟨[dL l], tg1 hl, fun s H C cl fp => ?_⟩
                refine jt_inS ?_ rfl
                walk_at "go"
                refine ⟨(i : Int), l.map fun i : Nat => (i : Int), rfl, by rw [List.map_map]; rfl, fun t ht => ?_⟩
                refine okB (fun z s H C cl fp => ?_) (fun z => ?_)
                · have hb : i ∈ l := by
                    obtain ⟨a, ha, e⟩ := List.mem_map.mp (ht.mp z)
                    have : a = i := by omega
                    subst this
                    exact ha
                  walk_at "go"
                  refine ⟨rfl, ?_⟩
                  show _ = _
                  rw [hA, filt_yes hl (decide_eq_true hb)]
                  simp
                · have hb : i ∉ l := fun q => by
                    have := ht.mpr (List.mem_map.mpr ⟨i, q, rfl⟩)
                    rw [z] at this
                    cases this
                  refine ⟨rfl, ?_⟩
                  show _ = _
                  rw [hA, filt_no hl (decide_eq_false hb)]
              · subst hA
                rw [List.length_map, List.take_length]
                walk_at "go"
                refine Or.inr ⟨⟨by simp only [good]; exact goods_map (fun _ => by simp only [good]) _, by simp only [PyData.depth]; have := depth_map (f := fun _ : List Nat => PyData.int 1) (n := 1) (fun _ => by simp [PyData.depth]) (s.f.filter fun l => decide (i ∈ l)); omega⟩, cm_nilL, fun t ht => ?_⟩
                have e11 := tNe (p := s.f.filter (fun l => decide (i ∈ l)) = []) ht (by simp)
                have hin : i ∈ behind s ↔ ¬ s.f.filter (fun l => decide (i ∈ l)) = [] := by
                  unfold behind
                  rw [List.mem_append, List.filter_eq_nil_iff]
                  constructor
                  · rintro (q | q) z
                    · exact hb1 q
                    · obtain ⟨l, h1, h2⟩ := List.mem_flatten.mp q
                      exact z l h1 (decide_eq_true h2)
                  · intro q
                    refine .inr ?_
                    refine Classical.byContradiction fun z => q fun l h1 h2 => z (List.mem_flatten_of_mem h1 (of_decide_eq_true h2))
                refine okB (fun z => ?_) (fun z => ?_)
                · have hb : i ∈ behind s := hin.mpr (by rw [z] at e11; simpa using e11)
                  walk_at "go"
                  exact ⟨by walk_at "bk", bad hb q10⟩
                · have hb : i ∉ behind s := fun q => by
                    have := hin.mp q
                    rw [z] at e11
                    exact this (by simpa using e11)
                  walk_at "go"
                  exact ⟨some (.dat (dN i)), rfl, fun w => nxt_ w fun q => .inr fun e => hb (e ▸ q)⟩
          · rw [z] at e10
            have q10 := of_decide_eq_false e10.symm
            refine okF ?_
            walk_at "go"
            exact ⟨some (.dat (dN i)), rfl, fun w => nxt_ w fun _ => .inl q10⟩
        · obtain ⟨c, rfl, hI⟩ := hI
          walk_at "go"
          refine ⟨by walk_at "bk", ?_⟩
          have ea : ((behind s).all fun w => !(decide (w < h) && decide ((y.tk (tk.getD w 0)).2 = (y.tk ix).2))) = true := by
            rw [List.all_eq_true]
            intro w hw
            by_cases q : w < h
            · rw [decide_eq_false (hI w q hw), Bool.and_false]
              rfl
            · rw [decide_eq_false q, Bool.false_and]
              rfl
          rw [ea] at hR'
          exact hR'
  | out =>
    obtain ⟨e1, e2⟩ := se_at (a := ix) hs hc
    refine Or.inr ⟨cm_W .out, cm_W .inn, fun t ht => ?_⟩
    refine okFe ((tEq ht (str_eq (a := .out) (b := .inn))).trans (decide_eq_false (by decide))) ?_
    walk_at "go"
    refine Or.inl ⟨_, (cm_W .out).shaped, rfl, rfl, ?_⟩
    refine okT ?_
    unfold lawG outG at hR
    cases hw : s.se ix with
    | nil =>
      rw [hw] at e1
      simp only [hw] at hR
      walk_at "go"
      refine okFe (by simp) ?_
      exact ⟨by walk_at "bk", hR⟩
    | cons h rest =>
      rw [hw] at e1
      simp only [hw] at hR
      have h0 := at0 (f := dN) (x := h) (xs := rest)
      walk_at "go"
      refine okTe (by simp) ?_
      walk_at "go"
      refine Or.inr ⟨cm_N _, cm_N _, fun t ht => ?_⟩
      have e := tEq ht nat_eq
      refine ⟨by walk_at "bk", ?_⟩
      rw [e]
      exact hR

end
end
section
local macro_rules | `(tactic| walk_at "e") => `(tactic| first
  | ((with_reducible refine isAt ?_); first | refine je_attr 0 (by assumption) (by assumption) rfl rfl ?_ rfl (by first | exact Or.inl rfl | exact Or.inr (Or.inl rfl) | exact Or.inr (Or.inr rfl)) (by decide) (by decide) rfl | refine je_attr 4 (by assumption) (by assumption) rfl rfl ?_ rfl (by first | exact Or.inl rfl | exact Or.inr (Or.inl rfl) | exact Or.inr (Or.inr rfl)) (by decide) (by decide) rfl | refine je_attr 5 (by assumption) (by assumption) rfl rfl ?_ rfl (by first | exact Or.inl rfl | exact Or.inr (Or.inl rfl) | exact Or.inr (Or.inr rfl)) (by decide) (by decide) rfl | refine je_attr 8 (by assumption) (by assumption) rfl rfl ?_ rfl (by first | exact Or.inl rfl | exact Or.inr (Or.inl rfl) | exact Or.inr (Or.inr rfl)) (by decide) (by decide) rfl)
  | ((with_reducible refine isMc ?_); first | refine je_meth0D 0 (by assumption) (by assumption) (Room.mono (by assumption) (by decide)) rfl rfl ?_ rfl (by first | exact Or.inl rfl | exact Or.inr (Or.inl rfl) | exact Or.inr (Or.inr rfl)) (by decide) (by decide) rfl | refine je_methD 0 (by assumption) (by assumption) (Room.mono (by assumption) (by decide)) rfl rfl ?_ rfl (by first | exact Or.inl rfl | exact Or.inr (Or.inl rfl) | exact Or.inr (Or.inr rfl)) (by decide) (by decide) rfl rfl rfl | refine je_meth0D 4 (by assumption) (by assumption) (Room.mono (by assumption) (by decide)) rfl rfl ?_ rfl (by first | exact Or.inl rfl | exact Or.inr (Or.inl rfl) | exact Or.inr (Or.inr rfl)) (by decide) (by decide) rfl | refine je_methD 4 (by assumption) (by assumption) (Room.mono (by assumption) (by decide)) rfl rfl ?_ rfl (by first | exact Or.inl rfl | exact Or.inr (Or.inl rfl) | exact Or.inr (Or.inr rfl)) (by decide) (by decide) rfl rfl rfl | refine je_meth0D 8 (by assumption) (by assumption) (Room.mono (by assumption) (by decide)) rfl rfl ?_ rfl (by first | exact Or.inl rfl | exact Or.inr (Or.inl rfl) | exact Or.inr (Or.inr rfl)) (by decide) (by decide) rfl | refine je_methD 8 (by assumption) (by assumption) (Room.mono (by assumption) (by decide)) rfl rfl ?_ rfl (by first | exact Or.inl rfl | exact Or.inr (Or.inl rfl) | exact Or.inr (Or.inr rfl)) (by decide) (by decide) rfl rfl rfl))
local macro_rules | `(tactic| walk_at "s") => `(tactic| first
  | ((with_reducible refine isAs ?_); first | refine js_attr 0 (by assumption) (by assumption) ?_ rfl (by first | exact Or.inl rfl | exact Or.inr (Or.inl rfl) | exact Or.inr (Or.inr rfl)) (by decide) (by decide) rfl | refine js_attr 5 (by assumption) (by assumption) ?_ rfl (by first | exact Or.inl rfl | exact Or.inr (Or.inl rfl) | exact Or.inr (Or.inr rfl)) (by decide) (by decide) rfl)
  | refine js_retN ?_)
local macro_rules | `(tactic| walk_at "c") => `(tactic| first | refine exC rfl (celND rfl) ?_ | refine exAt rfl rfl ?_)
local macro_rules | `(tactic| walk_at "x") => `(tactic| (refine isN ?_; first | refine jn_cons ?_ rfl | refine jn_nil ?_))
local macro_rules | `(tactic| walk_at "e") => `(tactic| ((with_reducible refine isMc ?_); first | refine je_pop 2 rfl ?_ rfl (by first | exact Or.inl rfl | exact Or.inr (Or.inl rfl) | exact Or.inr (Or.inr rfl)) (by decide) (by decide) rfl rfl rfl rfl rfl | refine je_pop 6 rfl ?_ rfl (by first | exact Or.inl rfl | exact Or.inr (Or.inl rfl) | exact Or.inr (Or.inr rfl)) (by decide) (by decide) rfl rfl rfl rfl rfl))
section
variable {P : Program} {w : World} {K : PySem.W.Frag} {mg : Str → Option Value} {base : Heap}
theorem filt_one {k a : Nat} (ha : a < k) : (List.range k).filter (fun i => decide (a = i)) = [a] := by
  induction k with
  | zero => omega
  | succ k ih =>
    rw [range_filt]
    rcases Nat.lt_or_ge a k with q | q
    · rw [ih q, if_neg (by simp; omega), List.append_nil]
    · have e : a = k := by omega
      subst e
      rw [if_pos (by simp)]
      have : (List.range a).filter (fun i => decide (a = i)) = [] := by
        rw [List.filter_eq_nil_iff]
        intro i hi
        have := List.mem_range.mp hi
        simp
        omega
      rw [this]
      rfl
theorem greens_eq {y : Yd} {tk : List Nat} {s : Sd} (hy : YdOk y) (hk : TkOk y tk s) : (allM y).filter (lawG y tk s) = greens y tk s := by
  unfold allM greens
  rw [List.filter_append, List.filter_append, List.filter_map, List.filter_map, List.filter_map]
  congr 1
  congr 1
  unfold innG
  cases hw : s.w with
  | nil =>
    have : (List.range y.k).filter (lawG y tk s ∘ Mv.mk .inn) = [] := by
      rw [List.filter_eq_nil_iff]
      intro i _
      simp [lawG, hw]
    rw [this]
    rfl
  | cons h rest =>
    have hm : h ∈ behind s := by unfold behind; rw [hw]; simp
    obtain ⟨k1, k2⟩ := tk_in hk hm
    obtain ⟨k3, k4, k5⟩ := tk_at hy k2
    have e : lawG y tk s ∘ Mv.mk .inn = fun i => decide ((y.tk (tk.getD h 0)).1 = i) := by
      funext i
      simp [lawG, hw]
    rw [e, filt_one k4]
    rfl
theorem allM_ix {y : Yd} {m : Mv} (h : m ∈ allM y) : m.ix < lim y m.wd := by
  unfold allM at h
  rcases List.mem_append.mp h with h | h
  · rcases List.mem_append.mp h with h | h
    · obtain ⟨i, hi, rfl⟩ := List.mem_map.mp h
      exact List.mem_range.mp hi
    · obtain ⟨i, hi, rfl⟩ := List.mem_map.mp h
      exact List.mem_range.mp hi
  · obtain ⟨i, hi, rfl⟩ := List.mem_map.mp h
    exact List.mem_range.mp hi
theorem greens_ix {y : Yd} {tk : List Nat} {s : Sd} (hy : YdOk y) (hk : TkOk y tk s) {m : Mv} (h : m ∈ greens y tk s) : m.ix < lim y m.wd ∧ lawG y tk s m = true := by
  rw [← greens_eq hy hk] at h
  obtain ⟨h1, h2⟩ := List.mem_filter.mp h
  exact ⟨allM_ix h1, h2⟩

end
end
section
local macro_rules | `(tactic| walk_at "e") => `(tactic| first
  | ((with_reducible refine isAt ?_); first | refine je_attr 0 (by assumption) (by assumption) rfl rfl ?_ rfl (by first | exact Or.inl rfl | exact Or.inr (Or.inl rfl) | exact Or.inr (Or.inr rfl)) (by decide) (by decide) rfl | refine je_attr 4 (by assumption) (by assumption) rfl rfl ?_ rfl (by first | exact Or.inl rfl | exact Or.inr (Or.inl rfl) | exact Or.inr (Or.inr rfl)) (by decide) (by decide) rfl | refine je_attr 5 (by assumption) (by assumption) rfl rfl ?_ rfl (by first | exact Or.inl rfl | exact Or.inr (Or.inl rfl) | exact Or.inr (Or.inr rfl)) (by decide) (by decide) rfl | refine je_attr 8 (by assumption) (by assumption) rfl rfl ?_ rfl (by first | exact Or.inl rfl | exact Or.inr (Or.inl rfl) | exact Or.inr (Or.inr rfl)) (by decide) (by decide) rfl)
  | ((with_reducible refine isMc ?_); first | refine je_meth0D 0 (by assumption) (by assumption) (Room.mono (by assumption) (by decide)) rfl rfl ?_ rfl (by first | exact Or.inl rfl | exact Or.inr (Or.inl rfl) | exact Or.inr (Or.inr rfl)) (by decide) (by decide) rfl | refine je_methD 0 (by assumption) (by assumption) (Room.mono (by assumption) (by decide)) rfl rfl ?_ rfl (by first | exact Or.inl rfl | exact Or.inr (Or.inl rfl) | exact Or.inr (Or.inr rfl)) (by decide) (by decide) rfl rfl rfl | refine je_meth0D 4 (by assumption) (by assumption) (Room.mono (by assumption) (by decide)) rfl rfl ?_ rfl (by first | exact Or.inl rfl | exact Or.inr (Or.inl rfl) | exact Or.inr (Or.inr rfl)) (by decide) (by decide) rfl | refine je_methD 4 (by assumption) (by assumption) (Room.mono (by assumption) (by decide)) rfl rfl ?_ rfl (by first | exact Or.inl rfl | exact Or.inr (Or.inl rfl) | exact Or.inr (Or.inr rfl)) (by decide) (by decide) rfl rfl rfl | refine je_meth0D 8 (by assumption) (by assumption) (Room.mono (by assumption) (by decide)) rfl rfl ?_ rfl (by first | exact Or.inl rfl | exact Or.inr (Or.inl rfl) | exact Or.inr (Or.inr rfl)) (by decide) (by decide) rfl | refine je_methD 8 (by assumption) (by assumption) (Room.mono (by assumption) (by decide)) rfl rfl ?_ rfl (by first | exact Or.inl rfl | exact Or.inr (Or.inl rfl) | exact Or.inr (Or.inr rfl)) (by decide) (by decide) rfl rfl rfl))
local macro_rules | `(tactic| walk_at "s") => `(tactic| first
  | ((with_reducible refine isAs ?_); first | refine js_attr 0 (by assumption) (by assumption) ?_ rfl (by first | exact Or.inl rfl | exact Or.inr (Or.inl rfl) | exact Or.inr (Or.inr rfl)) (by decide) (by decide) rfl | refine js_attr 5 (by assumption) (by assumption) ?_ rfl (by first | exact Or.inl rfl | exact Or.inr (Or.inl rfl) | exact Or.inr (Or.inr rfl)) (by decide) (by decide) rfl)
  | refine js_retN ?_)
local macro_rules | `(tactic| walk_at "c") => `(tactic| first | refine exC rfl (celND rfl) ?_ | refine exAt rfl rfl ?_)
local macro_rules | `(tactic| walk_at "x") => `(tactic| (refine isN ?_; first | refine jn_cons ?_ rfl | refine jn_nil ?_))
local macro_rules | `(tactic| walk_at "e") => `(tactic| ((with_reducible refine isMc ?_); first | refine je_pop 2 rfl ?_ rfl (by first | exact Or.inl rfl | exact Or.inr (Or.inl rfl) | exact Or.inr (Or.inr rfl)) (by decide) (by decide) rfl rfl rfl rfl rfl | refine je_pop 6 rfl ?_ rfl (by first | exact Or.inl rfl | exact Or.inr (Or.inl rfl) | exact Or.inr (Or.inr rfl)) (by decide) (by decide) rfl rfl rfl rfl rfl))
section
variable {P : Program} {w : World} {K : PySem.W.Frag} {mg : Str → Option Value} {base : Heap}
theorem dval_yes : ∀ {xs : List (Nat × Nat)} {x t : Nat}, (xs.map Prod.fst).Nodup → (x, t) ∈ xs → dval (xs.map fun p => (.inl (p.1 : Int), dN p.2)) (.inl (x : Int)) = some (dN t)
  | [], _, _, _, h => by simp at h
  | (a, b) :: xs, x, t, nd, h => by
    have nd' := List.nodup_cons.mp (show (a :: xs.map Prod.fst).Nodup from nd)
    rcases List.mem_cons.mp h with h | h
    · cases h
      simp [dval, List.find?_cons]
    · have hne : a ≠ x := fun z => nd'.1 (z ▸ List.mem_map_of_mem (f := Prod.fst) h)
      have e : dval (((a, b) :: xs).map fun p => (.inl (p.1 : Int), dN p.2)) (.inl (x : Int)) = dval (xs.map fun p => (.inl (p.1 : Int), dN p.2)) (.inl (x : Int)) := by
        unfold dval
        rw [List.map_cons, List.find?_cons]
        have : decide ((Sum.inl (a : Int) : Key) = .inl (x : Int)) = false := decide_eq_false fun z => hne (by have := Sum.inl.inj z; omega)
        rw [this]
      rw [e]
      exact dval_yes nd'.2 h
theorem fold_keep : ∀ {xs : List (Nat × Nat)} {acc : List Nat} {x : Nat}, x ∉ xs.map Prod.fst → (xs.foldl (fun acc p => acc.set p.1 p.2) acc).getD x 0 = acc.getD x 0
  | [], _, _, _ => rfl
  | (a, b) :: xs, acc, x, h => by
    have h' : x ≠ a ∧ x ∉ xs.map Prod.fst := by
      rw [List.map_cons, List.mem_cons] at h
      exact ⟨fun z => h (.inl z), fun z => h (.inr z)⟩
    rw [List.foldl_cons, fold_keep h'.2]
    simp only [List.getD_eq_getElem?_getD]
    rw [List.getElem?_set_ne (Ne.symm h'.1)]
theorem fold_yes : ∀ {xs : List (Nat × Nat)} {acc : List Nat} {x t : Nat}, (xs.map Prod.fst).Nodup → (x, t) ∈ xs → x < acc.length → (xs.foldl (fun acc p => acc.set p.1 p.2) acc).getD x 0 = t
  | [], _, _, _, _, h, _ => by simp at h
  | (a, b) :: xs, acc, x, t, nd, h, hl => by
    have nd' := List.nodup_cons.mp (show (a :: xs.map Prod.fst).Nodup from nd)
    rw [List.foldl_cons]
    rcases List.mem_cons.mp h with h | h
    · cases h
      rw [fold_keep nd'.1, List.getD_eq_getElem?_getD, List.getElem?_set_self hl]
      rfl
    · exact fold_yes nd'.2 h (by rw [List.length_set]; exact hl)
theorem tks_at {r d : List Nat} (hr : RowOk r) (hd : d.length = r.length) {i x t : Nat} (hx : r[i]? = some x) (ht : d[i]? = some t) : (tks r d).getD x 0 = t := by
  have nd : r.Nodup := hr.perm.nodup_iff.mpr List.nodup_range
  have hz : (x, t) ∈ r.zip d := List.mem_of_getElem? (i := i) (by rw [List.getElem?_zip_eq_some]; exact ⟨hx, ht⟩)
  unfold tks
  refine fold_yes (by rw [List.map_fst_zip (by omega)]; exact nd) hz ?_
  rw [List.length_replicate]
  exact (row_get hr hx).1
theorem row_has {r : List Nat} (hr : RowOk r) {x : Nat} (hx : x < r.length) : ∃ i : Nat, r[i]? = some x := List.getElem?_of_mem (hr.perm.symm.subset (List.mem_range.mpr hx))
theorem says_kvs {r d : List Nat} (hr : RowOk r) (hd : d.length = r.length) : Says (kvs r d) (tks r d) := by
  intro x hx
  rw [tks_len] at hx
  obtain ⟨i, hi⟩ := row_has hr hx
  have hil : i < r.length := (List.getElem?_eq_some_iff.mp hi).1
  obtain ⟨t, ht⟩ : ∃ t, d[i]? = some t := ⟨_, List.getElem?_eq_getElem (by omega)⟩
  rw [tks_at hr hd hi ht]
  have nd : r.Nodup := hr.perm.nodup_iff.mpr List.nodup_range
  exact dval_yes (by rw [List.map_fst_zip (by omega)]; exact nd) (List.mem_of_getElem? (i := i) (by rw [List.getElem?_zip_eq_some]; exact ⟨hi, ht⟩))
def S_law_lane_greens : Spec := fun cs R => ∃ (y : Yd) (r d : List Nat) (s : Sd), cs = [.dat (dY y), .dat (dL r), .dat (dL d), .dat (dS s)] ∧ YdOk y ∧ RowOk r ∧ d.length = r.length ∧ Shp y s ∧ TkOk y (tks r d) s ∧ R cs (.dat (dJ (greens y (tks r d) s)))
theorem sc_law_lane_greens : FnScope ["_law_yard", "_law_row", "_law_dealing", "_law_stand", "_law_tracks", "_law_move"] ["_law_yard", "_law_row", "_law_dealing", "_law_stand"] (defScope s_law_lane_greens) := ⟨rfl, rfl, rfl, by decide +kernel, rfl, by decide +kernel, by decide +kernel⟩
theorem ok_law_lane_greens (g : GD K mg "_law_lane_greens" s_law_lane_greens) (m1 : mg "tuple" = none) (D1 : DefOk P w K mg base 1 "_law_lane_tracks" ["_law_row", "_law_dealing"] S_law_lane_tracks) (D2 : DefOk P w K mg base 1 "_law_lane_all" ["_law_yard"] S_law_lane_all) (D3 : DefOk P w K mg base 1 "_law_lane_is_green" ["_law_yard", "_law_tracks", "_law_stand", "_law_move"] S_law_lane_is_green) : DefOk P w K mg base 2 "_law_lane_greens" ["_law_yard", "_law_row", "_law_dealing", "_law_stand"] S_law_lane_greens := by
  refine defD g sc_law_lane_greens (by decide) (fun _ _ _ _ _ _ us hl => match us, hl with | [_, _, _, _], _ => rfl) (fun cs R h => ?_) fun f_ cdv_ A outer s_ H E cs R hr h => ?_
  · obtain ⟨y, r, d, s, rfl, _⟩ := h
    rfl
  have hN : (["_law_yard", "_law_row", "_law_dealing", "_law_stand", "_law_tracks", "_law_move"] : List Str).Nodup := by decide +kernel
  have nm0 : NmOk (cxOf CX0 P w K mg base ["_law_yard", "_law_row", "_law_dealing", "_law_stand", "_law_tracks", "_law_move"] "_law_lane_greens" (defScope s_law_lane_greens) f_ cdv_ A outer s_ H E).nox 0 "_law_yard" := ⟨rfl, by first | exact Or.inl rfl | exact Or.inr (Or.inl rfl) | exact Or.inr (Or.inr rfl), by decide, by decide⟩
  have lc0 : LcOk (cxOf CX0 P w K mg base ["_law_yard", "_law_row", "_law_dealing", "_law_stand", "_law_tracks", "_law_move"] "_law_lane_greens" (defScope s_law_lane_greens) f_ cdv_ A outer s_ H E).nox 0 "_law_yard" := ⟨rfl, by first | exact Or.inl rfl | exact Or.inr rfl, by first | exact Or.inl rfl | exact Or.inr rfl⟩
  have nm1 : NmOk (cxOf CX0 P w K mg base ["_law_yard", "_law_row", "_law_dealing", "_law_stand", "_law_tracks", "_law_move"] "_law_lane_greens" (defScope s_law_lane_greens) f_ cdv_ A outer s_ H E).nox 1 "_law_row" := ⟨rfl, by first | exact Or.inl rfl | exact Or.inr (Or.inl rfl) | exact Or.inr (Or.inr rfl), by decide, by decide⟩
  have lc1 : LcOk (cxOf CX0 P w K mg base ["_law_yard", "_law_row", "_law_dealing", "_law_stand", "_law_tracks", "_law_move"] "_law_lane_greens" (defScope s_law_lane_greens) f_ cdv_ A outer s_ H E).nox 1 "_law_row" := ⟨rfl, by first | exact Or.inl rfl | exact Or.inr rfl, by first | exact Or.inl rfl | exact Or.inr rfl⟩
  have nm2 : NmOk (cxOf CX0 P w K mg base ["_law_yard", "_law_row", "_law_dealing", "_law_stand", "_law_tracks", "_law_move"] "_law_lane_greens" (defScope s_law_lane_greens) f_ cdv_ A outer s_ H E).nox 2 "_law_dealing" := ⟨rfl, by first | exact Or.inl rfl | exact Or.inr (Or.inl rfl) | exact Or.inr (Or.inr rfl), by decide, by decide⟩
  have lc2 : LcOk (cxOf CX0 P w K mg base ["_law_yard", "_law_row", "_law_dealing", "_law_stand", "_law_tracks", "_law_move"] "_law_lane_greens" (defScope s_law_lane_greens) f_ cdv_ A outer s_ H E).nox 2 "_law_dealing" := ⟨rfl, by first | exact Or.inl rfl | exact Or.inr rfl, by first | exact Or.inl rfl | exact Or.inr rfl⟩
  have nm3 : NmOk (cxOf CX0 P w K mg base ["_law_yard", "_law_row", "_law_dealing", "_law_stand", "_law_tracks", "_law_move"] "_law_lane_greens" (defScope s_law_lane_greens) f_ cdv_ A outer s_ H E).nox 3 "_law_stand" := ⟨rfl, by first | exact Or.inl rfl | exact Or.inr (Or.inl rfl) | exact Or.inr (Or.inr rfl), by decide, by decide⟩
  have lc3 : LcOk (cxOf CX0 P w K mg base ["_law_yard", "_law_row", "_law_dealing", "_law_stand", "_law_tracks", "_law_move"] "_law_lane_greens" (defScope s_law_lane_greens) f_ cdv_ A outer s_ H E).nox 3 "_law_stand" := ⟨rfl, by first | exact Or.inl rfl | exact Or.inr rfl, by first | exact Or.inl rfl | exact Or.inr rfl⟩
  have nm4 : NmOk (cxOf CX0 P w K mg base ["_law_yard", "_law_row", "_law_dealing", "_law_stand", "_law_tracks", "_law_move"] "_law_lane_greens" (defScope s_law_lane_greens) f_ cdv_ A outer s_ H E).nox 4 "_law_tracks" := ⟨rfl, by first | exact Or.inl rfl | exact Or.inr (Or.inl rfl) | exact Or.inr (Or.inr rfl), by decide, by decide⟩
  have lc4 : LcOk (cxOf CX0 P w K mg base ["_law_yard", "_law_row", "_law_dealing", "_law_stand", "_law_tracks", "_law_move"] "_law_lane_greens" (defScope s_law_lane_greens) f_ cdv_ A outer s_ H E).nox 4 "_law_tracks" := ⟨rfl, by first | exact Or.inl rfl | exact Or.inr rfl, by first | exact Or.inl rfl | exact Or.inr rfl⟩
  have dD1 : DefOk (cxOf CX0 P w K mg base ["_law_yard", "_law_row", "_law_dealing", "_law_stand", "_law_tracks", "_law_move"] "_law_lane_greens" (defScope s_law_lane_greens) f_ cdv_ A outer s_ H E).nox.prog (cxOf CX0 P w K mg base ["_law_yard", "_law_row", "_law_dealing", "_law_stand", "_law_tracks", "_law_move"] "_law_lane_greens" (defScope s_law_lane_greens) f_ cdv_ A outer s_ H E).nox.w (cxOf CX0 P w K mg base ["_law_yard", "_law_row", "_law_dealing", "_law_stand", "_law_tracks", "_law_move"] "_law_lane_greens" (defScope s_law_lane_greens) f_ cdv_ A outer s_ H E).nox.K (cxOf CX0 P w K mg base ["_law_yard", "_law_row", "_law_dealing", "_law_stand", "_law_tracks", "_law_move"] "_law_lane_greens" (defScope s_law_lane_greens) f_ cdv_ A outer s_ H E).nox.mg (cxOf CX0 P w K mg base ["_law_yard", "_law_row", "_law_dealing", "_law_stand", "_law_tracks", "_law_move"] "_law_lane_greens" (defScope s_law_lane_greens) f_ cdv_ A outer s_ H E).nox.base 1 "_law_lane_tracks" ["_law_row", "_law_dealing"] S_law_lane_tracks := D1
  have dD2 : DefOk (cxOf CX0 P w K mg base ["_law_yard", "_law_row", "_law_dealing", "_law_stand", "_law_tracks", "_law_move"] "_law_lane_greens" (defScope s_law_lane_greens) f_ cdv_ A outer s_ H E).nox.prog (cxOf CX0 P w K mg base ["_law_yard", "_law_row", "_law_dealing", "_law_stand", "_law_tracks", "_law_move"] "_law_lane_greens" (defScope s_law_lane_greens) f_ cdv_ A outer s_ H E).nox.w (cxOf CX0 P w K mg base ["_law_yard", "_law_row", "_law_dealing", "_law_stand", "_law_tracks", "_law_move"] "_law_lane_greens" (defScope s_law_lane_greens) f_ cdv_ A outer s_ H E).nox.K (cxOf CX0 P w K mg base ["_law_yard", "_law_row", "_law_dealing", "_law_stand", "_law_tracks", "_law_move"] "_law_lane_greens" (defScope s_law_lane_greens) f_ cdv_ A outer s_ H E).nox.mg (cxOf CX0 P w K mg base ["_law_yard", "_law_row", "_law_dealing", "_law_stand", "_law_tracks", "_law_move"] "_law_lane_greens" (defScope s_law_lane_greens) f_ cdv_ A outer s_ H E).nox.base 1 "_law_lane_all" ["_law_yard"] S_law_lane_all := D2
  have dD3 : DefOk (cxOf CX0 P w K mg base ["_law_yard", "_law_row", "_law_dealing", "_law_stand", "_law_tracks", "_law_move"] "_law_lane_greens" (defScope s_law_lane_greens) f_ cdv_ A outer s_ H E).nox.prog (cxOf CX0 P w K mg base ["_law_yard", "_law_row", "_law_dealing", "_law_stand", "_law_tracks", "_law_move"] "_law_lane_greens" (defScope s_law_lane_greens) f_ cdv_ A outer s_ H E).nox.w (cxOf CX0 P w K mg base ["_law_yard", "_law_row", "_law_dealing", "_law_stand", "_law_tracks", "_law_move"] "_law_lane_greens" (defScope s_law_lane_greens) f_ cdv_ A outer s_ H E).nox.K (cxOf CX0 P w K mg base ["_law_yard", "_law_row", "_law_dealing", "_law_stand", "_law_tracks", "_law_move"] "_law_lane_greens" (defScope s_law_lane_greens) f_ cdv_ A outer s_ H E).nox.mg (cxOf CX0 P w K mg base ["_law_yard", "_law_row", "_law_dealing", "_law_stand", "_law_tracks", "_law_move"] "_law_lane_greens" (defScope s_law_lane_greens) f_ cdv_ A outer s_ H E).nox.base 1 "_law_lane_is_green" ["_law_yard", "_law_tracks", "_law_stand", "_law_move"] S_law_lane_is_green := D3
  obtain ⟨y, r, d, s, rfl, hy, hr', hd, hs, hk, hR⟩ := h
  have b1 := hr'.len
  have b2 := hy.len
  have b3 := hy.k2
  have b4 := hy.l2
  walk_at "go"
  refine ⟨r, d, rfl, hr', hd, fun q => ?_⟩
  walk_at "go"
  refine je_lc1 [("_law_move", 5)] [5] ?_ (by simp) (by simp) (tgok_name 5 fun s H C cl fp => pg_name (by assumption) rfl (Or.inl rfl)) rfl (by assumption) (by walk_at "blk") (fun _ => rfl)
  refine ji_list ?_
  walk_at "go"
  refine ⟨y, rfl, hy, fun q2 => ?_⟩
  walk_at "go"
  have hal : (allM y).length ≤ 1000 := by unfold allM; simp only [List.length_append, List.length_map, List.length_range]; omega
  refine ⟨fun i acc => acc = (((allM y).take i).filter (lawG y (tks r d) s)).map dM, rfl, by rw [List.length_map]; omega, ltAll rfl, fun i acc hi hI => ?_, fun acc p hI => ?_⟩
  · rw [List.length_map] at hi
    obtain ⟨m, hm⟩ : ∃ x, (allM y)[i]? = some x := ⟨_, List.getElem?_eq_getElem hi⟩
    have hmi := allM_ix (List.mem_of_getElem? hm)
    refine ⟨[dM m], tg1 hm, fun s' H C cl fp => ?_⟩
    walk_at "go"
    refine ⟨y, q, kvs r d, tks r d, s, m, rfl, hy, hs, hk, by rw [tks_len]; omega, says_kvs hr' hd, hmi, ?_⟩
    walk_at "go"
    refine okB (fun z s' H C cl fp => ?_) (fun z => ?_)
    · walk_at "go"
      refine ⟨rfl, ?_⟩
      show _ = _
      rw [hI, filt_yes hm z]
      simp
    · refine ⟨rfl, ?_⟩
      show _ = _
      rw [hI, filt_no hm z]
  · subst hI
    walk_at "go"
    refine ⟨by walk_at "bk", ?_⟩
    rw [List.length_map, List.take_length, greens_eq hy hk]
    exact hR

end
end
/-- a track joins two lanes -/
def Jn (y : Yd) (t u v : Nat) : Prop := (u = (y.tk t).1 ∧ v = y.k + (y.tk t).2) ∨ (u = y.k + (y.tk t).2 ∧ v = (y.tk t).1)
theorem Jn.symm {y : Yd} {t u v : Nat} (h : Jn y t u v) : Jn y t v u := h.elim (fun ⟨a, b⟩ => .inr ⟨b, a⟩) fun ⟨a, b⟩ => .inl ⟨b, a⟩
theorem Jn.two {y : Yd} {t u v p q : Nat} (h : Jn y t u v) (h' : Jn y t p q) : (u = p ∧ v = q) ∨ (u = q ∧ v = p) := by
  rcases h with ⟨rfl, rfl⟩ | ⟨rfl, rfl⟩ <;> rcases h' with ⟨rfl, rfl⟩ | ⟨rfl, rfl⟩ <;> simp
/-- lanes that hang together -/
inductive Cn (y : Yd) (E : Nat → Prop) (u : Nat) : Nat → Prop where
  | refl : Cn y E u u
  | step {v w t : Nat} (h : Cn y E u v) (ht : E t) (j : Jn y t v w) : Cn y E u w
theorem Cn.mono {y : Yd} {E E' : Nat → Prop} {u v : Nat} (hE : ∀ t, E t → E' t) (h : Cn y E u v) : Cn y E' u v := by
  induction h with
  | refl => exact .refl
  | step _ ht j ih => exact ih.step (hE _ ht) j
theorem Cn.trans {y : Yd} {E : Nat → Prop} {u v w : Nat} (h : Cn y E u v) (h2 : Cn y E v w) : Cn y E u w := by
  induction h2 with
  | refl => exact h
  | step _ ht j ih => exact ih.step ht j
theorem Cn.one {y : Yd} {E : Nat → Prop} {u v t : Nat} (ht : E t) (j : Jn y t u v) : Cn y E u v := Cn.refl.step ht j
theorem Cn.symm {y : Yd} {E : Nat → Prop} {u v : Nat} (h : Cn y E u v) : Cn y E v u := by
  induction h with
  | refl => exact .refl
  | step _ ht j ih => exact (Cn.one ht j.symm).trans ih
theorem Cn.split {y : Yd} {E E' : Nat → Prop} {t u v : Nat} (hE : ∀ e, E' e → E e ∨ e = t) (h : Cn y E' u v) : Cn y E u v ∨ ∃ p q, Jn y t p q ∧ Cn y E u p ∧ Cn y E q v := by
  induction h with
  | refl => exact .inl .refl
  | @step v w e _ ht j ih =>
    rcases hE e ht with he | rfl
    · rcases ih with ih | ⟨p, q, h1, h2, h3⟩
      · exact .inl (ih.step he j)
      · exact .inr ⟨p, q, h1, h2, h3.step he j⟩
    · rcases ih with ih | ⟨p, q, h1, h2, h3⟩
      · exact .inr ⟨v, w, j, ih, .refl⟩
      · rcases j.two h1 with ⟨rfl, rfl⟩ | ⟨rfl, rfl⟩
        · exact .inr ⟨v, w, j, h2, .refl⟩
        · exact .inl h2
/-- no ring -/
def NoRing (y : Yd) (c : List Nat) : Prop := ∀ t ∈ c, ∀ u v, Jn y t u v → ¬ Cn y (fun e => e ∈ c ∧ e ≠ t) u v
theorem NoRing.sub {y : Yd} {c c' : List Nat} (h : NoRing y c) (hs : ∀ t ∈ c', t ∈ c) : NoRing y c' := fun t ht u v j z =>
  h t (hs t ht) u v j (z.mono fun e he => ⟨hs e he.1, he.2⟩)
structure ForI (y : Yd) (st : List Nat × List Nat) : Prop where
  lab : ∀ u v, u < y.k + y.l → v < y.k + y.l → (st.1.getD u 0 = st.1.getD v 0 ↔ Cn y (· ∈ st.2) u v)
  nor : NoRing y st.2
theorem Jn.lt {y : Yd} (hy : YdOk y) {t u v : Nat} (ht : t < y.tr.length) (j : Jn y t u v) : u < y.k + y.l ∧ v < y.k + y.l := by
  obtain ⟨_, h1, h2⟩ := tk_at hy ht
  rcases j with ⟨rfl, rfl⟩ | ⟨rfl, rfl⟩ <;> exact ⟨by omega, by omega⟩
theorem forI_step {y : Yd} (hy : YdOk y) {st : List Nat × List Nat} (hl : st.1.length = y.k + y.l) (h : ForI y st) {t : Nat} (ht : t < y.tr.length) : ForI y (forStep y st t) := by
  obtain ⟨lab, found⟩ := st
  have jt : Jn y t (y.tk t).1 (y.k + (y.tk t).2) := .inl ⟨rfl, rfl⟩
  obtain ⟨b1, b2⟩ := jt.lt hy ht
  unfold forStep
  dsimp only
  split
  · exact h
  · rename_i ne
    have hlab := h.lab
    have hnor := h.nor
    dsimp only at hlab hnor hl
    generalize ho : lab.getD (y.tk t).1 0 = o at ne ⊢
    generalize hw : lab.getD (y.k + (y.tk t).2) 0 = w at ne ⊢
    have no : ∀ p q, Jn y t p q → ¬ Cn y (· ∈ found) p q := fun p q j z => by
      obtain ⟨l1, l2⟩ := j.lt hy ht
      have := (hlab p q l1 l2).mpr z
      rcases j with ⟨rfl, rfl⟩ | ⟨rfl, rfl⟩
      · rw [ho, hw] at this
        exact ne this
      · rw [ho, hw] at this
        exact ne this.symm
    have ml : ∀ u, u < y.k + y.l → (lab.map fun n => if n = o then w else n).getD u 0 = if lab.getD u 0 = o then w else lab.getD u 0 := fun u hu => by
      rw [List.getD_eq_getElem?_getD, List.getD_eq_getElem?_getD, List.getElem?_map, List.getElem?_eq_getElem (by omega)]
      rfl
    have mo : ∀ e, e ∈ found → e ∈ found ++ [t] := fun e he => List.mem_append_left _ he
    have tin : t ∈ found ++ [t] := List.mem_append_right _ (List.mem_singleton.mpr rfl)
    have sp : ∀ e, e ∈ found ++ [t] → e ∈ found ∨ e = t := fun e he => (List.mem_append.mp he).imp id List.mem_singleton.mp
    refine ⟨fun u v hu hv => ?_, fun t' ht' u v j z => ?_⟩
    · dsimp only
      rw [ml u hu, ml v hv]
      constructor
      · intro e
        by_cases hu' : lab.getD u 0 = o
        · rw [if_pos hu'] at e
          by_cases hv' : lab.getD v 0 = o
          · exact ((hlab u v hu hv).mp (hu'.trans hv'.symm)).mono mo
          · rw [if_neg hv'] at e
            have q1 := (hlab u _ hu b1).mp (hu'.trans ho.symm)
            have q2 := (hlab _ v b2 hv).mp (hw.trans e)
            exact ((q1.mono mo).step tin jt).trans (q2.mono mo)
        · rw [if_neg hu'] at e
          by_cases hv' : lab.getD v 0 = o
          · rw [if_pos hv'] at e
            have q1 := (hlab u _ hu b2).mp (e.trans hw.symm)
            have q2 := (hlab _ v b1 hv).mp (ho.trans hv'.symm)
            exact ((q1.mono mo).step tin jt.symm).trans (q2.mono mo)
          · rw [if_neg hv'] at e
            exact ((hlab u v hu hv).mp e).mono mo
      · intro z
        rcases z.split sp with z | ⟨p, q, j, z1, z2⟩
        · rw [(hlab u v hu hv).mpr z]
        · obtain ⟨l1, l2⟩ := j.lt hy ht
          rw [(hlab u p hu l1).mpr z1, ← (hlab q v l2 hv).mpr z2]
          rcases j with ⟨rfl, rfl⟩ | ⟨rfl, rfl⟩
          · rw [ho, hw, if_pos rfl, if_neg (Ne.symm ne)]
          · rw [ho, hw, if_pos rfl, if_neg (Ne.symm ne)]
    · dsimp only at ht' z
      by_cases e : t' = t
      · subst e
        refine no u v j (z.mono fun e he => ?_)
        exact (sp e he.1).resolve_right he.2
      · have hin := (sp t' ht').resolve_right e
        rcases z.split (E := fun e => e ∈ found ∧ e ≠ t') (t := t) (fun e he => (sp e he.1).imp (fun q => ⟨q, he.2⟩) id) with z | ⟨p, q, j', z1, z2⟩
        · exact hnor t' hin u v j z
        · refine no p q j' ?_
          have m2 : ∀ e, e ∈ found ∧ e ≠ t' → e ∈ found := fun e he => he.1
          exact ((z1.mono m2).symm.step hin j).trans (z2.mono m2).symm
theorem forI_fold {y : Yd} (hy : YdOk y) : ∀ {ts : List Nat} {st : List Nat × List Nat}, st.1.length = y.k + y.l → ForI y st → (∀ t ∈ ts, t < y.tr.length) → ForI y (ts.foldl (forStep y) st)
  | [], _, _, h, _ => h
  | t :: ts, st, hl, h, ht => by
    rw [List.foldl_cons]
    exact forI_fold hy (by rw [forStep_len, hl]) (forI_step hy hl h (ht t (by simp))) fun e he => ht e (by simp [he])
theorem forI_beg {y : Yd} : ForI y (List.range (y.k + y.l), []) := by
  have g : ∀ u, u < y.k + y.l → (List.range (y.k + y.l)).getD u 0 = u := fun u hu => by
    rw [List.getD_eq_getElem?_getD, List.getElem?_range hu]
    rfl
  refine ⟨fun u v hu hv => ?_, fun t ht => by simp at ht⟩
  dsimp only
  rw [g u hu, g v hv]
  constructor
  · rintro rfl
    exact .refl
  · intro z
    cases z with
    | refl => rfl
    | step _ ht _ => simp at ht
theorem Drawn.noRing {y : Yd} (hy : YdOk y) {c : List Nat} (h : Drawn y c) : NoRing y c := by
  obtain ⟨ts, h1, h2, h3⟩ := h
  have q : ForI y (ts.foldl (forStep y) (List.range (y.k + y.l), [])) := forI_fold hy (by simp) forI_beg fun t ht => by simpa using h1.subset ht
  exact q.nor.sub fun t ht => List.mem_of_mem_take (h2.subset ht)
theorem filt_lt {p q : Nat → Bool} : ∀ {xs : List Nat} {v : Nat}, (∀ x, p x = true → q x = true) → v ∈ xs → p v = false → q v = true → (xs.filter p).length < (xs.filter q).length
  | x :: xs, v, hpq, hv, h1, h2 => by
    have le : ∀ zs : List Nat, (zs.filter p).length ≤ (zs.filter q).length := fun zs => by
      induction zs with
      | nil => simp
      | cons z zs ih =>
        rw [List.filter_cons, List.filter_cons]
        cases hz : p z with
        | true =>
          rw [hpq z hz]
          simp [ih]
        | false =>
          cases q z <;> simp <;> omega
    rw [List.filter_cons, List.filter_cons]
    rcases List.mem_cons.mp hv with rfl | hv
    · rw [h1, h2]
      have := le xs
      simp
      omega
    · have ih := filt_lt hpq hv h1 h2
      cases hz : p x with
      | true =>
        rw [hpq x hz]
        simp [ih]
      | false =>
        cases q x <;> simp <;> omega
open Classical in
noncomputable def pot (y : Yd) (c : List Nat) (v e : Nat) : Nat := ((List.range (y.k + y.l)).filter fun x => decide (Cn y (fun t => t ∈ c ∧ t ≠ e) v x)).length
open Classical in
theorem no_walk {y : Yd} {c : List Nat} (hy : YdOk y) (hc : NoRing y c) (hb : ∀ t ∈ c, t < y.tr.length) (P : Nat → Nat → Prop) (h1 : ∀ v e, P v e → e ∈ c ∧ ∃ u, Jn y e u v)
    (h2 : ∀ v e, P v e → ∃ w e', P w e' ∧ e' ≠ e ∧ Jn y e' v w) : ∀ v e, ¬ P v e := by
  have lt : ∀ v e w e', P v e → P w e' → e' ≠ e → Jn y e' v w → pot y c w e' < pot y c v e := fun v e w e' p1 p2 ne j => by
    obtain ⟨i1, u, j1⟩ := h1 v e p1
    obtain ⟨i2, _, _⟩ := h1 w e' p2
    have nv : ¬ Cn y (fun t => t ∈ c ∧ t ≠ e') w v := hc e' i2 w v j.symm
    have sub : ∀ x, Cn y (fun t => t ∈ c ∧ t ≠ e') w x → Cn y (fun t => t ∈ c ∧ t ≠ e) w x := fun x h => by
      induction h with
      | refl => exact .refl
      | @step z x t h0 ht jt ih =>
        refine ih.step ⟨ht.1, fun et => ?_⟩ jt
        subst et
        rcases jt.two j1 with ⟨rfl, rfl⟩ | ⟨rfl, rfl⟩
        · exact nv (h0.step ht jt)
        · exact nv h0
    unfold pot
    refine filt_lt (v := v) (fun x hx => ?_) (List.mem_range.mpr (j.lt hy (hb _ i2)).1) (decide_eq_false nv) (decide_eq_true .refl)
    exact decide_eq_true ((Cn.one ⟨i2, ne⟩ j).trans (sub x (of_decide_eq_true hx)))
  have key : ∀ n v e, pot y c v e < n → ¬ P v e := fun n => by
    induction n with
    | zero => intro v e h; omega
    | succ n ih =>
      intro v e h p
      obtain ⟨w, e', p', ne, j⟩ := h2 v e p
      exact ih w e' (by have := lt v e w e' p p' ne j; omega) p'
  exact fun v e => key _ v e (Nat.lt_succ_self _)

/-- the data of a dealing that goes through -/
structure Sc (y : Yd) (r d c : List Nat) : Prop where
  yd : YdOk y
  row : RowOk r
  deal : DealOk y r d
  r8 : r.length ≤ 8
  inc : ∀ t ∈ d, t ∈ c
  clt : ∀ t ∈ c, t < y.tr.length
  nor : NoRing y c
  rise : ∀ i j t : Nat, i < j → d[i]? = some t → d[j]? = some t → r.getD i 0 < r.getD j 0
theorem Scene.sc {y : Yd} {r d : List Nat} (h : Scene y r d) : ∃ c, Sc y r d c := by
  obtain ⟨c, h1, h2⟩ := h.frs
  exact ⟨c, h.yd, ⟨by have := h.r8; omega, h2.perm⟩, ⟨h2.len, fun t ht => h1.lt (h2.rng t ht)⟩, h.r8, h2.rng, fun t ht => h1.lt ht, h1.noRing h.yd, h2.rise⟩
def up (tk : List Nat) (u v : Nat) : Prop := tk.getD u 0 = tk.getD v 0 → u < v
/-- what holds at each stand of the run -/
structure Inv (y : Yd) (r d : List Nat) (s : Sd) : Prop where
  st : StOk y r s
  fa : ∀ a x, x ∈ s.fr a → (y.tk ((tks r d).getD x 0)).1 = a
  sb : ∀ b x, x ∈ s.se b → (y.tk ((tks r d).getD x 0)).2 = b
  fo : ∀ a, (s.fr a ++ s.w).Pairwise (up (tks r d))
  so : ∀ b, (s.se b).Pairwise (· < ·)
  sf : ∀ b u v, u ∈ s.se b → v ∈ behind s → (y.tk ((tks r d).getD v 0)).2 = b → u < v
theorem getD_set {xs : List (List Nat)} {a b : Nat} {l : List Nat} (h : a < xs.length) : (xs.set a l).getD b [] = if b = a then l else xs.getD b [] := by
  rw [List.getD_eq_getElem?_getD, List.getD_eq_getElem?_getD]
  by_cases e : b = a
  · subst e
    rw [if_pos rfl, List.getElem?_set_self h]
    rfl
  · rw [if_neg e, List.getElem?_set_ne (Ne.symm e)]
theorem mem_getD {xs : List (List Nat)} {x : Nat} : x ∈ xs.flatten ↔ ∃ a, x ∈ xs.getD a [] := by
  rw [List.mem_flatten]
  constructor
  · rintro ⟨l, hl, hx⟩
    obtain ⟨a, ha⟩ := List.getElem?_of_mem hl
    exact ⟨a, by rw [List.getD_eq_getElem?_getD, ha]; exact hx⟩
  · rintro ⟨a, hx⟩
    rw [List.getD_eq_getElem?_getD] at hx
    cases h : xs[a]? with
    | none =>
      rw [h] at hx
      simp at hx
    | some l =>
      rw [h] at hx
      exact ⟨l, List.mem_of_getElem? h, hx⟩
theorem getD_at {xs : List (List Nat)} {a : Nat} {l : List Nat} (h : xs.getD a [] = l) (hl : l ≠ []) : xs[a]? = some l ∧ a < xs.length := by
  rw [List.getD_eq_getElem?_getD] at h
  cases e : xs[a]? with
  | none =>
    rw [e] at h
    exact absurd h.symm hl
  | some l' =>
    rw [e] at h
    have h' : l' = l := h
    rw [h']
    exact ⟨rfl, (List.getElem?_eq_some_iff.mp e).1⟩
theorem mem_beh {s : Sd} {x : Nat} : x ∈ behind s ↔ x ∈ s.w ∨ ∃ a, x ∈ s.fr a := by
  unfold behind Sd.fr
  rw [List.mem_append, mem_getD]
section
variable {y : Yd} {r d c : List Nat} {s : Sd}
theorem Inv.nodup (h : Inv y r d s) : (List.range s.g ++ s.w ++ s.f.flatten ++ s.s.flatten).Nodup := h.st.perm.nodup_iff.mpr List.nodup_range
theorem Inv.all (h : Inv y r d s) {x : Nat} : x < r.length ↔ x < s.g ∨ x ∈ behind s ∨ ∃ b, x ∈ s.se b := by
  have e := h.st.perm.mem_iff (a := x)
  rw [List.mem_range] at e
  rw [← e]
  unfold behind Sd.se
  rw [← mem_getD]
  simp only [List.mem_append, List.mem_range]
  constructor
  · rintro (((q | q) | q) | q)
    · exact .inl q
    · exact .inr (.inl (.inl q))
    · exact .inr (.inl (.inr q))
    · exact .inr (.inr q)
  · rintro (q | (q | q) | q)
    · exact .inl (.inl (.inl q))
    · exact .inl (.inl (.inr q))
    · exact .inl (.inr q)
    · exact .inr q
theorem Inv.lt (h : Inv y r d s) {x : Nat} (hx : x ∈ behind s) : x < r.length := h.all.mpr (.inr (.inl hx))
theorem Sc.trk (k : Sc y r d c) {x : Nat} (hx : x < r.length) : (tks r d).getD x 0 ∈ d := by
  obtain ⟨i, hi⟩ := row_has k.row hx
  have hil : i < r.length := (List.getElem?_eq_some_iff.mp hi).1
  obtain ⟨t, ht⟩ : ∃ t, d[i]? = some t := ⟨_, List.getElem?_eq_getElem (by have := k.deal.len; omega)⟩
  rw [tks_at k.row k.deal.len hi ht]
  exact List.mem_of_getElem? ht
theorem Sc.tkr (k : Sc y r d c) : ∀ t ∈ tks r d, t < y.tr.length := fun t ht => by
  obtain ⟨i, hi⟩ := List.getElem?_of_mem ht
  have hl : i < (tks r d).length := (List.getElem?_eq_some_iff.mp hi).1
  rw [tks_len] at hl
  have e : (tks r d).getD i 0 = t := by rw [List.getD_eq_getElem?_getD, hi]; rfl
  rw [← e]
  exact k.deal.rng _ (k.trk hl)
theorem StOk.lens (h : StOk y r s) : s.g + s.w.length + s.f.flatten.length + s.s.flatten.length = r.length := by
  have := h.perm.length_eq
  simp only [List.length_append, List.length_range] at this
  exact this
theorem flat_mem_le {xs : List (List Nat)} {l : List Nat} (h : l ∈ xs) : l.length ≤ xs.flatten.length := by
  obtain ⟨i, hi⟩ := List.getElem?_of_mem h
  induction xs generalizing i with
  | nil => simp at h
  | cons x xs ih =>
    rw [List.flatten_cons, List.length_append]
    cases i with
    | zero => cases (Option.some.inj hi); omega
    | succ i =>
      have := ih (List.mem_of_getElem? (i := i) (by simpa using hi)) i (by simpa using hi)
      omega
theorem Inv.shp (k : Sc y r d c) (h : Inv y r d s) : Shp y s := by
  have e := h.st.lens
  have r8 := k.r8
  exact ⟨h.st.fl, h.st.sl, fun l hl => by have := flat_mem_le hl; omega, fun l hl => by have := flat_mem_le hl; omega⟩
theorem Inv.tko (k : Sc y r d c) (h : Inv y r d s) : TkOk y (tks r d) s := by
  refine ⟨k.tkr, fun x hx => by rw [tks_len]; exact h.lt hx, ?_⟩
  have e := h.st.lens
  have r8 := k.r8
  unfold behind
  rw [List.length_append]
  omega
theorem inv_beg (k : Sc y r d c) : Inv y r d (beg y r) := by
  have f0 : ∀ n a, (List.replicate n ([] : List Nat)).getD a [] = [] := fun n a => by
    rw [List.getD_eq_getElem?_getD, List.getElem?_replicate]
    split <;> rfl
  have ff : ∀ n, (List.replicate n ([] : List Nat)).flatten = [] := fun n => by simp
  refine ⟨⟨Nat.le_refl _, ?_, by simp [beg], by simp [beg], Nat.zero_le _, ?_⟩, fun a x hx => ?_, fun a x hx => ?_, fun a => ?_, fun a => ?_, fun b u v hu => ?_⟩
  · show r = r.drop (r.length - r.length)
    simp
  · show (List.range 0 ++ r ++ (List.replicate y.k []).flatten ++ (List.replicate y.l []).flatten).Perm _
    rw [ff, ff]
    simpa using k.row.perm
  · unfold Sd.fr beg at hx
    rw [f0] at hx
    simp at hx
  · unfold Sd.se beg at hx
    rw [f0] at hx
    simp at hx
  · unfold Sd.fr beg
    rw [f0, List.nil_append]
    rw [List.pairwise_iff_getElem]
    intro i j hi hj hij et
    have g : ∀ i (hi : i < r.length), (tks r d).getD r[i] 0 = d.getD i 0 := fun i hi => by
      obtain ⟨t, ht⟩ : ∃ t, d[i]? = some t := ⟨_, List.getElem?_eq_getElem (by have := k.deal.len; omega)⟩
      rw [tks_at k.row k.deal.len (List.getElem?_eq_getElem hi) ht, List.getD_eq_getElem?_getD, ht]
      rfl
    rw [g i hi, g j hj] at et
    have gi : ∀ i, i < r.length → d[i]? = some (d.getD i 0) := fun i hi => by
      rw [List.getD_eq_getElem?_getD, List.getElem?_eq_getElem (by have := k.deal.len; omega)]
      rfl
    have := k.rise i j _ hij (gi i hi) (et ▸ gi j hj)
    rw [List.getD_eq_getElem?_getD, List.getD_eq_getElem?_getD, List.getElem?_eq_getElem hi, List.getElem?_eq_getElem hj] at this
    exact this
  · unfold Sd.se beg
    rw [f0]
    exact List.Pairwise.nil
  · unfold Sd.se beg at hu
    rw [f0] at hu
    simp at hu
theorem green_inn {tk : List Nat} {m : Mv} (h : m ∈ greens y tk s) : (∃ x w', s.w = x :: w' ∧ m = ⟨.inn, (y.tk (tk.getD x 0)).1⟩) ∨ (∃ t, t < y.tr.length ∧ overG y tk s t = true ∧ m = ⟨.over, t⟩) ∨ ∃ b, b < y.l ∧ outG s b = true ∧ m = ⟨.out, b⟩ := by
  unfold greens at h
  rcases List.mem_append.mp h with h | h
  · rcases List.mem_append.mp h with h | h
    · unfold innG at h
      split at h
      · simp at h
      · rename_i x w' e
        exact .inl ⟨x, w', e, List.mem_singleton.mp h⟩
    · obtain ⟨t, ht, rfl⟩ := List.mem_map.mp h
      obtain ⟨h1, h2⟩ := List.mem_filter.mp ht
      exact .inr (.inl ⟨t, List.mem_range.mp h1, h2, rfl⟩)
  · obtain ⟨t, ht, rfl⟩ := List.mem_map.mp h
    obtain ⟨h1, h2⟩ := List.mem_filter.mp ht
    exact .inr (.inr ⟨t, List.mem_range.mp h1, h2, rfl⟩)
theorem over_at {tk : List Nat} {t : Nat} (h : overG y tk s t = true) : ∃ x rest, s.fr (y.tk t).1 = x :: rest ∧ tk.getD x 0 = t ∧ ∀ w ∈ behind s, w < x → ¬ (y.tk (tk.getD w 0)).2 = (y.tk t).2 := by
  unfold overG at h
  split at h
  · cases h
  · rename_i x rest e
    rw [Bool.and_eq_true, decide_eq_true_eq, List.all_eq_true] at h
    refine ⟨x, rest, e, h.1, fun w hw hlt he => ?_⟩
    have := h.2 w hw
    rw [decide_eq_true hlt, decide_eq_true he] at this
    cases this
theorem out_at {b : Nat} (h : outG s b = true) : ∃ xs, s.se b = s.g :: xs := by
  unfold outG at h
  split at h
  · cases h
  · rename_i x rest e
    rw [decide_eq_true_eq] at h
    exact ⟨rest, by rw [e, h]⟩
theorem Inv.can (k : Sc y r d c) (h : Inv y r d s) {m : Mv} (hm : m ∈ greens y (tks r d) s) : Can y s m := by
  rcases green_inn hm with ⟨x, w', e, rfl⟩ | ⟨t, ht, ho, rfl⟩ | ⟨b, hb, ho, rfl⟩
  · have hx : x ∈ behind s := mem_beh.mpr (.inl (by rw [e]; simp))
    refine ⟨(tk_at k.yd (k.deal.rng _ (k.trk (h.lt hx)))).2.1, ?_⟩
    show s.w ≠ []
    rw [e]
    simp
  · obtain ⟨x, rest, e, _⟩ := over_at ho
    refine ⟨ht, ?_⟩
    show s.fr (y.tk t).1 ≠ []
    rw [e]
    simp
  · exact ⟨hb, out_at ho⟩
end

section
variable {y : Yd} {r d c : List Nat} {s : Sd}
theorem fr_set {w : List Nat} {f ss : List (List Nat)} {g a b : Nat} {l : List Nat} (h : a < f.length) : (⟨w, f.set a l, ss, g⟩ : Sd).fr b = if b = a then l else f.getD b [] := getD_set h
theorem se_set {w : List Nat} {f ss : List (List Nat)} {g a b : Nat} {l : List Nat} (h : a < ss.length) : (⟨w, f, ss.set a l, g⟩ : Sd).se b = if b = a then l else ss.getD b [] := getD_set h
def mu (s : Sd) : Nat := 3 * s.w.length + 2 * s.f.flatten.length + s.s.flatten.length
theorem set_at {xs : List (List Nat)} {a : Nat} (h : a < xs.length) : xs[a]? = some (xs.getD a []) := by
  rw [List.getD_eq_getElem?_getD, List.getElem?_eq_getElem h]
  rfl
theorem drop_tail {x : Nat} {w' : List Nat} (h1 : s.w.length ≤ r.length) (h2 : s.w = r.drop (r.length - s.w.length)) (e : s.w = x :: w') : w'.length ≤ r.length ∧ w' = r.drop (r.length - w'.length) := by
  rw [e] at h1 h2
  rw [List.length_cons] at h1 h2
  refine ⟨by omega, ?_⟩
  have : r.drop (r.length - w'.length) = (r.drop (r.length - (w'.length + 1))).drop 1 := by
    rw [List.drop_drop]
    congr 1
    omega
  rw [this, ← h2]
  rfl
theorem next_inn (k : Sc y r d c) (h : Inv y r d s) {x : Nat} {w' : List Nat} (e : s.w = x :: w') : Inv y r d (step y s ⟨.inn, (y.tk ((tks r d).getD x 0)).1⟩) ∧ mu (step y s ⟨.inn, (y.tk ((tks r d).getD x 0)).1⟩) + 1 = mu s := by
  have hx : x ∈ behind s := mem_beh.mpr (.inl (by rw [e]; simp))
  have ha := (tk_at k.yd (k.deal.rng _ (k.trk (h.lt hx)))).2.1
  generalize hA : (y.tk ((tks r d).getD x 0)).1 = a at ha ⊢
  have hal : a < s.f.length := by rw [h.st.fl]; exact ha
  have es : step y s ⟨.inn, a⟩ = ⟨w', s.f.set a (s.fr a ++ [x]), s.s, s.g⟩ := by
    show (⟨s.w.drop 1, s.f.set a (s.fr a ++ s.w.take 1), s.s, s.g⟩ : Sd) = _
    rw [e]
    rfl
  rw [es]
  have hfl := flat_set (x := x) (set_at hal)
  obtain ⟨d1, d2⟩ := drop_tail h.st.wz h.st.wr e
  have hp := h.st.perm
  rw [e] at hp
  have fre : ∀ b, (⟨w', s.f.set a (s.fr a ++ [x]), s.s, s.g⟩ : Sd).fr b = if b = a then s.fr a ++ [x] else s.fr b := fun b => fr_set hal
  have bh : ∀ v, v ∈ behind ⟨w', s.f.set a (s.fr a ++ [x]), s.s, s.g⟩ → v ∈ behind s := fun v hv => by
    have hv2 : v ∈ w' ∨ v ∈ (s.f.set a (s.fr a ++ [x])).flatten := List.mem_append.mp hv
    rcases hv2 with q | q
    · exact mem_beh.mpr (.inl (by rw [e]; simp [q]))
    · rcases List.mem_append.mp (hfl.subset q) with q | q
      · exact List.mem_append_right _ q
      · exact mem_beh.mpr (.inl (by rw [e, List.mem_singleton.mp q]; simp))
  refine ⟨⟨⟨d1, d2, by simp [h.st.fl], h.st.sl, h.st.gz, ?_⟩, fun b v hv => ?_, h.sb, fun b => ?_, h.so, fun b u v hu hv => h.sf b u v hu (bh v hv)⟩, ?_⟩
  · rw [List.perm_iff_count] at hp ⊢
    intro v
    have c1 := hp v
    have c2 := hfl.count_eq v
    simp only [List.count_append, List.count_cons, List.count_nil] at c1 c2 ⊢
    unfold Sd.fr
    omega
  · rw [fre] at hv
    split at hv
    · rename_i eb
      subst eb
      rcases List.mem_append.mp hv with q | q
      · exact h.fa _ v q
      · rw [List.mem_singleton.mp q]
        exact hA
    · exact h.fa b v hv
  · rw [fre]
    have q := h.fo b
    rw [e] at q
    split
    · rename_i eb
      subst eb
      show (s.fr b ++ [x] ++ w').Pairwise _
      rw [List.append_assoc]
      exact q
    · show (s.fr b ++ w').Pairwise _
      exact q.sublist (List.Sublist.append (List.Sublist.refl _) (List.sublist_cons_self x w'))
  · unfold mu
    rw [e]
    have := hfl.length_eq
    simp only [List.length_append, List.length_cons, List.length_nil] at this ⊢
    unfold Sd.fr
    omega
theorem next_over (k : Sc y r d c) (h : Inv y r d s) {t : Nat} (ht : t < y.tr.length) (ho : overG y (tks r d) s t = true) : Inv y r d (step y s ⟨.over, t⟩) ∧ mu (step y s ⟨.over, t⟩) + 1 = mu s := by
  obtain ⟨x, rest, e, et, hw⟩ := over_at ho
  obtain ⟨_, ha, hb⟩ := tk_at k.yd ht
  generalize hA : (y.tk t).1 = a at ha e
  generalize hB : (y.tk t).2 = b at hb hw
  have hal : a < s.f.length := by rw [h.st.fl]; exact ha
  have hbl : b < s.s.length := by rw [h.st.sl]; exact hb
  have es : step y s ⟨.over, t⟩ = ⟨s.w, s.f.set a rest, s.s.set b (s.se b ++ [x]), s.g⟩ := by
    show (⟨s.w, s.f.set (y.tk t).1 ((s.fr (y.tk t).1).drop 1), s.s.set (y.tk t).2 (s.se (y.tk t).2 ++ (s.fr (y.tk t).1).take 1), s.g⟩ : Sd) = _
    rw [hA, hB, e]
    rfl
  rw [es]
  have ef : s.f[a]? = some (x :: rest) := by rw [set_at hal]; exact congrArg some e
  have hfp := flat_pop ef
  have hfs := flat_set (x := x) (set_at hbl)
  have hp := h.st.perm
  have hx : x ∈ behind s := mem_beh.mpr (.inr ⟨a, by rw [e]; simp⟩)
  have nd := h.nodup
  have fre : ∀ b', (⟨s.w, s.f.set a rest, s.s.set b (s.se b ++ [x]), s.g⟩ : Sd).fr b' = if b' = a then rest else s.fr b' := fun b' => fr_set hal
  have see : ∀ b', (⟨s.w, s.f.set a rest, s.s.set b (s.se b ++ [x]), s.g⟩ : Sd).se b' = if b' = b then s.se b ++ [x] else s.se b' := fun b' => se_set hbl
  have hp' : (List.range s.g ++ s.w ++ (s.f.set a rest).flatten ++ (s.s.set b (s.se b ++ [x])).flatten).Perm (List.range r.length) := by
    rw [List.perm_iff_count] at hp ⊢
    intro v
    have c1 := hp v
    have c2 := hfp.count_eq v
    have c3 := hfs.count_eq v
    simp only [List.count_append, List.count_cons, List.count_nil] at c1 c2 c3 ⊢
    unfold Sd.se
    omega
  have nd' : (List.range s.g ++ s.w ++ (s.f.set a rest).flatten ++ (s.s.set b (s.se b ++ [x])).flatten).Nodup := hp'.nodup_iff.mpr List.nodup_range
  have hxs : x ∈ (s.s.set b (s.se b ++ [x])).flatten := by
    rw [mem_getD]
    exact ⟨b, by rw [getD_set hbl, if_pos rfl]; simp⟩
  have bh : ∀ v, v ∈ behind ⟨s.w, s.f.set a rest, s.s.set b (s.se b ++ [x]), s.g⟩ → v ∈ behind s ∧ v ≠ x := fun v hv => by
    have hv2 : v ∈ s.w ∨ v ∈ (s.f.set a rest).flatten := List.mem_append.mp hv
    refine ⟨?_, fun z => ?_⟩
    · rcases hv2 with q | q
      · exact List.mem_append_left _ q
      · exact List.mem_append_right _ (hfp.subset (List.mem_cons_of_mem _ q))
    · subst z
      refine (List.nodup_append.mp nd').2.2 v ?_ v hxs rfl
      rcases hv2 with q | q
      · exact List.mem_append_left _ (List.mem_append_right _ q)
      · exact List.mem_append_right _ q
  refine ⟨⟨⟨h.st.wz, h.st.wr, by simp [h.st.fl], by simp [h.st.sl], h.st.gz, hp'⟩, fun b' v hv => ?_, fun b' v hv => ?_, fun b' => ?_, fun b' => ?_, fun b' u v hu hv he => ?_⟩, ?_⟩
  · rw [fre] at hv
    split at hv
    · rename_i eb
      subst eb
      exact h.fa _ v (by rw [e]; simp [hv])
    · exact h.fa b' v hv
  · rw [see] at hv
    split at hv
    · rename_i eb
      subst eb
      rcases List.mem_append.mp hv with q | q
      · exact h.sb _ v q
      · rw [List.mem_singleton.mp q, et]
        exact hB
    · exact h.sb b' v hv
  · rw [fre]
    have q := h.fo b'
    split
    · rename_i eb
      subst eb
      rw [e] at q
      exact (List.pairwise_cons.mp q).2
    · exact q
  · rw [see]
    split
    · rename_i eb
      subst eb
      rw [List.pairwise_append]
      refine ⟨h.so _, by simp, fun u hu v hv => ?_⟩
      rw [List.mem_singleton.mp hv]
      exact h.sf _ u x hu hx (by rw [et]; exact hB)
    · exact h.so b'
  · obtain ⟨v1, v2⟩ := bh v hv
    rw [see] at hu
    split at hu
    · rename_i eb
      subst eb
      rcases List.mem_append.mp hu with q | q
      · exact h.sf _ u v q v1 he
      · rw [List.mem_singleton.mp q]
        have := hw v v1
        rcases Nat.lt_trichotomy v x with z | z | z
        · exact absurd he (this z)
        · exact absurd z v2
        · exact z
    · exact h.sf _ u v hu v1 he
  · unfold mu
    have c1 := hfp.length_eq
    have c2 := hfs.length_eq
    simp only [List.length_append, List.length_cons, List.length_nil] at c1 c2 ⊢
    unfold Sd.se
    omega
theorem next_out (k : Sc y r d c) (h : Inv y r d s) {b : Nat} (hb : b < y.l) (ho : outG s b = true) : Inv y r d (step y s ⟨.out, b⟩) ∧ mu (step y s ⟨.out, b⟩) + 1 = mu s := by
  obtain ⟨xs, e⟩ := out_at ho
  have hbl : b < s.s.length := by rw [h.st.sl]; exact hb
  have es : step y s ⟨.out, b⟩ = ⟨s.w, s.f, s.s.set b xs, s.g + 1⟩ := by
    show (⟨s.w, s.f, s.s.set b ((s.se b).drop 1), s.g + 1⟩ : Sd) = _
    rw [e]
    rfl
  rw [es]
  have ef : s.s[b]? = some (s.g :: xs) := by rw [set_at hbl]; exact congrArg some e
  have hfp := flat_pop ef
  have hp := h.st.perm
  have hg : s.g < r.length := h.all.mpr (.inr (.inr ⟨b, by rw [e]; simp⟩))
  have see : ∀ b', (⟨s.w, s.f, s.s.set b xs, s.g + 1⟩ : Sd).se b' = if b' = b then xs else s.se b' := fun b' => se_set hbl
  have sub : ∀ b' v, v ∈ (⟨s.w, s.f, s.s.set b xs, s.g + 1⟩ : Sd).se b' → v ∈ s.se b' := fun b' v hv => by
    rw [see] at hv
    split at hv
    · rename_i eb
      subst eb
      rw [e]
      simp [hv]
    · exact hv
  refine ⟨⟨⟨h.st.wz, h.st.wr, h.st.fl, by simp [h.st.sl], hg, ?_⟩, h.fa, fun b' v hv => h.sb b' v (sub b' v hv), h.fo, fun b' => ?_, fun b' u v hu hv he => h.sf b' u v (sub b' u hu) hv he⟩, ?_⟩
  · rw [List.perm_iff_count] at hp ⊢
    intro v
    have c1 := hp v
    have c2 := hfp.count_eq v
    simp only [List.range_succ, List.count_append, List.count_cons, List.count_nil] at c1 c2 ⊢
    omega
  · rw [see]
    split
    · rename_i eb
      subst eb
      have := h.so b'
      rw [e] at this
      exact (List.pairwise_cons.mp this).2
    · exact h.so b'
  · unfold mu
    have c1 := hfp.length_eq
    simp only [List.length_cons] at c1 ⊢
    omega
theorem Inv.next (k : Sc y r d c) (h : Inv y r d s) {m : Mv} (hm : m ∈ greens y (tks r d) s) : Inv y r d (step y s m) ∧ mu (step y s m) + 1 = mu s := by
  rcases green_inn hm with ⟨x, w', e, rfl⟩ | ⟨t, ht, ho, rfl⟩ | ⟨b, hb, ho, rfl⟩
  · exact next_inn k h e
  · exact next_over k h ht ho
  · exact next_out k h hb ho
theorem inv_flow (k : Sc y r d c) : Flow y (tks r d) (Inv y r d) := ⟨fun _ h => h.shp k, fun _ h => h.tko k, fun _ _ h hm => h.can k hm, fun _ _ h hm => (h.next k hm).1⟩
theorem min_of {p : Nat → Prop} : ∀ {n : Nat}, p n → ∃ m, p m ∧ ∀ x, p x → m ≤ x := fun {n} => by
  induction n using Nat.strongRecOn with
  | _ n ih =>
    intro hn
    refine Classical.byContradiction fun z => ?_
    refine z ⟨n, hn, fun x hx => ?_⟩
    rcases Nat.lt_or_ge x n with q | q
    · exact absurd (ih x q hx) z
    · exact q
/-- no stand sticks -/
theorem Inv.goes (k : Sc y r d c) (h : Inv y r d s) (hg : greens y (tks r d) s = []) : s.w = [] ∧ s.f.flatten = [] ∧ s.s.flatten = [] ∧ s.g = r.length := by
  unfold greens at hg
  rw [List.append_eq_nil_iff, List.append_eq_nil_iff, List.map_eq_nil_iff, List.map_eq_nil_iff, List.filter_eq_nil_iff, List.filter_eq_nil_iff] at hg
  obtain ⟨⟨g1, g2⟩, g3⟩ := hg
  have hw : s.w = [] := by
    unfold innG at g1
    split at g1
    · assumption
    · cases g1
  have bhf : ∀ x, x ∈ behind s ↔ ∃ a, x ∈ s.fr a := fun x => by
    rw [mem_beh, hw]
    simp
  have T : ∀ x, x ∈ behind s → (tks r d).getD x 0 ∈ c ∧ (tks r d).getD x 0 < y.tr.length := fun x hx => by
    have := k.trk (h.lt hx)
    exact ⟨k.inc _ this, k.deal.rng _ this⟩
  let P : Nat → Nat → Prop := fun v e => (∃ a x rest, s.fr a = x :: rest ∧ e = (tks r d).getD x 0 ∧ v = y.k + (y.tk ((tks r d).getD x 0)).2) ∨ ∃ m, m ∈ behind s ∧ (∀ x ∈ behind s, (y.tk ((tks r d).getD x 0)).2 = (y.tk ((tks r d).getD m 0)).2 → m ≤ x) ∧ e = (tks r d).getD m 0 ∧ v = (y.tk ((tks r d).getD m 0)).1
  have noP : ∀ v e, ¬ P v e := by
    refine no_walk k.yd k.nor k.clt P (fun v e hp => ?_) (fun v e hp => ?_)
    · rcases hp with ⟨a, x, rest, e1, rfl, rfl⟩ | ⟨m, m1, m2, rfl, rfl⟩
      · have hx : x ∈ behind s := (bhf x).mpr ⟨a, by rw [e1]; simp⟩
        exact ⟨(T x hx).1, _, .inl ⟨rfl, rfl⟩⟩
      · exact ⟨(T m m1).1, _, .inr ⟨rfl, rfl⟩⟩
    · rcases hp with ⟨a, x, rest, e1, rfl, rfl⟩ | ⟨m, m1, m2, rfl, rfl⟩
      · have hx : x ∈ behind s := (bhf x).mpr ⟨a, by rw [e1]; simp⟩
        have hxa : (y.tk ((tks r d).getD x 0)).1 = a := h.fa a x (by rw [e1]; simp)
        have no := g2 ((tks r d).getD x 0) (List.mem_range.mpr (T x hx).2)
        obtain ⟨w, w1, w2, w3⟩ : ∃ w, w ∈ behind s ∧ w < x ∧ (y.tk ((tks r d).getD w 0)).2 = (y.tk ((tks r d).getD x 0)).2 := by
          refine Classical.byContradiction fun z => no ?_
          unfold overG
          rw [hxa, e1]
          dsimp only
          rw [Bool.and_eq_true, decide_eq_true_eq, List.all_eq_true]
          refine ⟨rfl, fun w hw => ?_⟩
          by_cases q1 : w < x
          · by_cases q2 : (y.tk ((tks r d).getD w 0)).2 = (y.tk ((tks r d).getD x 0)).2
            · exact absurd ⟨w, hw, q1, q2⟩ z
            · rw [decide_eq_false q2, Bool.and_false]
              rfl
          · rw [decide_eq_false q1, Bool.false_and]
            rfl
        obtain ⟨m, ⟨m1, m2⟩, m3⟩ := min_of (p := fun m => m ∈ behind s ∧ (y.tk ((tks r d).getD m 0)).2 = (y.tk ((tks r d).getD x 0)).2) ⟨w1, w3⟩
        have mw := m3 w ⟨w1, w3⟩
        refine ⟨(y.tk ((tks r d).getD m 0)).1, (tks r d).getD m 0, .inr ⟨m, m1, fun z hz ez => m3 z ⟨hz, ez.trans m2⟩, rfl, rfl⟩, fun ez => ?_, .inr ⟨by rw [m2], rfl⟩⟩
        obtain ⟨a', ha'⟩ := (bhf m).mp m1
        have ea := h.fa a' m ha'
        rw [ez, hxa] at ea
        subst ea
        have q := h.fo a
        rw [e1] at q ha'
        rcases List.mem_cons.mp ha' with z | z
        · omega
        · have := (List.pairwise_cons.mp q).1 m (List.mem_append_left _ z) ez.symm
          omega
      · obtain ⟨a, ha⟩ := (bhf m).mp m1
        have ea := h.fa a m ha
        cases e1 : s.fr a with
        | nil =>
          rw [e1] at ha
          simp at ha
        | cons x rest =>
          have hx : x ∈ behind s := (bhf x).mpr ⟨a, by rw [e1]; simp⟩
          have hxa := h.fa a x (by rw [e1]; simp)
          refine ⟨_, _, .inl ⟨a, x, rest, e1, rfl, rfl⟩, fun ez => ?_, .inl ⟨by rw [hxa, ea], rfl⟩⟩
          have l1 := m2 x hx (by rw [ez])
          have emx : m = x := by
            rw [e1] at ha
            rcases List.mem_cons.mp ha with z | z
            · exact z
            · have q := h.fo a
              rw [e1] at q
              have := (List.pairwise_cons.mp q).1 m (List.mem_append_left _ z) ez
              omega
          subst emx
          refine g2 ((tks r d).getD m 0) (List.mem_range.mpr (T m hx).2) ?_
          unfold overG
          rw [ea, e1]
          dsimp only
          rw [Bool.and_eq_true, decide_eq_true_eq, List.all_eq_true]
          refine ⟨rfl, fun w hw => ?_⟩
          by_cases q1 : w < m
          · by_cases q2 : (y.tk ((tks r d).getD w 0)).2 = (y.tk ((tks r d).getD m 0)).2
            · have := m2 w hw q2
              omega
            · rw [decide_eq_false q2, Bool.and_false]
              rfl
          · rw [decide_eq_false q1, Bool.false_and]
            rfl
  have hf : s.f.flatten = [] := by
    refine List.eq_nil_iff_forall_not_mem.mpr fun x hx => ?_
    obtain ⟨a, ha⟩ := mem_getD.mp hx
    cases e1 : s.fr a with
    | nil =>
      unfold Sd.fr at e1
      rw [e1] at ha
      simp at ha
    | cons z rest => exact noP _ _ (.inl ⟨a, z, rest, e1, rfl, rfl⟩)
  have hs : s.s.flatten = [] := by
    refine Classical.byContradiction fun z => ?_
    have hl := h.st.lens
    have pos : 0 < s.s.flatten.length := List.length_pos_iff.mpr z
    have hgl : s.g < r.length := by omega
    rcases h.all.mp hgl with q | q | ⟨b, q⟩
    · omega
    · obtain ⟨a, ha⟩ := (bhf _).mp q
      have : s.g ∈ s.f.flatten := mem_getD.mpr ⟨a, ha⟩
      rw [hf] at this
      simp at this
    · cases e1 : s.se b with
      | nil =>
        rw [e1] at q
        simp at q
      | cons x rest =>
        have hb : b < y.l := by
          rw [← h.st.sl]
          exact (getD_at e1 (by simp)).2
        have hx : x ∈ s.s.flatten := mem_getD.mpr ⟨b, by unfold Sd.se at e1; rw [e1]; simp⟩
        have xg : ¬ x < s.g := fun z => by
          have nd := h.nodup
          refine (List.nodup_append.mp nd).2.2 x ?_ x hx rfl
          simp [z]
        have ex : x = s.g := by
          rw [e1] at q
          rcases List.mem_cons.mp q with z | z
          · exact z.symm
          · have := h.so b
            rw [e1] at this
            have := (List.pairwise_cons.mp this).1 _ z
            omega
        refine g3 b (List.mem_range.mpr hb) ?_
        unfold outG
        rw [e1]
        exact decide_eq_true ex
  refine ⟨hw, hf, hs, ?_⟩
  have hl := h.st.lens
  rw [hw, hf, hs] at hl
  simpa using hl
theorem run_ex (k : Sc y r d c) (v : List Nat) : ∀ (n : Nat) (s : Sd) (f : List Mv), mu s ≤ n → Inv y r d s → ∃ m F S, m ≤ n ∧ RunN y (tks r d) v m f s F S ∧ Inv y r d S ∧ greens y (tks r d) S = [] := fun n => by
  induction n with
  | zero =>
    intro s f hm hi
    have hg : greens y (tks r d) s = [] := by
      refine Classical.byContradiction fun z => ?_
      obtain ⟨m, hm'⟩ := List.exists_mem_of_ne_nil _ z
      have := (hi.next k hm').2
      omega
    exact ⟨0, f, s, Nat.le_refl _, .stop hg, hi, hg⟩
  | succ n ih =>
    intro s f hm hi
    by_cases hg : greens y (tks r d) s = []
    · exact ⟨0, f, s, Nat.zero_le _, .stop hg, hi, hg⟩
    · have hmem := List.mem_of_getElem? (nxt_at (v := v) (f := f) hg)
      obtain ⟨i2, e2⟩ := hi.next k hmem
      obtain ⟨m, F, S, h1, h2, h3, h4⟩ := ih (step y s (nxt y (tks r d) v f s)) (f ++ [nxt y (tks r d) v f s]) (by omega) i2
      exact ⟨m + 1, F, S, by omega, .go hg h2, h3, h4⟩
end

theorem play_snoc (y : Yd) (s : Sd) (j : List Mv) (m : Mv) : play y s (j ++ [m]) = step y (play y s j) m := by
  unfold play
  rw [List.foldl_append]
  rfl
theorem allCan_snoc {y : Yd} : ∀ {j : List Mv} {s : Sd} {m : Mv}, AllCan y s j → Shp y (play y s j) → Can y (play y s j) m → AllCan y s (j ++ [m])
  | [], _, _, _, h1, h2 => ⟨h1, h2, trivial⟩
  | _ :: _, _, _, ⟨a, b, c⟩, h1, h2 => ⟨a, b, allCan_snoc c h1 h2⟩
/-- a journal and its stand -/
structure Hist (y : Yd) (r d : List Nat) (j : List Mv) (s : Sd) : Prop where
  inv : Inv y r d s
  all : AllCan y (beg y r) j
  play : play y (beg y r) j = s
  len : j.length + mu s = 3 * r.length
section
variable {y : Yd} {r d c : List Nat} {s S : Sd} {j : List Mv} {m : Mv}
theorem Hist.beg (k : Sc y r d c) : Hist y r d [] (beg y r) := ⟨inv_beg k, trivial, rfl, by
  have ff : ∀ n, (List.replicate n ([] : List Nat)).flatten = [] := fun n => by simp
  show 0 + (3 * r.length + 2 * (List.replicate y.k ([] : List Nat)).flatten.length + (List.replicate y.l ([] : List Nat)).flatten.length) = _
  rw [ff, ff]
  simp⟩
theorem Hist.snoc (k : Sc y r d c) (h : Hist y r d j s) (hm : m ∈ greens y (tks r d) s) : Hist y r d (j ++ [m]) (step y s m) := by
  obtain ⟨i2, e2⟩ := h.inv.next k hm
  have hl := h.len
  refine ⟨i2, allCan_snoc h.all (by rw [h.play]; exact h.inv.shp k) (by rw [h.play]; exact h.inv.can k hm), by rw [play_snoc, h.play], ?_⟩
  rw [List.length_append, List.length_singleton]
  omega
theorem Hist.z (k : Sc y r d c) (h : Hist y r d j s) : j.length ≤ 24 := by
  have := h.len
  have := k.r8
  omega
theorem Hist.now (h : Hist y r d j s) : Opens y r j s j := .inl ⟨h.play, rfl⟩
theorem Hist.not (k : Sc y r d c) (h : Hist y r d j s) (hm : m ∈ greens y (tks r d) s) : Opens y r (j ++ [m]) s j := by
  have e2 := (h.inv.next k hm).2
  refine .inr ⟨?_, by simp, ?_, ?_, ?_⟩
  · rw [play_snoc, h.play]
    intro z
    rw [z] at e2
    omega
  · rw [List.dropLast_concat]
    exact h.play
  · rw [List.dropLast_concat]
    exact h.all
  · rw [List.dropLast_concat]
theorem home_iff (k : Sc y r d c) (h : Inv y r d s) : decide (s.w = [] ∧ (∀ l ∈ s.f, l = []) ∧ ∀ l ∈ s.s, l = []) = decide (s.g = r.length) := by
  rw [decide_eq_decide]
  have hl := h.st.lens
  have ff : ∀ xs : List (List Nat), (∀ l ∈ xs, l = []) ↔ xs.flatten.length = 0 := fun xs => by
    rw [List.length_eq_zero_iff, List.flatten_eq_nil_iff]
  rw [ff, ff, ← List.length_eq_zero_iff]
  omega
/-- a way from stand to stand by green moves -/
inductive Path (y : Yd) (tk : List Nat) : Sd → List Mv → Sd → Prop where
  | nil {s : Sd} : Path y tk s [] s
  | cons {s S : Sd} {m : Mv} {G : List Mv} (h : m ∈ greens y tk s) (t : Path y tk (step y s m) G S) : Path y tk s (m :: G) S
theorem RunN.path {tk v : List Nat} {n : Nat} {f F : List Mv} (h : RunN y tk v n f s F S) : ∃ G, F = f ++ G ∧ Path y tk s G S := by
  induction h with
  | stop _ => exact ⟨[], by simp, .nil⟩
  | @go n f F s S hg t ih =>
    obtain ⟨G, e, p⟩ := ih
    exact ⟨_ :: G, by rw [e, List.append_assoc]; rfl, .cons (List.mem_of_getElem? (nxt_at (v := v) (f := f) hg)) p⟩
theorem Path.at {tk : List Nat} {F : List Mv} (h : Path y tk s F S) : (∀ i m, F[i]? = some m → m ∈ greens y tk (play y s (F.take i))) ∧ play y s F = S := by
  induction h with
  | nil => exact ⟨fun i m h => by simp at h, rfl⟩
  | @cons s S m G hm t ih =>
    refine ⟨fun i m' h => ?_, ih.2⟩
    cases i with
    | zero => cases (Option.some.inj h); exact hm
    | succ i => exact ih.1 i m' (by simpa using h)
theorem Path.hist (k : Sc y r d c) {F : List Mv} (h : Path y (tks r d) (TW.beg y r) F S) : ∀ i, i ≤ F.length → Hist y r d (F.take i) (TW.play y (TW.beg y r) (F.take i)) := fun i => by
  induction i with
  | zero => exact fun _ => Hist.beg k
  | succ i ih =>
    intro hi
    obtain ⟨m, hm⟩ : ∃ m, F[i]? = some m := ⟨_, List.getElem?_eq_getElem (by omega)⟩
    have h2 := (ih (by omega)).snoc k (h.at.1 i m hm)
    rw [play_step hm, List.take_add_one, hm]
    exact h2
/-- the run of the law -/
theorem run_all (k : Sc y r d c) (v : List Nat) : ∃ n F S, n ≤ 3 * r.length ∧ RunN y (tks r d) v n [] (TW.beg y r) F S ∧ F.length = n ∧ greens y (tks r d) S = [] ∧ Hist y r d F S ∧ ∀ i m, F[i]? = some m → m ∈ greens y (tks r d) (TW.play y (TW.beg y r) (F.take i)) ∧ Hist y r d (F.take i) (TW.play y (TW.beg y r) (F.take i)) := by
  have h0 := Hist.beg k
  have l0 := h0.len
  obtain ⟨n, F, S, h1, h2, h3, h4⟩ := run_ex k v (mu (TW.beg y r)) (TW.beg y r) [] (Nat.le_refl _) h0.inv
  obtain ⟨G, e, p⟩ := h2.path
  rw [List.nil_append] at e
  subst e
  have hl := h2.len
  simp only [List.length_nil] at hl l0
  have hh := p.hist k F.length (Nat.le_refl _)
  rw [List.take_length, p.at.2] at hh
  refine ⟨n, F, S, by omega, h2, by omega, h4, hh, fun i m hm => ⟨p.at.1 i m hm, p.hist k i (by have := (List.getElem?_eq_some_iff.mp hm).1; omega)⟩⟩
end

section
local macro_rules | `(tactic| walk_at "c") => `(tactic| first | refine exC rfl (celND rfl) ?_ | refine exAt rfl rfl ?_)
local macro_rules | `(tactic| walk_at "x") => `(tactic| (refine isN ?_; first | refine jn_cons ?_ rfl | refine jn_nil ?_))
local macro_rules | `(tactic| walk_at "e") => `(tactic| ((with_reducible refine isMc ?_); refine je_pop 6 rfl ?_ rfl (by first | exact Or.inl rfl | exact Or.inr (Or.inl rfl) | exact Or.inr (Or.inr rfl)) (by decide) (by decide) rfl rfl rfl rfl rfl))
local macro_rules | `(tactic| walk_at "t") => `(tactic| refine jt_ownNe (Room.units (by assumption)) 6 rfl (by first | exact Or.inl rfl | exact Or.inr (Or.inl rfl) | exact Or.inr (Or.inr rfl)) (by decide) (by decide) rfl ?_ rfl)
local macro_rules | `(tactic| walk_at "s") => `(tactic| refine js_break ?_)
section
variable {P : Program} {w : World} {K : PySem.W.Frag} {mg : Str → Option Value} {base : Heap}
def S_law_lane_run : Spec := fun cs R => ∃ (y : Yd) (r d v : List Nat) (F : List Mv) (S : Sd) (n : Nat) (I : Sd → Prop), cs = [.dat (dY y), .dat (dL r), .dat (dL d), .dat (dS (beg y r)), .dat (dL v)] ∧ YdOk y ∧ RowOk r ∧ d.length = r.length ∧ v.length ≤ 1000 ∧ Flow y (tks r d) I ∧ I (beg y r) ∧ n ≤ 3 * r.length ∧ RunN y (tks r d) v n [] (beg y r) F S ∧ R cs (.dat (.tuple [dJ F, dS S]))
theorem sc_law_lane_run : FnScope ["_law_yard", "_law_row", "_law_dealing", "_law_stand", "_law_picks", "_law_found", "_law_left", "_law_turn", "_law_green", "_law_pick_here"] ["_law_yard", "_law_row", "_law_dealing", "_law_stand", "_law_picks"] (defScope s_law_lane_run) := ⟨rfl, rfl, rfl, by decide +kernel, rfl, by decide +kernel, by decide +kernel⟩
theorem ok_law_lane_run (g : GD K mg "_law_lane_run" s_law_lane_run) (m1 : mg "len" = none) (m2 : mg "tuple" = none) (m3 : mg "range" = none) (m4 : mg "list" = none) (m5 : mg "int" = none) (D1 : DefOk P w K mg base 2 "_law_lane_greens" ["_law_yard", "_law_row", "_law_dealing", "_law_stand"] S_law_lane_greens) (D2 : DefOk P w K mg base 2 "_law_lane_after" ["_law_yard", "_law_stand", "_law_move"] S_law_lane_after) : DefOk P w K mg base 3 "_law_lane_run" ["_law_yard", "_law_row", "_law_dealing", "_law_stand", "_law_picks"] S_law_lane_run := by
  refine defD g sc_law_lane_run (by decide) (fun _ _ _ _ _ _ us hl => match us, hl with | [_, _, _, _, _], _ => rfl) (fun cs R h => ?_) fun f_ cdv_ A outer s_ H E cs R hr h => ?_
  · obtain ⟨y, r, d, v, F, S, n, I, rfl, _⟩ := h
    rfl
  have hN : (["_law_yard", "_law_row", "_law_dealing", "_law_stand", "_law_picks", "_law_found", "_law_left", "_law_turn", "_law_green", "_law_pick_here"] : List Str).Nodup := by decide +kernel
  have nm0 : NmOk (cxOf CX0 P w K mg base ["_law_yard", "_law_row", "_law_dealing", "_law_stand", "_law_picks", "_law_found", "_law_left", "_law_turn", "_law_green", "_law_pick_here"] "_law_lane_run" (defScope s_law_lane_run) f_ cdv_ A outer s_ H E).nox 0 "_law_yard" := ⟨rfl, by first | exact Or.inl rfl | exact Or.inr (Or.inl rfl) | exact Or.inr (Or.inr rfl), by decide, by decide⟩
  have lc0 : LcOk (cxOf CX0 P w K mg base ["_law_yard", "_law_row", "_law_dealing", "_law_stand", "_law_picks", "_law_found", "_law_left", "_law_turn", "_law_green", "_law_pick_here"] "_law_lane_run" (defScope s_law_lane_run) f_ cdv_ A outer s_ H E).nox 0 "_law_yard" := ⟨rfl, by first | exact Or.inl rfl | exact Or.inr rfl, by first | exact Or.inl rfl | exact Or.inr rfl⟩
  have nm1 : NmOk (cxOf CX0 P w K mg base ["_law_yard", "_law_row", "_law_dealing", "_law_stand", "_law_picks", "_law_found", "_law_left", "_law_turn", "_law_green", "_law_pick_here"] "_law_lane_run" (defScope s_law_lane_run) f_ cdv_ A outer s_ H E).nox 1 "_law_row" := ⟨rfl, by first | exact Or.inl rfl | exact Or.inr (Or.inl rfl) | exact Or.inr (Or.inr rfl), by decide, by decide⟩
  have lc1 : LcOk (cxOf CX0 P w K mg base ["_law_yard", "_law_row", "_law_dealing", "_law_stand", "_law_picks", "_law_found", "_law_left", "_law_turn", "_law_green", "_law_pick_here"] "_law_lane_run" (defScope s_law_lane_run) f_ cdv_ A outer s_ H E).nox 1 "_law_row" := ⟨rfl, by first | exact Or.inl rfl | exact Or.inr rfl, by first | exact Or.inl rfl | exact Or.inr rfl⟩
  have nm2 : NmOk (cxOf CX0 P w K mg base ["_law_yard", "_law_row", "_law_dealing", "_law_stand", "_law_picks", "_law_found", "_law_left", "_law_turn", "_law_green", "_law_pick_here"] "_law_lane_run" (defScope s_law_lane_run) f_ cdv_ A outer s_ H E).nox 2 "_law_dealing" := ⟨rfl, by first | exact Or.inl rfl | exact Or.inr (Or.inl rfl) | exact Or.inr (Or.inr rfl), by decide, by decide⟩
  have lc2 : LcOk (cxOf CX0 P w K mg base ["_law_yard", "_law_row", "_law_dealing", "_law_stand", "_law_picks", "_law_found", "_law_left", "_law_turn", "_law_green", "_law_pick_here"] "_law_lane_run" (defScope s_law_lane_run) f_ cdv_ A outer s_ H E).nox 2 "_law_dealing" := ⟨rfl, by first | exact Or.inl rfl | exact Or.inr rfl, by first | exact Or.inl rfl | exact Or.inr rfl⟩
  have nm3 : NmOk (cxOf CX0 P w K mg base ["_law_yard", "_law_row", "_law_dealing", "_law_stand", "_law_picks", "_law_found", "_law_left", "_law_turn", "_law_green", "_law_pick_here"] "_law_lane_run" (defScope s_law_lane_run) f_ cdv_ A outer s_ H E).nox 3 "_law_stand" := ⟨rfl, by first | exact Or.inl rfl | exact Or.inr (Or.inl rfl) | exact Or.inr (Or.inr rfl), by decide, by decide⟩
  have lc3 : LcOk (cxOf CX0 P w K mg base ["_law_yard", "_law_row", "_law_dealing", "_law_stand", "_law_picks", "_law_found", "_law_left", "_law_turn", "_law_green", "_law_pick_here"] "_law_lane_run" (defScope s_law_lane_run) f_ cdv_ A outer s_ H E).nox 3 "_law_stand" := ⟨rfl, by first | exact Or.inl rfl | exact Or.inr rfl, by first | exact Or.inl rfl | exact Or.inr rfl⟩
  have nm4 : NmOk (cxOf CX0 P w K mg base ["_law_yard", "_law_row", "_law_dealing", "_law_stand", "_law_picks", "_law_found", "_law_left", "_law_turn", "_law_green", "_law_pick_here"] "_law_lane_run" (defScope s_law_lane_run) f_ cdv_ A outer s_ H E).nox 4 "_law_picks" := ⟨rfl, by first | exact Or.inl rfl | exact Or.inr (Or.inl rfl) | exact Or.inr (Or.inr rfl), by decide, by decide⟩
  have lc4 : LcOk (cxOf CX0 P w K mg base ["_law_yard", "_law_row", "_law_dealing", "_law_stand", "_law_picks", "_law_found", "_law_left", "_law_turn", "_law_green", "_law_pick_here"] "_law_lane_run" (defScope s_law_lane_run) f_ cdv_ A outer s_ H E).nox 4 "_law_picks" := ⟨rfl, by first | exact Or.inl rfl | exact Or.inr rfl, by first | exact Or.inl rfl | exact Or.inr rfl⟩
  have nm5 : NmOk (cxOf CX0 P w K mg base ["_law_yard", "_law_row", "_law_dealing", "_law_stand", "_law_picks", "_law_found", "_law_left", "_law_turn", "_law_green", "_law_pick_here"] "_law_lane_run" (defScope s_law_lane_run) f_ cdv_ A outer s_ H E).nox 5 "_law_found" := ⟨rfl, by first | exact Or.inl rfl | exact Or.inr (Or.inl rfl) | exact Or.inr (Or.inr rfl), by decide, by decide⟩
  have lc5 : LcOk (cxOf CX0 P w K mg base ["_law_yard", "_law_row", "_law_dealing", "_law_stand", "_law_picks", "_law_found", "_law_left", "_law_turn", "_law_green", "_law_pick_here"] "_law_lane_run" (defScope s_law_lane_run) f_ cdv_ A outer s_ H E).nox 5 "_law_found" := ⟨rfl, by first | exact Or.inl rfl | exact Or.inr rfl, by first | exact Or.inl rfl | exact Or.inr rfl⟩
  have nm6 : NmOk (cxOf CX0 P w K mg base ["_law_yard", "_law_row", "_law_dealing", "_law_stand", "_law_picks", "_law_found", "_law_left", "_law_turn", "_law_green", "_law_pick_here"] "_law_lane_run" (defScope s_law_lane_run) f_ cdv_ A outer s_ H E).nox 6 "_law_left" := ⟨rfl, by first | exact Or.inl rfl | exact Or.inr (Or.inl rfl) | exact Or.inr (Or.inr rfl), by decide, by decide⟩
  have lc6 : LcOk (cxOf CX0 P w K mg base ["_law_yard", "_law_row", "_law_dealing", "_law_stand", "_law_picks", "_law_found", "_law_left", "_law_turn", "_law_green", "_law_pick_here"] "_law_lane_run" (defScope s_law_lane_run) f_ cdv_ A outer s_ H E).nox 6 "_law_left" := ⟨rfl, by first | exact Or.inl rfl | exact Or.inr rfl, by first | exact Or.inl rfl | exact Or.inr rfl⟩
  have nm7 : NmOk (cxOf CX0 P w K mg base ["_law_yard", "_law_row", "_law_dealing", "_law_stand", "_law_picks", "_law_found", "_law_left", "_law_turn", "_law_green", "_law_pick_here"] "_law_lane_run" (defScope s_law_lane_run) f_ cdv_ A outer s_ H E).nox 7 "_law_turn" := ⟨rfl, by first | exact Or.inl rfl | exact Or.inr (Or.inl rfl) | exact Or.inr (Or.inr rfl), by decide, by decide⟩
  have lc7 : LcOk (cxOf CX0 P w K mg base ["_law_yard", "_law_row", "_law_dealing", "_law_stand", "_law_picks", "_law_found", "_law_left", "_law_turn", "_law_green", "_law_pick_here"] "_law_lane_run" (defScope s_law_lane_run) f_ cdv_ A outer s_ H E).nox 7 "_law_turn" := ⟨rfl, by first | exact Or.inl rfl | exact Or.inr rfl, by first | exact Or.inl rfl | exact Or.inr rfl⟩
  have nm8 : NmOk (cxOf CX0 P w K mg base ["_law_yard", "_law_row", "_law_dealing", "_law_stand", "_law_picks", "_law_found", "_law_left", "_law_turn", "_law_green", "_law_pick_here"] "_law_lane_run" (defScope s_law_lane_run) f_ cdv_ A outer s_ H E).nox 8 "_law_green" := ⟨rfl, by first | exact Or.inl rfl | exact Or.inr (Or.inl rfl) | exact Or.inr (Or.inr rfl), by decide, by decide⟩
  have lc8 : LcOk (cxOf CX0 P w K mg base ["_law_yard", "_law_row", "_law_dealing", "_law_stand", "_law_picks", "_law_found", "_law_left", "_law_turn", "_law_green", "_law_pick_here"] "_law_lane_run" (defScope s_law_lane_run) f_ cdv_ A outer s_ H E).nox 8 "_law_green" := ⟨rfl, by first | exact Or.inl rfl | exact Or.inr rfl, by first | exact Or.inl rfl | exact Or.inr rfl⟩
  have nm9 : NmOk (cxOf CX0 P w K mg base ["_law_yard", "_law_row", "_law_dealing", "_law_stand", "_law_picks", "_law_found", "_law_left", "_law_turn", "_law_green", "_law_pick_here"] "_law_lane_run" (defScope s_law_lane_run) f_ cdv_ A outer s_ H E).nox 9 "_law_pick_here" := ⟨rfl, by first | exact Or.inl rfl | exact Or.inr (Or.inl rfl) | exact Or.inr (Or.inr rfl), by decide, by decide⟩
  have lc9 : LcOk (cxOf CX0 P w K mg base ["_law_yard", "_law_row", "_law_dealing", "_law_stand", "_law_picks", "_law_found", "_law_left", "_law_turn", "_law_green", "_law_pick_here"] "_law_lane_run" (defScope s_law_lane_run) f_ cdv_ A outer s_ H E).nox 9 "_law_pick_here" := ⟨rfl, by first | exact Or.inl rfl | exact Or.inr rfl, by first | exact Or.inl rfl | exact Or.inr rfl⟩
  have dD1 : DefOk (cxOf CX0 P w K mg base ["_law_yard", "_law_row", "_law_dealing", "_law_stand", "_law_picks", "_law_found", "_law_left", "_law_turn", "_law_green", "_law_pick_here"] "_law_lane_run" (defScope s_law_lane_run) f_ cdv_ A outer s_ H E).nox.prog (cxOf CX0 P w K mg base ["_law_yard", "_law_row", "_law_dealing", "_law_stand", "_law_picks", "_law_found", "_law_left", "_law_turn", "_law_green", "_law_pick_here"] "_law_lane_run" (defScope s_law_lane_run) f_ cdv_ A outer s_ H E).nox.w (cxOf CX0 P w K mg base ["_law_yard", "_law_row", "_law_dealing", "_law_stand", "_law_picks", "_law_found", "_law_left", "_law_turn", "_law_green", "_law_pick_here"] "_law_lane_run" (defScope s_law_lane_run) f_ cdv_ A outer s_ H E).nox.K (cxOf CX0 P w K mg base ["_law_yard", "_law_row", "_law_dealing", "_law_stand", "_law_picks", "_law_found", "_law_left", "_law_turn", "_law_green", "_law_pick_here"] "_law_lane_run" (defScope s_law_lane_run) f_ cdv_ A outer s_ H E).nox.mg (cxOf CX0 P w K mg base ["_law_yard", "_law_row", "_law_dealing", "_law_stand", "_law_picks", "_law_found", "_law_left", "_law_turn", "_law_green", "_law_pick_here"] "_law_lane_run" (defScope s_law_lane_run) f_ cdv_ A outer s_ H E).nox.base 2 "_law_lane_greens" ["_law_yard", "_law_row", "_law_dealing", "_law_stand"] S_law_lane_greens := D1
  have dD2 : DefOk (cxOf CX0 P w K mg base ["_law_yard", "_law_row", "_law_dealing", "_law_stand", "_law_picks", "_law_found", "_law_left", "_law_turn", "_law_green", "_law_pick_here"] "_law_lane_run" (defScope s_law_lane_run) f_ cdv_ A outer s_ H E).nox.prog (cxOf CX0 P w K mg base ["_law_yard", "_law_row", "_law_dealing", "_law_stand", "_law_picks", "_law_found", "_law_left", "_law_turn", "_law_green", "_law_pick_here"] "_law_lane_run" (defScope s_law_lane_run) f_ cdv_ A outer s_ H E).nox.w (cxOf CX0 P w K mg base ["_law_yard", "_law_row", "_law_dealing", "_law_stand", "_law_picks", "_law_found", "_law_left", "_law_turn", "_law_green", "_law_pick_here"] "_law_lane_run" (defScope s_law_lane_run) f_ cdv_ A outer s_ H E).nox.K (cxOf CX0 P w K mg base ["_law_yard", "_law_row", "_law_dealing", "_law_stand", "_law_picks", "_law_found", "_law_left", "_law_turn", "_law_green", "_law_pick_here"] "_law_lane_run" (defScope s_law_lane_run) f_ cdv_ A outer s_ H E).nox.mg (cxOf CX0 P w K mg base ["_law_yard", "_law_row", "_law_dealing", "_law_stand", "_law_picks", "_law_found", "_law_left", "_law_turn", "_law_green", "_law_pick_here"] "_law_lane_run" (defScope s_law_lane_run) f_ cdv_ A outer s_ H E).nox.base 2 "_law_lane_after" ["_law_yard", "_law_stand", "_law_move"] S_law_lane_after := D2
  obtain ⟨y, r, d, v, F, S, n, I, rfl, hy, hr', hd, hv, hF, hI, hn, hrun, hR⟩ := h
  have hrl := hr'.len
  have hFl := hrun.len
  refine js_cons ?_
  refine js_par2 5 6 (by decide) ?_ rfl hN rfl rfl rfl rfl rfl rfl
  walk_at "go"
  rename_i p q
  refine exN2 rfl rfl ?_
  walk_at "go"
  refine ⟨Or.inl ⟨by decide, by decide⟩, ?_⟩
  walk_at "go"
  refine ⟨3 * r.length + 1, by simp, by omega, ?_⟩
  refine ⟨fun i ρ => ∃ f s n c7 c8 c9, ρ = [some (.dat (dY y)), some (.dat (dL r)), some (.dat (dL d)), some (.dat (dS s)), some (.dat (dL v)), some (.own p (f.map dM)), some (.own q ((v.drop i).map dN)), c7, c8, c9] ∧ f.length = i ∧ I s ∧ RunN y (tks r d) v n f s F S, ⟨[], beg y r, n, none, none, none, rfl, rfl, hI, hrun⟩, fun i ρ2 hi hJ => ?_, fun ρ2 hJ => ?_⟩
  · obtain ⟨f, s, n', c7, c8, c9, rfl, hfl, hi', hrn⟩ := hJ
    have hlen := hrn.len
    walk_at "go"
    refine ⟨y, r, d, s, rfl, hy, hr', hd, hF.shp _ hi', hF.tko _ hi', ?_⟩
    walk_at "go"
    refine Or.inr ⟨cm_J _, cm_nil, fun t ht => ?_⟩
    have e := tEq ht jnil_iff
    cases hrn with
    | stop hg =>
      refine okTe (by rw [e]; simp [hg]) ?_
      walk_at "go"
      exact ⟨by walk_at "bk", hR⟩
    | go hg ht2 =>
      refine okFe (by rw [e]; simp [hg]) ?_
      walk_at "x"
      refine js_mid (fun ρ => ρ = [some (.dat (dY y)), some (.dat (dL r)), some (.dat (dL d)), some (.dat (dS s)), some (.dat (dL v)), some (.own p (f.map dM)), some (.own q ((v.drop (i + 1)).map dN)), some (.dat (.int (i : Int))), some (.dat (dJ (greens y (tks r d) s))), some (.dat (dN (pick v f)))]) ?_ fun ρ hρ => ?_
      · walk_at "go"
        refine ⟨cm_Nl _, fun t ht => ?_⟩
        have e2 : t = true ↔ i < v.length := ht.trans (by simp)
        refine okB (fun z => ?_) (fun z => ?_)
        · have z1 : i < v.length := e2.mp z
          obtain ⟨x, hx⟩ : ∃ x, v[i]? = some x := ⟨_, List.getElem?_eq_getElem z1⟩
          have ep : pick v f = x := by
            unfold pick
            rw [hfl, if_pos z1, List.getD_eq_getElem?_getD, hx]
            rfl
          walk_at "go"
          refine ⟨_, _, 0, dN x, rfl, rfl, by omega, by rw [List.getElem?_map, List.getElem?_drop]; simp [hx], ?_⟩
          walk_at "go"
          have et : ((v.drop i).map dN).eraseIdx 0 = (v.drop (i + 1)).map dN := by rw [List.eraseIdx_zero, ← List.drop_one, ← List.map_drop, List.drop_drop]
          rw [ep, et]
          rfl
        · have z1 : ¬ i < v.length := fun q => by rw [e2.mpr q] at z; cases z
          have ep : pick v f = 0 := by
            unfold pick
            rw [hfl, if_neg z1]
          walk_at "go"
          rw [ep, List.drop_eq_nil_of_le (by omega : v.length ≤ i), List.drop_eq_nil_of_le (by omega : v.length ≤ i + 1)]
          rfl
      · subst hρ
        have hgl : 0 < (greens y (tks r d) s).length := List.length_pos_iff.mpr hg
        have hnx := nxt_at (v := v) (f := f) hg
        have hmem := List.mem_of_getElem? hnx
        walk_at "go"
        refine ⟨by simp; omega, ?_⟩
        walk_at "go"
        refine ⟨_, _, _, rfl, rfl, by rw [List.length_map]; exact atI_map (i := pick v f % (greens y (tks r d) s).length) hnx, ?_⟩
        walk_at "go"
        refine ⟨_, _, rfl, by rw [List.length_map]; omega, ?_⟩
        have e1 : f.map dM ++ [dM (nxt y (tks r d) v f s)] = (f ++ [nxt y (tks r d) v f s]).map dM := by simp
        rw [e1]
        walk_at "go"
        refine ⟨_, _, _, rfl, rfl, atI_last, ?_⟩
        walk_at "go"
        refine ⟨y, s, _, rfl, hy, hF.shp _ hi', hF.can _ _ hi' hmem, ?_⟩
        walk_at "go"
        exact ⟨_, _, _, _, _, _, rfl, by simp [hfl], hF.next _ _ hi' hmem, ht2⟩
  · obtain ⟨f, s, n', c7, c8, c9, rfl, hfl, hi', hrn⟩ := hJ
    have hlen := hrn.len
    simp only [List.length_nil] at hFl
    omega

end
end
section
local macro_rules | `(tactic| walk_at "c") => `(tactic| first | refine exC rfl (celND rfl) ?_ | refine exAt rfl rfl ?_)
local macro_rules | `(tactic| walk_at "x") => `(tactic| (refine isN ?_; first | refine jn_cons ?_ rfl | refine jn_nil ?_))
local macro_rules | `(tactic| walk_at "e") => `(tactic| ((with_reducible refine isMc ?_); first | refine je_meth0D 4 (by assumption) (by assumption) (Room.mono (by assumption) (by decide)) rfl rfl ?_ rfl (by first | exact Or.inl rfl | exact Or.inr (Or.inl rfl) | exact Or.inr (Or.inr rfl)) (by decide) (by decide) rfl | refine je_methD 4 (by assumption) (by assumption) (Room.mono (by assumption) (by decide)) rfl rfl ?_ rfl (by first | exact Or.inl rfl | exact Or.inr (Or.inl rfl) | exact Or.inr (Or.inr rfl)) (by decide) (by decide) rfl rfl rfl))
section
variable {P : Program} {w : World} {K : PySem.W.Frag} {mg : Str → Option Value} {base : Heap}
theorem greens_z {y : Yd} (hy : YdOk y) (tk : List Nat) (s : Sd) : (greens y tk s).length ≤ 1000 := by
  have h1 := greens_le y tk s
  have h2 := List.length_filter_le (overG y tk s) (List.range y.tr.length)
  have h3 := List.length_filter_le (outG s) (List.range y.l)
  have h4 := hy.len
  have h5 := hy.l2
  unfold greens
  simp only [List.length_append, List.length_map, List.length_range] at h2 h3 ⊢
  omega
def S_law_goes_on : Spec := fun cs R => ∃ (p : Addr) (y : Yd) (r d c : List Nat) (e : Addr) (s : Sd) (j : List Mv) (n : Nat), cs = [.pool p, .dat (dY y), .dat (dL r), .dat (dL d), .ins e (eng y (tks r d) s j), .dat (dJ j), .dat (dS s), .dat (dN n)] ∧ Sc y r d c ∧ Hist y r d j s ∧ n ≤ 1000 ∧ ∀ s' j', R [.pool p, .dat (dY y), .dat (dL r), .dat (dL d), .ins e (eng y (tks r d) s' j'), .dat (dJ j), .dat (dS s), .dat (dN n)] (.dat (.bool true))
theorem sc_law_goes_on : FnScope ["_law_pool_here", "_law_yard", "_law_row", "_law_dealing", "_law_engine", "_law_journal", "_law_stand", "_law_most", "_law_turn", "_law_green", "_law_move"] ["_law_pool_here", "_law_yard", "_law_row", "_law_dealing", "_law_engine", "_law_journal", "_law_stand", "_law_most"] (defScope s_law_goes_on) := ⟨rfl, rfl, rfl, by decide +kernel, rfl, by decide +kernel, by decide +kernel⟩
theorem ok_law_goes_on (g : GD K mg "_law_goes_on" s_law_goes_on) (m2 : mg "len" = none) (m3 : mg "range" = none) (cl : Cls K (engC K)) (M1 : MetOk P w K mg base 3 "greens" ["self"] S_Engine_greens) (M2 : MetOk P w K mg base 1 "journal" ["self"] S_Engine_journal) (M3 : MetOk P w K mg base 1 "stand" ["self"] S_Engine_stand) (M4 : MetOk P w K mg base 2 "home" ["self"] S_Engine_home) (M5 : MetOk P w K mg base 6 "do" ["self", "move"] S_Engine_do) (D1 : DefOk P w K mg base 2 "_law_lane_greens" ["_law_yard", "_law_row", "_law_dealing", "_law_stand"] S_law_lane_greens) (D2 : DefOk P w K mg base 2 "_law_lane_after" ["_law_yard", "_law_stand", "_law_move"] S_law_lane_after) (D3 : DefOk P w K mg base 7 "replayed" ["yard", "row", "journal"] S_replayed) (D4 : DefOk P w K mg base 2 "_law_pick" ["_law_pool_here", "_law_things"] S_law_pick) : DefOk P w K mg base 8 "_law_goes_on" ["_law_pool_here", "_law_yard", "_law_row", "_law_dealing", "_law_engine", "_law_journal", "_law_stand", "_law_most"] S_law_goes_on := by
  refine defD g sc_law_goes_on (by decide) (fun _ _ _ _ _ _ us hl => match us, hl with | [_, _, _, _, _, _, _, _], _ => rfl) (fun cs R h => ?_) fun f_ cdv_ A outer s_ H E cs R hr h => ?_
  · obtain ⟨p, y, r, d, c, e, s, j, n, rfl, _⟩ := h
    rfl
  have hN : (["_law_pool_here", "_law_yard", "_law_row", "_law_dealing", "_law_engine", "_law_journal", "_law_stand", "_law_most", "_law_turn", "_law_green", "_law_move"] : List Str).Nodup := by decide +kernel
  have nm0 : NmOk (cxOf CX0 P w K mg base ["_law_pool_here", "_law_yard", "_law_row", "_law_dealing", "_law_engine", "_law_journal", "_law_stand", "_law_most", "_law_turn", "_law_green", "_law_move"] "_law_goes_on" (defScope s_law_goes_on) f_ cdv_ A outer s_ H E).nox 0 "_law_pool_here" := ⟨rfl, by first | exact Or.inl rfl | exact Or.inr (Or.inl rfl) | exact Or.inr (Or.inr rfl), by decide, by decide⟩
  have lc0 : LcOk (cxOf CX0 P w K mg base ["_law_pool_here", "_law_yard", "_law_row", "_law_dealing", "_law_engine", "_law_journal", "_law_stand", "_law_most", "_law_turn", "_law_green", "_law_move"] "_law_goes_on" (defScope s_law_goes_on) f_ cdv_ A outer s_ H E).nox 0 "_law_pool_here" := ⟨rfl, by first | exact Or.inl rfl | exact Or.inr rfl, by first | exact Or.inl rfl | exact Or.inr rfl⟩
  have nm1 : NmOk (cxOf CX0 P w K mg base ["_law_pool_here", "_law_yard", "_law_row", "_law_dealing", "_law_engine", "_law_journal", "_law_stand", "_law_most", "_law_turn", "_law_green", "_law_move"] "_law_goes_on" (defScope s_law_goes_on) f_ cdv_ A outer s_ H E).nox 1 "_law_yard" := ⟨rfl, by first | exact Or.inl rfl | exact Or.inr (Or.inl rfl) | exact Or.inr (Or.inr rfl), by decide, by decide⟩
  have lc1 : LcOk (cxOf CX0 P w K mg base ["_law_pool_here", "_law_yard", "_law_row", "_law_dealing", "_law_engine", "_law_journal", "_law_stand", "_law_most", "_law_turn", "_law_green", "_law_move"] "_law_goes_on" (defScope s_law_goes_on) f_ cdv_ A outer s_ H E).nox 1 "_law_yard" := ⟨rfl, by first | exact Or.inl rfl | exact Or.inr rfl, by first | exact Or.inl rfl | exact Or.inr rfl⟩
  have nm2 : NmOk (cxOf CX0 P w K mg base ["_law_pool_here", "_law_yard", "_law_row", "_law_dealing", "_law_engine", "_law_journal", "_law_stand", "_law_most", "_law_turn", "_law_green", "_law_move"] "_law_goes_on" (defScope s_law_goes_on) f_ cdv_ A outer s_ H E).nox 2 "_law_row" := ⟨rfl, by first | exact Or.inl rfl | exact Or.inr (Or.inl rfl) | exact Or.inr (Or.inr rfl), by decide, by decide⟩
  have lc2 : LcOk (cxOf CX0 P w K mg base ["_law_pool_here", "_law_yard", "_law_row", "_law_dealing", "_law_engine", "_law_journal", "_law_stand", "_law_most", "_law_turn", "_law_green", "_law_move"] "_law_goes_on" (defScope s_law_goes_on) f_ cdv_ A outer s_ H E).nox 2 "_law_row" := ⟨rfl, by first | exact Or.inl rfl | exact Or.inr rfl, by first | exact Or.inl rfl | exact Or.inr rfl⟩
  have nm3 : NmOk (cxOf CX0 P w K mg base ["_law_pool_here", "_law_yard", "_law_row", "_law_dealing", "_law_engine", "_law_journal", "_law_stand", "_law_most", "_law_turn", "_law_green", "_law_move"] "_law_goes_on" (defScope s_law_goes_on) f_ cdv_ A outer s_ H E).nox 3 "_law_dealing" := ⟨rfl, by first | exact Or.inl rfl | exact Or.inr (Or.inl rfl) | exact Or.inr (Or.inr rfl), by decide, by decide⟩
  have lc3 : LcOk (cxOf CX0 P w K mg base ["_law_pool_here", "_law_yard", "_law_row", "_law_dealing", "_law_engine", "_law_journal", "_law_stand", "_law_most", "_law_turn", "_law_green", "_law_move"] "_law_goes_on" (defScope s_law_goes_on) f_ cdv_ A outer s_ H E).nox 3 "_law_dealing" := ⟨rfl, by first | exact Or.inl rfl | exact Or.inr rfl, by first | exact Or.inl rfl | exact Or.inr rfl⟩
  have nm4 : NmOk (cxOf CX0 P w K mg base ["_law_pool_here", "_law_yard", "_law_row", "_law_dealing", "_law_engine", "_law_journal", "_law_stand", "_law_most", "_law_turn", "_law_green", "_law_move"] "_law_goes_on" (defScope s_law_goes_on) f_ cdv_ A outer s_ H E).nox 4 "_law_engine" := ⟨rfl, by first | exact Or.inl rfl | exact Or.inr (Or.inl rfl) | exact Or.inr (Or.inr rfl), by decide, by decide⟩
  have lc4 : LcOk (cxOf CX0 P w K mg base ["_law_pool_here", "_law_yard", "_law_row", "_law_dealing", "_law_engine", "_law_journal", "_law_stand", "_law_most", "_law_turn", "_law_green", "_law_move"] "_law_goes_on" (defScope s_law_goes_on) f_ cdv_ A outer s_ H E).nox 4 "_law_engine" := ⟨rfl, by first | exact Or.inl rfl | exact Or.inr rfl, by first | exact Or.inl rfl | exact Or.inr rfl⟩
  have nm5 : NmOk (cxOf CX0 P w K mg base ["_law_pool_here", "_law_yard", "_law_row", "_law_dealing", "_law_engine", "_law_journal", "_law_stand", "_law_most", "_law_turn", "_law_green", "_law_move"] "_law_goes_on" (defScope s_law_goes_on) f_ cdv_ A outer s_ H E).nox 5 "_law_journal" := ⟨rfl, by first | exact Or.inl rfl | exact Or.inr (Or.inl rfl) | exact Or.inr (Or.inr rfl), by decide, by decide⟩
  have lc5 : LcOk (cxOf CX0 P w K mg base ["_law_pool_here", "_law_yard", "_law_row", "_law_dealing", "_law_engine", "_law_journal", "_law_stand", "_law_most", "_law_turn", "_law_green", "_law_move"] "_law_goes_on" (defScope s_law_goes_on) f_ cdv_ A outer s_ H E).nox 5 "_law_journal" := ⟨rfl, by first | exact Or.inl rfl | exact Or.inr rfl, by first | exact Or.inl rfl | exact Or.inr rfl⟩
  have nm6 : NmOk (cxOf CX0 P w K mg base ["_law_pool_here", "_law_yard", "_law_row", "_law_dealing", "_law_engine", "_law_journal", "_law_stand", "_law_most", "_law_turn", "_law_green", "_law_move"] "_law_goes_on" (defScope s_law_goes_on) f_ cdv_ A outer s_ H E).nox 6 "_law_stand" := ⟨rfl, by first | exact Or.inl rfl | exact Or.inr (Or.inl rfl) | exact Or.inr (Or.inr rfl), by decide, by decide⟩
  have lc6 : LcOk (cxOf CX0 P w K mg base ["_law_pool_here", "_law_yard", "_law_row", "_law_dealing", "_law_engine", "_law_journal", "_law_stand", "_law_most", "_law_turn", "_law_green", "_law_move"] "_law_goes_on" (defScope s_law_goes_on) f_ cdv_ A outer s_ H E).nox 6 "_law_stand" := ⟨rfl, by first | exact Or.inl rfl | exact Or.inr rfl, by first | exact Or.inl rfl | exact Or.inr rfl⟩
  have nm7 : NmOk (cxOf CX0 P w K mg base ["_law_pool_here", "_law_yard", "_law_row", "_law_dealing", "_law_engine", "_law_journal", "_law_stand", "_law_most", "_law_turn", "_law_green", "_law_move"] "_law_goes_on" (defScope s_law_goes_on) f_ cdv_ A outer s_ H E).nox 7 "_law_most" := ⟨rfl, by first | exact Or.inl rfl | exact Or.inr (Or.inl rfl) | exact Or.inr (Or.inr rfl), by decide, by decide⟩
  have lc7 : LcOk (cxOf CX0 P w K mg base ["_law_pool_here", "_law_yard", "_law_row", "_law_dealing", "_law_engine", "_law_journal", "_law_stand", "_law_most", "_law_turn", "_law_green", "_law_move"] "_law_goes_on" (defScope s_law_goes_on) f_ cdv_ A outer s_ H E).nox 7 "_law_most" := ⟨rfl, by first | exact Or.inl rfl | exact Or.inr rfl, by first | exact Or.inl rfl | exact Or.inr rfl⟩
  have nm8 : NmOk (cxOf CX0 P w K mg base ["_law_pool_here", "_law_yard", "_law_row", "_law_dealing", "_law_engine", "_law_journal", "_law_stand", "_law_most", "_law_turn", "_law_green", "_law_move"] "_law_goes_on" (defScope s_law_goes_on) f_ cdv_ A outer s_ H E).nox 8 "_law_turn" := ⟨rfl, by first | exact Or.inl rfl | exact Or.inr (Or.inl rfl) | exact Or.inr (Or.inr rfl), by decide, by decide⟩
  have lc8 : LcOk (cxOf CX0 P w K mg base ["_law_pool_here", "_law_yard", "_law_row", "_law_dealing", "_law_engine", "_law_journal", "_law_stand", "_law_most", "_law_turn", "_law_green", "_law_move"] "_law_goes_on" (defScope s_law_goes_on) f_ cdv_ A outer s_ H E).nox 8 "_law_turn" := ⟨rfl, by first | exact Or.inl rfl | exact Or.inr rfl, by first | exact Or.inl rfl | exact Or.inr rfl⟩
  have nm9 : NmOk (cxOf CX0 P w K mg base ["_law_pool_here", "_law_yard", "_law_row", "_law_dealing", "_law_engine", "_law_journal", "_law_stand", "_law_most", "_law_turn", "_law_green", "_law_move"] "_law_goes_on" (defScope s_law_goes_on) f_ cdv_ A outer s_ H E).nox 9 "_law_green" := ⟨rfl, by first | exact Or.inl rfl | exact Or.inr (Or.inl rfl) | exact Or.inr (Or.inr rfl), by decide, by decide⟩
  have lc9 : LcOk (cxOf CX0 P w K mg base ["_law_pool_here", "_law_yard", "_law_row", "_law_dealing", "_law_engine", "_law_journal", "_law_stand", "_law_most", "_law_turn", "_law_green", "_law_move"] "_law_goes_on" (defScope s_law_goes_on) f_ cdv_ A outer s_ H E).nox 9 "_law_green" := ⟨rfl, by first | exact Or.inl rfl | exact Or.inr rfl, by first | exact Or.inl rfl | exact Or.inr rfl⟩
  have nm10 : NmOk (cxOf CX0 P w K mg base ["_law_pool_here", "_law_yard", "_law_row", "_law_dealing", "_law_engine", "_law_journal", "_law_stand", "_law_most", "_law_turn", "_law_green", "_law_move"] "_law_goes_on" (defScope s_law_goes_on) f_ cdv_ A outer s_ H E).nox 10 "_law_move" := ⟨rfl, by first | exact Or.inl rfl | exact Or.inr (Or.inl rfl) | exact Or.inr (Or.inr rfl), by decide, by decide⟩
  have lc10 : LcOk (cxOf CX0 P w K mg base ["_law_pool_here", "_law_yard", "_law_row", "_law_dealing", "_law_engine", "_law_journal", "_law_stand", "_law_most", "_law_turn", "_law_green", "_law_move"] "_law_goes_on" (defScope s_law_goes_on) f_ cdv_ A outer s_ H E).nox 10 "_law_move" := ⟨rfl, by first | exact Or.inl rfl | exact Or.inr rfl, by first | exact Or.inl rfl | exact Or.inr rfl⟩
  have dD1 : DefOk (cxOf CX0 P w K mg base ["_law_pool_here", "_law_yard", "_law_row", "_law_dealing", "_law_engine", "_law_journal", "_law_stand", "_law_most", "_law_turn", "_law_green", "_law_move"] "_law_goes_on" (defScope s_law_goes_on) f_ cdv_ A outer s_ H E).nox.prog (cxOf CX0 P w K mg base ["_law_pool_here", "_law_yard", "_law_row", "_law_dealing", "_law_engine", "_law_journal", "_law_stand", "_law_most", "_law_turn", "_law_green", "_law_move"] "_law_goes_on" (defScope s_law_goes_on) f_ cdv_ A outer s_ H E).nox.w (cxOf CX0 P w K mg base ["_law_pool_here", "_law_yard", "_law_row", "_law_dealing", "_law_engine", "_law_journal", "_law_stand", "_law_most", "_law_turn", "_law_green", "_law_move"] "_law_goes_on" (defScope s_law_goes_on) f_ cdv_ A outer s_ H E).nox.K (cxOf CX0 P w K mg base ["_law_pool_here", "_law_yard", "_law_row", "_law_dealing", "_law_engine", "_law_journal", "_law_stand", "_law_most", "_law_turn", "_law_green", "_law_move"] "_law_goes_on" (defScope s_law_goes_on) f_ cdv_ A outer s_ H E).nox.mg (cxOf CX0 P w K mg base ["_law_pool_here", "_law_yard", "_law_row", "_law_dealing", "_law_engine", "_law_journal", "_law_stand", "_law_most", "_law_turn", "_law_green", "_law_move"] "_law_goes_on" (defScope s_law_goes_on) f_ cdv_ A outer s_ H E).nox.base 2 "_law_lane_greens" ["_law_yard", "_law_row", "_law_dealing", "_law_stand"] S_law_lane_greens := D1
  have dD2 : DefOk (cxOf CX0 P w K mg base ["_law_pool_here", "_law_yard", "_law_row", "_law_dealing", "_law_engine", "_law_journal", "_law_stand", "_law_most", "_law_turn", "_law_green", "_law_move"] "_law_goes_on" (defScope s_law_goes_on) f_ cdv_ A outer s_ H E).nox.prog (cxOf CX0 P w K mg base ["_law_pool_here", "_law_yard", "_law_row", "_law_dealing", "_law_engine", "_law_journal", "_law_stand", "_law_most", "_law_turn", "_law_green", "_law_move"] "_law_goes_on" (defScope s_law_goes_on) f_ cdv_ A outer s_ H E).nox.w (cxOf CX0 P w K mg base ["_law_pool_here", "_law_yard", "_law_row", "_law_dealing", "_law_engine", "_law_journal", "_law_stand", "_law_most", "_law_turn", "_law_green", "_law_move"] "_law_goes_on" (defScope s_law_goes_on) f_ cdv_ A outer s_ H E).nox.K (cxOf CX0 P w K mg base ["_law_pool_here", "_law_yard", "_law_row", "_law_dealing", "_law_engine", "_law_journal", "_law_stand", "_law_most", "_law_turn", "_law_green", "_law_move"] "_law_goes_on" (defScope s_law_goes_on) f_ cdv_ A outer s_ H E).nox.mg (cxOf CX0 P w K mg base ["_law_pool_here", "_law_yard", "_law_row", "_law_dealing", "_law_engine", "_law_journal", "_law_stand", "_law_most", "_law_turn", "_law_green", "_law_move"] "_law_goes_on" (defScope s_law_goes_on) f_ cdv_ A outer s_ H E).nox.base 2 "_law_lane_after" ["_law_yard", "_law_stand", "_law_move"] S_law_lane_after := D2
  have dD3 : DefOk (cxOf CX0 P w K mg base ["_law_pool_here", "_law_yard", "_law_row", "_law_dealing", "_law_engine", "_law_journal", "_law_stand", "_law_most", "_law_turn", "_law_green", "_law_move"] "_law_goes_on" (defScope s_law_goes_on) f_ cdv_ A outer s_ H E).nox.prog (cxOf CX0 P w K mg base ["_law_pool_here", "_law_yard", "_law_row", "_law_dealing", "_law_engine", "_law_journal", "_law_stand", "_law_most", "_law_turn", "_law_green", "_law_move"] "_law_goes_on" (defScope s_law_goes_on) f_ cdv_ A outer s_ H E).nox.w (cxOf CX0 P w K mg base ["_law_pool_here", "_law_yard", "_law_row", "_law_dealing", "_law_engine", "_law_journal", "_law_stand", "_law_most", "_law_turn", "_law_green", "_law_move"] "_law_goes_on" (defScope s_law_goes_on) f_ cdv_ A outer s_ H E).nox.K (cxOf CX0 P w K mg base ["_law_pool_here", "_law_yard", "_law_row", "_law_dealing", "_law_engine", "_law_journal", "_law_stand", "_law_most", "_law_turn", "_law_green", "_law_move"] "_law_goes_on" (defScope s_law_goes_on) f_ cdv_ A outer s_ H E).nox.mg (cxOf CX0 P w K mg base ["_law_pool_here", "_law_yard", "_law_row", "_law_dealing", "_law_engine", "_law_journal", "_law_stand", "_law_most", "_law_turn", "_law_green", "_law_move"] "_law_goes_on" (defScope s_law_goes_on) f_ cdv_ A outer s_ H E).nox.base 7 "replayed" ["yard", "row", "journal"] S_replayed := D3
  have dD4 : DefOk (cxOf CX0 P w K mg base ["_law_pool_here", "_law_yard", "_law_row", "_law_dealing", "_law_engine", "_law_journal", "_law_stand", "_law_most", "_law_turn", "_law_green", "_law_move"] "_law_goes_on" (defScope s_law_goes_on) f_ cdv_ A outer s_ H E).nox.prog (cxOf CX0 P w K mg base ["_law_pool_here", "_law_yard", "_law_row", "_law_dealing", "_law_engine", "_law_journal", "_law_stand", "_law_most", "_law_turn", "_law_green", "_law_move"] "_law_goes_on" (defScope s_law_goes_on) f_ cdv_ A outer s_ H E).nox.w (cxOf CX0 P w K mg base ["_law_pool_here", "_law_yard", "_law_row", "_law_dealing", "_law_engine", "_law_journal", "_law_stand", "_law_most", "_law_turn", "_law_green", "_law_move"] "_law_goes_on" (defScope s_law_goes_on) f_ cdv_ A outer s_ H E).nox.K (cxOf CX0 P w K mg base ["_law_pool_here", "_law_yard", "_law_row", "_law_dealing", "_law_engine", "_law_journal", "_law_stand", "_law_most", "_law_turn", "_law_green", "_law_move"] "_law_goes_on" (defScope s_law_goes_on) f_ cdv_ A outer s_ H E).nox.mg (cxOf CX0 P w K mg base ["_law_pool_here", "_law_yard", "_law_row", "_law_dealing", "_law_engine", "_law_journal", "_law_stand", "_law_most", "_law_turn", "_law_green", "_law_move"] "_law_goes_on" (defScope s_law_goes_on) f_ cdv_ A outer s_ H E).nox.base 2 "_law_pick" ["_law_pool_here", "_law_things"] S_law_pick := D4
  obtain ⟨p, y, r, d, c, e, s, j, n, rfl, k, hh, hn, hR⟩ := h
  walk_at "go"
  refine ⟨n, rfl, by omega, ?_⟩
  refine ⟨fun i ρ => ∃ s' j' c8 c9 c10, ρ = [some (.pool p), some (.dat (dY y)), some (.dat (dL r)), some (.dat (dL d)), some (.ins e (eng y (tks r d) s' j')), some (.dat (dJ j')), some (.dat (dS s')), some (.dat (dN n)), c8, c9, c10] ∧ Hist y r d j' s', ⟨s, j, none, none, none, rfl, hh⟩, fun i ρ2 hi hI => ?_, fun ρ2 hI => ?_⟩
  · obtain ⟨s', j', c8, c9, c10, rfl, h'⟩ := hI
    have h1 := h'.inv.shp k
    have h2 := h'.inv.tko k
    walk_at "go"
    refine ⟨y, r, d, s', rfl, k.yd, k.row, k.deal.len, h1, h2, ?_⟩
    walk_at "go"
    refine ⟨e, y, tks r d, s', j', rfl, k.yd, h1, h2, ?_⟩
    walk_at "go"
    refine Or.inl ⟨_, (cm_J _).shaped, rfl, rfl, ?_⟩
    refine okF ?_
    walk_at "go"
    refine ⟨e, y, tks r d, s', j', rfl, ?_⟩
    walk_at "go"
    refine ⟨e, y, tks r d, s', j', rfl, ?_⟩
    walk_at "go"
    refine Or.inl ⟨_, (cm_JS _ _).shaped, rfl, rfl, ?_⟩
    refine okF ?_
    walk_at "go"
    refine Or.inr ⟨cm_J _, cm_nil, fun t ht => ?_⟩
    have e0 := tEq ht jnil_iff
    by_cases hg : greens y (tks r d) s' = []
    · refine okTe (by rw [e0]; simp [hg]) ?_
      have eg := (h'.inv.goes k hg).2.2.2
      walk_at "go"
      refine ⟨e, y, tks r d, s', j', rfl, k.yd, h1, ?_⟩
      rw [home_iff k h'.inv, decide_eq_true eg]
      walk_at "go"
      refine Or.inl ⟨_, rfl, rfl, rfl, ?_⟩
      walk_at "go"
      refine okT ?_
      walk_at "go"
      refine Or.inl ⟨.int (r.length : Nat), rfl, by rw [← eg], by rw [List.length_map], ?_⟩
      exact ⟨by walk_at "bk", hR _ _⟩
    · refine okFe (by rw [e0]; simp [hg]) ?_
      walk_at "go"
      refine ⟨p, greens y (tks r d) s', rfl, hg, greens_z k.yd _ _, fun m hm => ?_⟩
      have h3 := h'.inv.can k hm
      have h4 := h'.z k
      walk_at "go"
      refine ⟨e, y, tks r d, s', j', m, rfl, k.yd, h1, h2, h3, hm, by omega, ?_⟩
      walk_at "go"
      refine js_par2 5 6 (by decide) ?_ rfl hN rfl rfl rfl rfl rfl rfl
      walk_at "go"
      refine ⟨by simp only [List.length_map, List.length_cons, List.length_nil]; omega, ?_⟩
      walk_at "go"
      refine ⟨y, s', m, rfl, k.yd, h1, h3, ?_⟩
      walk_at "go"
      refine exN2 rfl rfl ?_
      have ej : j'.map dM ++ [dM m] = (j' ++ [m]).map dM := by simp
      rw [ej]
      exact ⟨step y s' m, j' ++ [m], _, _, _, rfl, h'.snoc k hm⟩
  · obtain ⟨s', j', c8, c9, c10, rfl, h'⟩ := hI
    walk_at "go"
    refine ⟨e, y, tks r d, s', j', rfl, ?_⟩
    walk_at "go"
    refine ⟨e, y, tks r d, s', j', rfl, ?_⟩
    walk_at "go"
    refine Or.inl ⟨_, (cm_JS _ _).shaped, rfl, rfl, ?_⟩
    walk_at "go"
    refine okT ?_
    walk_at "go"
    refine ⟨y, r, j', rfl, k.yd, k.row, h'.all, ?_⟩
    rw [h'.play]
    walk_at "go"
    refine Or.inl ⟨_, (cm_S _).shaped, rfl, rfl, ?_⟩
    exact ⟨by walk_at "bk", hR _ _⟩

end
end
section
local macro_rules | `(tactic| walk_at "c") => `(tactic| first | refine exC rfl (celND rfl) ?_ | refine exC rfl (celND2 rfl (by decide)) ?_ | refine exAt rfl rfl ?_)
local macro_rules | `(tactic| walk_at "x") => `(tactic| (refine isN ?_; first | refine jn_cons ?_ rfl | refine jn_nil ?_))
local macro_rules | `(tactic| walk_at "e") => `(tactic| ((with_reducible refine isMc ?_); refine je_staticD (by assumption) (Room.mono (by assumption) (by decide)) ?_ rfl rfl rfl rfl))
section
variable {P : Program} {w : World} {K : PySem.W.Frag} {mg : Str → Option Value} {base : Heap}
def S_law_found_right : Spec := fun cs R => ∃ (p : Addr) (y : Yd) (r d c : List Nat) (jf : List Mv) (s : Sd) (j : List Mv) (n : Nat), cs = [.pool p, .dat (dY y), .dat (dL r), .dat (dL d), .dat (.tuple [dJ jf, dS s]), .dat (dJ j), .dat (dS s), .dat (dN n)] ∧ Sc y r d c ∧ Hist y r d j s ∧ AllCan y (beg y r) jf ∧ Opens y r jf s j ∧ n ≤ 1000 ∧ R cs (.dat (.bool true))
theorem sc_law_found_right : FnScope ["_law_pool_here", "_law_yard", "_law_row", "_law_dealing", "_law_found", "_law_journal", "_law_stand", "_law_most", "_law_engine"] ["_law_pool_here", "_law_yard", "_law_row", "_law_dealing", "_law_found", "_law_journal", "_law_stand", "_law_most"] (defScope s_law_found_right) := ⟨rfl, rfl, rfl, by decide +kernel, rfl, by decide +kernel, by decide +kernel⟩
theorem ok_law_found_right (g : GD K mg "_law_found_right" s_law_found_right) (D1 : DefOk P w K mg base 8 "opened" ["yard", "row", "journal", "stand"] S_opened) (M1 : StaOk P w K mg base 9 "again" ["yard", "row", "dealing", "journal", "stand"] S_Engine_again) (D2 : DefOk P w K mg base 8 "_law_goes_on" ["_law_pool_here", "_law_yard", "_law_row", "_law_dealing", "_law_engine", "_law_journal", "_law_stand", "_law_most"] S_law_goes_on) : DefOk P w K mg base 10 "_law_found_right" ["_law_pool_here", "_law_yard", "_law_row", "_law_dealing", "_law_found", "_law_journal", "_law_stand", "_law_most"] S_law_found_right := by
  refine defD g sc_law_found_right (by decide) (fun _ _ _ _ _ _ us hl => match us, hl with | [_, _, _, _, _, _, _, _], _ => rfl) (fun cs R h => ?_) fun f_ cdv_ A outer s_ H E cs R hr h => ?_
  · obtain ⟨p, y, r, d, c, jf, s, j, n, rfl, _⟩ := h
    rfl
  have hN : (["_law_pool_here", "_law_yard", "_law_row", "_law_dealing", "_law_found", "_law_journal", "_law_stand", "_law_most", "_law_engine"] : List Str).Nodup := by decide +kernel
  have nm0 : NmOk (cxOf CX0 P w K mg base ["_law_pool_here", "_law_yard", "_law_row", "_law_dealing", "_law_found", "_law_journal", "_law_stand", "_law_most", "_law_engine"] "_law_found_right" (defScope s_law_found_right) f_ cdv_ A outer s_ H E).nox 0 "_law_pool_here" := ⟨rfl, by first | exact Or.inl rfl | exact Or.inr (Or.inl rfl) | exact Or.inr (Or.inr rfl), by decide, by decide⟩
  have lc0 : LcOk (cxOf CX0 P w K mg base ["_law_pool_here", "_law_yard", "_law_row", "_law_dealing", "_law_found", "_law_journal", "_law_stand", "_law_most", "_law_engine"] "_law_found_right" (defScope s_law_found_right) f_ cdv_ A outer s_ H E).nox 0 "_law_pool_here" := ⟨rfl, by first | exact Or.inl rfl | exact Or.inr rfl, by first | exact Or.inl rfl | exact Or.inr rfl⟩
  have nm1 : NmOk (cxOf CX0 P w K mg base ["_law_pool_here", "_law_yard", "_law_row", "_law_dealing", "_law_found", "_law_journal", "_law_stand", "_law_most", "_law_engine"] "_law_found_right" (defScope s_law_found_right) f_ cdv_ A outer s_ H E).nox 1 "_law_yard" := ⟨rfl, by first | exact Or.inl rfl | exact Or.inr (Or.inl rfl) | exact Or.inr (Or.inr rfl), by decide, by decide⟩
  have lc1 : LcOk (cxOf CX0 P w K mg base ["_law_pool_here", "_law_yard", "_law_row", "_law_dealing", "_law_found", "_law_journal", "_law_stand", "_law_most", "_law_engine"] "_law_found_right" (defScope s_law_found_right) f_ cdv_ A outer s_ H E).nox 1 "_law_yard" := ⟨rfl, by first | exact Or.inl rfl | exact Or.inr rfl, by first | exact Or.inl rfl | exact Or.inr rfl⟩
  have nm2 : NmOk (cxOf CX0 P w K mg base ["_law_pool_here", "_law_yard", "_law_row", "_law_dealing", "_law_found", "_law_journal", "_law_stand", "_law_most", "_law_engine"] "_law_found_right" (defScope s_law_found_right) f_ cdv_ A outer s_ H E).nox 2 "_law_row" := ⟨rfl, by first | exact Or.inl rfl | exact Or.inr (Or.inl rfl) | exact Or.inr (Or.inr rfl), by decide, by decide⟩
  have lc2 : LcOk (cxOf CX0 P w K mg base ["_law_pool_here", "_law_yard", "_law_row", "_law_dealing", "_law_found", "_law_journal", "_law_stand", "_law_most", "_law_engine"] "_law_found_right" (defScope s_law_found_right) f_ cdv_ A outer s_ H E).nox 2 "_law_row" := ⟨rfl, by first | exact Or.inl rfl | exact Or.inr rfl, by first | exact Or.inl rfl | exact Or.inr rfl⟩
  have nm3 : NmOk (cxOf CX0 P w K mg base ["_law_pool_here", "_law_yard", "_law_row", "_law_dealing", "_law_found", "_law_journal", "_law_stand", "_law_most", "_law_engine"] "_law_found_right" (defScope s_law_found_right) f_ cdv_ A outer s_ H E).nox 3 "_law_dealing" := ⟨rfl, by first | exact Or.inl rfl | exact Or.inr (Or.inl rfl) | exact Or.inr (Or.inr rfl), by decide, by decide⟩
  have lc3 : LcOk (cxOf CX0 P w K mg base ["_law_pool_here", "_law_yard", "_law_row", "_law_dealing", "_law_found", "_law_journal", "_law_stand", "_law_most", "_law_engine"] "_law_found_right" (defScope s_law_found_right) f_ cdv_ A outer s_ H E).nox 3 "_law_dealing" := ⟨rfl, by first | exact Or.inl rfl | exact Or.inr rfl, by first | exact Or.inl rfl | exact Or.inr rfl⟩
  have nm4 : NmOk (cxOf CX0 P w K mg base ["_law_pool_here", "_law_yard", "_law_row", "_law_dealing", "_law_found", "_law_journal", "_law_stand", "_law_most", "_law_engine"] "_law_found_right" (defScope s_law_found_right) f_ cdv_ A outer s_ H E).nox 4 "_law_found" := ⟨rfl, by first | exact Or.inl rfl | exact Or.inr (Or.inl rfl) | exact Or.inr (Or.inr rfl), by decide, by decide⟩
  have lc4 : LcOk (cxOf CX0 P w K mg base ["_law_pool_here", "_law_yard", "_law_row", "_law_dealing", "_law_found", "_law_journal", "_law_stand", "_law_most", "_law_engine"] "_law_found_right" (defScope s_law_found_right) f_ cdv_ A outer s_ H E).nox 4 "_law_found" := ⟨rfl, by first | exact Or.inl rfl | exact Or.inr rfl, by first | exact Or.inl rfl | exact Or.inr rfl⟩
  have nm5 : NmOk (cxOf CX0 P w K mg base ["_law_pool_here", "_law_yard", "_law_row", "_law_dealing", "_law_found", "_law_journal", "_law_stand", "_law_most", "_law_engine"] "_law_found_right" (defScope s_law_found_right) f_ cdv_ A outer s_ H E).nox 5 "_law_journal" := ⟨rfl, by first | exact Or.inl rfl | exact Or.inr (Or.inl rfl) | exact Or.inr (Or.inr rfl), by decide, by decide⟩
  have lc5 : LcOk (cxOf CX0 P w K mg base ["_law_pool_here", "_law_yard", "_law_row", "_law_dealing", "_law_found", "_law_journal", "_law_stand", "_law_most", "_law_engine"] "_law_found_right" (defScope s_law_found_right) f_ cdv_ A outer s_ H E).nox 5 "_law_journal" := ⟨rfl, by first | exact Or.inl rfl | exact Or.inr rfl, by first | exact Or.inl rfl | exact Or.inr rfl⟩
  have nm6 : NmOk (cxOf CX0 P w K mg base ["_law_pool_here", "_law_yard", "_law_row", "_law_dealing", "_law_found", "_law_journal", "_law_stand", "_law_most", "_law_engine"] "_law_found_right" (defScope s_law_found_right) f_ cdv_ A outer s_ H E).nox 6 "_law_stand" := ⟨rfl, by first | exact Or.inl rfl | exact Or.inr (Or.inl rfl) | exact Or.inr (Or.inr rfl), by decide, by decide⟩
  have lc6 : LcOk (cxOf CX0 P w K mg base ["_law_pool_here", "_law_yard", "_law_row", "_law_dealing", "_law_found", "_law_journal", "_law_stand", "_law_most", "_law_engine"] "_law_found_right" (defScope s_law_found_right) f_ cdv_ A outer s_ H E).nox 6 "_law_stand" := ⟨rfl, by first | exact Or.inl rfl | exact Or.inr rfl, by first | exact Or.inl rfl | exact Or.inr rfl⟩
  have nm7 : NmOk (cxOf CX0 P w K mg base ["_law_pool_here", "_law_yard", "_law_row", "_law_dealing", "_law_found", "_law_journal", "_law_stand", "_law_most", "_law_engine"] "_law_found_right" (defScope s_law_found_right) f_ cdv_ A outer s_ H E).nox 7 "_law_most" := ⟨rfl, by first | exact Or.inl rfl | exact Or.inr (Or.inl rfl) | exact Or.inr (Or.inr rfl), by decide, by decide⟩
  have lc7 : LcOk (cxOf CX0 P w K mg base ["_law_pool_here", "_law_yard", "_law_row", "_law_dealing", "_law_found", "_law_journal", "_law_stand", "_law_most", "_law_engine"] "_law_found_right" (defScope s_law_found_right) f_ cdv_ A outer s_ H E).nox 7 "_law_most" := ⟨rfl, by first | exact Or.inl rfl | exact Or.inr rfl, by first | exact Or.inl rfl | exact Or.inr rfl⟩
  have nm8 : NmOk (cxOf CX0 P w K mg base ["_law_pool_here", "_law_yard", "_law_row", "_law_dealing", "_law_found", "_law_journal", "_law_stand", "_law_most", "_law_engine"] "_law_found_right" (defScope s_law_found_right) f_ cdv_ A outer s_ H E).nox 8 "_law_engine" := ⟨rfl, by first | exact Or.inl rfl | exact Or.inr (Or.inl rfl) | exact Or.inr (Or.inr rfl), by decide, by decide⟩
  have lc8 : LcOk (cxOf CX0 P w K mg base ["_law_pool_here", "_law_yard", "_law_row", "_law_dealing", "_law_found", "_law_journal", "_law_stand", "_law_most", "_law_engine"] "_law_found_right" (defScope s_law_found_right) f_ cdv_ A outer s_ H E).nox 8 "_law_engine" := ⟨rfl, by first | exact Or.inl rfl | exact Or.inr rfl, by first | exact Or.inl rfl | exact Or.inr rfl⟩
  have dD1 : DefOk (cxOf CX0 P w K mg base ["_law_pool_here", "_law_yard", "_law_row", "_law_dealing", "_law_found", "_law_journal", "_law_stand", "_law_most", "_law_engine"] "_law_found_right" (defScope s_law_found_right) f_ cdv_ A outer s_ H E).nox.prog (cxOf CX0 P w K mg base ["_law_pool_here", "_law_yard", "_law_row", "_law_dealing", "_law_found", "_law_journal", "_law_stand", "_law_most", "_law_engine"] "_law_found_right" (defScope s_law_found_right) f_ cdv_ A outer s_ H E).nox.w (cxOf CX0 P w K mg base ["_law_pool_here", "_law_yard", "_law_row", "_law_dealing", "_law_found", "_law_journal", "_law_stand", "_law_most", "_law_engine"] "_law_found_right" (defScope s_law_found_right) f_ cdv_ A outer s_ H E).nox.K (cxOf CX0 P w K mg base ["_law_pool_here", "_law_yard", "_law_row", "_law_dealing", "_law_found", "_law_journal", "_law_stand", "_law_most", "_law_engine"] "_law_found_right" (defScope s_law_found_right) f_ cdv_ A outer s_ H E).nox.mg (cxOf CX0 P w K mg base ["_law_pool_here", "_law_yard", "_law_row", "_law_dealing", "_law_found", "_law_journal", "_law_stand", "_law_most", "_law_engine"] "_law_found_right" (defScope s_law_found_right) f_ cdv_ A outer s_ H E).nox.base 8 "opened" ["yard", "row", "journal", "stand"] S_opened := D1
  have dD2 : DefOk (cxOf CX0 P w K mg base ["_law_pool_here", "_law_yard", "_law_row", "_law_dealing", "_law_found", "_law_journal", "_law_stand", "_law_most", "_law_engine"] "_law_found_right" (defScope s_law_found_right) f_ cdv_ A outer s_ H E).nox.prog (cxOf CX0 P w K mg base ["_law_pool_here", "_law_yard", "_law_row", "_law_dealing", "_law_found", "_law_journal", "_law_stand", "_law_most", "_law_engine"] "_law_found_right" (defScope s_law_found_right) f_ cdv_ A outer s_ H E).nox.w (cxOf CX0 P w K mg base ["_law_pool_here", "_law_yard", "_law_row", "_law_dealing", "_law_found", "_law_journal", "_law_stand", "_law_most", "_law_engine"] "_law_found_right" (defScope s_law_found_right) f_ cdv_ A outer s_ H E).nox.K (cxOf CX0 P w K mg base ["_law_pool_here", "_law_yard", "_law_row", "_law_dealing", "_law_found", "_law_journal", "_law_stand", "_law_most", "_law_engine"] "_law_found_right" (defScope s_law_found_right) f_ cdv_ A outer s_ H E).nox.mg (cxOf CX0 P w K mg base ["_law_pool_here", "_law_yard", "_law_row", "_law_dealing", "_law_found", "_law_journal", "_law_stand", "_law_most", "_law_engine"] "_law_found_right" (defScope s_law_found_right) f_ cdv_ A outer s_ H E).nox.base 8 "_law_goes_on" ["_law_pool_here", "_law_yard", "_law_row", "_law_dealing", "_law_engine", "_law_journal", "_law_stand", "_law_most"] S_law_goes_on := D2
  obtain ⟨p, y, r, d, c, jf, s, j, n, rfl, k, hh, ha, ho, hn, hR⟩ := h
  walk_at "go"
  refine ⟨y, r, jf, s, j, rfl, k.yd, k.row, ha, hh.inv.st, ho, ?_⟩
  walk_at "go"
  refine Or.inl ⟨_, (cm_J _).shaped, rfl, rfl, ?_⟩
  refine okF ?_
  walk_at "go"
  refine Or.inl ⟨_, (cm_S _).shaped, rfl, rfl, ?_⟩
  refine okF ?_
  walk_at "go"
  refine ⟨y, r, d, jf, s, j, rfl, k.yd, k.row, k.deal, ha, hh.inv.st, ho, fun e => ?_⟩
  walk_at "go"
  refine ⟨p, y, r, d, c, e, s, j, n, rfl, k, hh, hn, fun s' j' => ?_⟩
  exact ⟨by walk_at "bk", hR⟩

end
end
section
local macro_rules | `(tactic| walk_at "c") => `(tactic| first | refine exC rfl (celND rfl) ?_ | refine exC rfl (celND2 rfl (by decide)) ?_)
local macro_rules | `(tactic| walk_at "x") => `(tactic| (refine isN ?_; first | refine jn_cons ?_ rfl | refine jn_nil ?_))
local macro_rules | `(tactic| walk_at "e") => `(tactic| ((with_reducible refine isMc ?_); first | refine je_meth0D 8 (by assumption) (by assumption) (Room.mono (by assumption) (by decide)) rfl rfl ?_ rfl (by first | exact Or.inl rfl | exact Or.inr (Or.inl rfl) | exact Or.inr (Or.inr rfl)) (by decide) (by decide) rfl | refine je_methD 8 (by assumption) (by assumption) (Room.mono (by assumption) (by decide)) rfl rfl ?_ rfl (by first | exact Or.inl rfl | exact Or.inr (Or.inl rfl) | exact Or.inr (Or.inr rfl)) (by decide) (by decide) rfl rfl rfl))
local macro_rules | `(tactic| walk_at "e") => `(tactic| ((with_reducible refine isSb ?_); refine je_pool0 1 rfl (by first | exact Or.inl rfl | exact Or.inr (Or.inl rfl) | exact Or.inr (Or.inr rfl)) (by decide) (by decide) rfl (fun a => ?_) (fun _ _ => rfl)))
section
variable {P : Program} {w : World} {K : PySem.W.Frag} {mg : Str → Option Value} {base : Heap}
theorem sh_JSB (j : List Mv) (s : Sd) (b : Bool) : SeqAt.shaped (.tuple [dJ j, dS s, .bool b]) = true := by
  have h1 := good_lay _ (good_J j)
  have h2 := good_lay _ (good_S s)
  have h3 := dep_J j
  have h4 := dep_S s
  unfold SeqAt.shaped
  rw [Bool.and_eq_true, decide_eq_true_eq]
  refine ⟨?_, ?_⟩
  · simp only [PyData.canLay0, PyData.canLayAll0, Bool.and_true] at h1 h2 ⊢
    rw [h1, h2]
    rfl
  · simp only [PyData.depth, PyData.depthAll] at h3 h4 ⊢
    omega
def S_law : Spec := fun cs R => ∃ ns : List Int, cs = [.dat (.list (ns.map .int))] ∧ R cs (.dat (.bool true))
theorem sc_law : FnScope ["_law_script", "_law_pool_here", "_law_yard", "_law_row", "_law_dealing", "_law_picks", "_law_moves", "_law_last", "_law_engine", "_law_journal", "_law_stand", "_law_far", "_law_at", "_law_move", "_law_most", "_law_after", "_law_turn"] ["_law_script"] (defScope s_law) := ⟨rfl, rfl, rfl, by decide +kernel, rfl, by decide +kernel, by decide +kernel⟩
theorem ok_law {fd : FuncData} (g : Fun K "law" "law" s_law (He.ga K "law") fd) (m1 : mg "len" = none) (m2 : mg "range" = none) (m3 : mg "tuple" = none) (m4 : mg "enumerate" = none) (cl : Cls K (engC K)) (D1 : DefOk P w K mg base 1 "_law_pool" ["_law_script"] S_law_pool) (D2 : DefOk P w K mg base 4 "_law_lane_home_scene" ["_law_pool_here", "_law_lanes", "_law_most", "_law_wagons"] S_law_lane_home_scene) (D3 : DefOk P w K mg base 1 "_law_draw" ["_law_pool_here", "_law_many"] S_law_draw) (D4 : DefOk P w K mg base 6 "run" ["yard", "row", "dealing", "picks"] S_run) (D5 : DefOk P w K mg base 3 "_law_lane_run" ["_law_yard", "_law_row", "_law_dealing", "_law_stand", "_law_picks"] S_law_lane_run) (D6 : DefOk P w K mg base 1 "_law_lane_begun" ["_law_yard", "_law_row"] S_law_lane_begun) (D7 : DefOk P w K mg base 1 "all_home" ["stand"] S_all_home) (D8 : DefOk P w K mg base 10 "_law_found_right" ["_law_pool_here", "_law_yard", "_law_row", "_law_dealing", "_law_found", "_law_journal", "_law_stand", "_law_most"] S_law_found_right) (D9 : DefOk P w K mg base 2 "_law_lane_after" ["_law_yard", "_law_stand", "_law_move"] S_law_lane_after) (I1 : MkOk P w K mg base 6 ["self", "yard", "row", "dealing"] S_Engine_init) (M1 : MetOk P w K mg base 3 "greens" ["self"] S_Engine_greens) (M2 : MetOk P w K mg base 1 "journal" ["self"] S_Engine_journal) (M3 : MetOk P w K mg base 1 "stand" ["self"] S_Engine_stand) (M4 : MetOk P w K mg base 2 "home" ["self"] S_Engine_home) (M5 : MetOk P w K mg base 6 "do" ["self", "move"] S_Engine_do) (M6 : MetOk P w K mg base 6 "cut" ["self", "move", "done"] S_Engine_cut) : FnOk P w K mg base CX0 11 (He.ga K "law") fd ["_law_script"] (spOf K S_law) := by
  refine def_ok g sc_law (by decide) (fun cs R h => ?_) fun cdv_ A outer s_ H E cs R hr h => ?_
  · obtain ⟨ns, rfl, _⟩ := h
    rfl
  have hN : (["_law_script", "_law_pool_here", "_law_yard", "_law_row", "_law_dealing", "_law_picks", "_law_moves", "_law_last", "_law_engine", "_law_journal", "_law_stand", "_law_far", "_law_at", "_law_move", "_law_most", "_law_after", "_law_turn"] : List Str).Nodup := by decide +kernel
  have nm0 : NmOk (cxOf CX0 P w K mg base ["_law_script", "_law_pool_here", "_law_yard", "_law_row", "_law_dealing", "_law_picks", "_law_moves", "_law_last", "_law_engine", "_law_journal", "_law_stand", "_law_far", "_law_at", "_law_move", "_law_most", "_law_after", "_law_turn"] "law" (defScope s_law) (He.ga K "law") cdv_ A outer s_ H E).nox 0 "_law_script" := ⟨rfl, by first | exact Or.inl rfl | exact Or.inr (Or.inl rfl) | exact Or.inr (Or.inr rfl), by decide, by decide⟩
  have lc0 : LcOk (cxOf CX0 P w K mg base ["_law_script", "_law_pool_here", "_law_yard", "_law_row", "_law_dealing", "_law_picks", "_law_moves", "_law_last", "_law_engine", "_law_journal", "_law_stand", "_law_far", "_law_at", "_law_move", "_law_most", "_law_after", "_law_turn"] "law" (defScope s_law) (He.ga K "law") cdv_ A outer s_ H E).nox 0 "_law_script" := ⟨rfl, by first | exact Or.inl rfl | exact Or.inr rfl, by first | exact Or.inl rfl | exact Or.inr rfl⟩
  have nm1 : NmOk (cxOf CX0 P w K mg base ["_law_script", "_law_pool_here", "_law_yard", "_law_row", "_law_dealing", "_law_picks", "_law_moves", "_law_last", "_law_engine", "_law_journal", "_law_stand", "_law_far", "_law_at", "_law_move", "_law_most", "_law_after", "_law_turn"] "law" (defScope s_law) (He.ga K "law") cdv_ A outer s_ H E).nox 1 "_law_pool_here" := ⟨rfl, by first | exact Or.inl rfl | exact Or.inr (Or.inl rfl) | exact Or.inr (Or.inr rfl), by decide, by decide⟩
  have lc1 : LcOk (cxOf CX0 P w K mg base ["_law_script", "_law_pool_here", "_law_yard", "_law_row", "_law_dealing", "_law_picks", "_law_moves", "_law_last", "_law_engine", "_law_journal", "_law_stand", "_law_far", "_law_at", "_law_move", "_law_most", "_law_after", "_law_turn"] "law" (defScope s_law) (He.ga K "law") cdv_ A outer s_ H E).nox 1 "_law_pool_here" := ⟨rfl, by first | exact Or.inl rfl | exact Or.inr rfl, by first | exact Or.inl rfl | exact Or.inr rfl⟩
  have nm2 : NmOk (cxOf CX0 P w K mg base ["_law_script", "_law_pool_here", "_law_yard", "_law_row", "_law_dealing", "_law_picks", "_law_moves", "_law_last", "_law_engine", "_law_journal", "_law_stand", "_law_far", "_law_at", "_law_move", "_law_most", "_law_after", "_law_turn"] "law" (defScope s_law) (He.ga K "law") cdv_ A outer s_ H E).nox 2 "_law_yard" := ⟨rfl, by first | exact Or.inl rfl | exact Or.inr (Or.inl rfl) | exact Or.inr (Or.inr rfl), by decide, by decide⟩
  have lc2 : LcOk (cxOf CX0 P w K mg base ["_law_script", "_law_pool_here", "_law_yard", "_law_row", "_law_dealing", "_law_picks", "_law_moves", "_law_last", "_law_engine", "_law_journal", "_law_stand", "_law_far", "_law_at", "_law_move", "_law_most", "_law_after", "_law_turn"] "law" (defScope s_law) (He.ga K "law") cdv_ A outer s_ H E).nox 2 "_law_yard" := ⟨rfl, by first | exact Or.inl rfl | exact Or.inr rfl, by first | exact Or.inl rfl | exact Or.inr rfl⟩
  have nm3 : NmOk (cxOf CX0 P w K mg base ["_law_script", "_law_pool_here", "_law_yard", "_law_row", "_law_dealing", "_law_picks", "_law_moves", "_law_last", "_law_engine", "_law_journal", "_law_stand", "_law_far", "_law_at", "_law_move", "_law_most", "_law_after", "_law_turn"] "law" (defScope s_law) (He.ga K "law") cdv_ A outer s_ H E).nox 3 "_law_row" := ⟨rfl, by first | exact Or.inl rfl | exact Or.inr (Or.inl rfl) | exact Or.inr (Or.inr rfl), by decide, by decide⟩
  have lc3 : LcOk (cxOf CX0 P w K mg base ["_law_script", "_law_pool_here", "_law_yard", "_law_row", "_law_dealing", "_law_picks", "_law_moves", "_law_last", "_law_engine", "_law_journal", "_law_stand", "_law_far", "_law_at", "_law_move", "_law_most", "_law_after", "_law_turn"] "law" (defScope s_law) (He.ga K "law") cdv_ A outer s_ H E).nox 3 "_law_row" := ⟨rfl, by first | exact Or.inl rfl | exact Or.inr rfl, by first | exact Or.inl rfl | exact Or.inr rfl⟩
  have nm4 : NmOk (cxOf CX0 P w K mg base ["_law_script", "_law_pool_here", "_law_yard", "_law_row", "_law_dealing", "_law_picks", "_law_moves", "_law_last", "_law_engine", "_law_journal", "_law_stand", "_law_far", "_law_at", "_law_move", "_law_most", "_law_after", "_law_turn"] "law" (defScope s_law) (He.ga K "law") cdv_ A outer s_ H E).nox 4 "_law_dealing" := ⟨rfl, by first | exact Or.inl rfl | exact Or.inr (Or.inl rfl) | exact Or.inr (Or.inr rfl), by decide, by decide⟩
  have lc4 : LcOk (cxOf CX0 P w K mg base ["_law_script", "_law_pool_here", "_law_yard", "_law_row", "_law_dealing", "_law_picks", "_law_moves", "_law_last", "_law_engine", "_law_journal", "_law_stand", "_law_far", "_law_at", "_law_move", "_law_most", "_law_after", "_law_turn"] "law" (defScope s_law) (He.ga K "law") cdv_ A outer s_ H E).nox 4 "_law_dealing" := ⟨rfl, by first | exact Or.inl rfl | exact Or.inr rfl, by first | exact Or.inl rfl | exact Or.inr rfl⟩
  have nm5 : NmOk (cxOf CX0 P w K mg base ["_law_script", "_law_pool_here", "_law_yard", "_law_row", "_law_dealing", "_law_picks", "_law_moves", "_law_last", "_law_engine", "_law_journal", "_law_stand", "_law_far", "_law_at", "_law_move", "_law_most", "_law_after", "_law_turn"] "law" (defScope s_law) (He.ga K "law") cdv_ A outer s_ H E).nox 5 "_law_picks" := ⟨rfl, by first | exact Or.inl rfl | exact Or.inr (Or.inl rfl) | exact Or.inr (Or.inr rfl), by decide, by decide⟩
  have lc5 : LcOk (cxOf CX0 P w K mg base ["_law_script", "_law_pool_here", "_law_yard", "_law_row", "_law_dealing", "_law_picks", "_law_moves", "_law_last", "_law_engine", "_law_journal", "_law_stand", "_law_far", "_law_at", "_law_move", "_law_most", "_law_after", "_law_turn"] "law" (defScope s_law) (He.ga K "law") cdv_ A outer s_ H E).nox 5 "_law_picks" := ⟨rfl, by first | exact Or.inl rfl | exact Or.inr rfl, by first | exact Or.inl rfl | exact Or.inr rfl⟩
  have nm6 : NmOk (cxOf CX0 P w K mg base ["_law_script", "_law_pool_here", "_law_yard", "_law_row", "_law_dealing", "_law_picks", "_law_moves", "_law_last", "_law_engine", "_law_journal", "_law_stand", "_law_far", "_law_at", "_law_move", "_law_most", "_law_after", "_law_turn"] "law" (defScope s_law) (He.ga K "law") cdv_ A outer s_ H E).nox 6 "_law_moves" := ⟨rfl, by first | exact Or.inl rfl | exact Or.inr (Or.inl rfl) | exact Or.inr (Or.inr rfl), by decide, by decide⟩
  have lc6 : LcOk (cxOf CX0 P w K mg base ["_law_script", "_law_pool_here", "_law_yard", "_law_row", "_law_dealing", "_law_picks", "_law_moves", "_law_last", "_law_engine", "_law_journal", "_law_stand", "_law_far", "_law_at", "_law_move", "_law_most", "_law_after", "_law_turn"] "law" (defScope s_law) (He.ga K "law") cdv_ A outer s_ H E).nox 6 "_law_moves" := ⟨rfl, by first | exact Or.inl rfl | exact Or.inr rfl, by first | exact Or.inl rfl | exact Or.inr rfl⟩
  have nm7 : NmOk (cxOf CX0 P w K mg base ["_law_script", "_law_pool_here", "_law_yard", "_law_row", "_law_dealing", "_law_picks", "_law_moves", "_law_last", "_law_engine", "_law_journal", "_law_stand", "_law_far", "_law_at", "_law_move", "_law_most", "_law_after", "_law_turn"] "law" (defScope s_law) (He.ga K "law") cdv_ A outer s_ H E).nox 7 "_law_last" := ⟨rfl, by first | exact Or.inl rfl | exact Or.inr (Or.inl rfl) | exact Or.inr (Or.inr rfl), by decide, by decide⟩
  have lc7 : LcOk (cxOf CX0 P w K mg base ["_law_script", "_law_pool_here", "_law_yard", "_law_row", "_law_dealing", "_law_picks", "_law_moves", "_law_last", "_law_engine", "_law_journal", "_law_stand", "_law_far", "_law_at", "_law_move", "_law_most", "_law_after", "_law_turn"] "law" (defScope s_law) (He.ga K "law") cdv_ A outer s_ H E).nox 7 "_law_last" := ⟨rfl, by first | exact Or.inl rfl | exact Or.inr rfl, by first | exact Or.inl rfl | exact Or.inr rfl⟩
  have nm8 : NmOk (cxOf CX0 P w K mg base ["_law_script", "_law_pool_here", "_law_yard", "_law_row", "_law_dealing", "_law_picks", "_law_moves", "_law_last", "_law_engine", "_law_journal", "_law_stand", "_law_far", "_law_at", "_law_move", "_law_most", "_law_after", "_law_turn"] "law" (defScope s_law) (He.ga K "law") cdv_ A outer s_ H E).nox 8 "_law_engine" := ⟨rfl, by first | exact Or.inl rfl | exact Or.inr (Or.inl rfl) | exact Or.inr (Or.inr rfl), by decide, by decide⟩
  have lc8 : LcOk (cxOf CX0 P w K mg base ["_law_script", "_law_pool_here", "_law_yard", "_law_row", "_law_dealing", "_law_picks", "_law_moves", "_law_last", "_law_engine", "_law_journal", "_law_stand", "_law_far", "_law_at", "_law_move", "_law_most", "_law_after", "_law_turn"] "law" (defScope s_law) (He.ga K "law") cdv_ A outer s_ H E).nox 8 "_law_engine" := ⟨rfl, by first | exact Or.inl rfl | exact Or.inr rfl, by first | exact Or.inl rfl | exact Or.inr rfl⟩
  have nm9 : NmOk (cxOf CX0 P w K mg base ["_law_script", "_law_pool_here", "_law_yard", "_law_row", "_law_dealing", "_law_picks", "_law_moves", "_law_last", "_law_engine", "_law_journal", "_law_stand", "_law_far", "_law_at", "_law_move", "_law_most", "_law_after", "_law_turn"] "law" (defScope s_law) (He.ga K "law") cdv_ A outer s_ H E).nox 9 "_law_journal" := ⟨rfl, by first | exact Or.inl rfl | exact Or.inr (Or.inl rfl) | exact Or.inr (Or.inr rfl), by decide, by decide⟩
  have lc9 : LcOk (cxOf CX0 P w K mg base ["_law_script", "_law_pool_here", "_law_yard", "_law_row", "_law_dealing", "_law_picks", "_law_moves", "_law_last", "_law_engine", "_law_journal", "_law_stand", "_law_far", "_law_at", "_law_move", "_law_most", "_law_after", "_law_turn"] "law" (defScope s_law) (He.ga K "law") cdv_ A outer s_ H E).nox 9 "_law_journal" := ⟨rfl, by first | exact Or.inl rfl | exact Or.inr rfl, by first | exact Or.inl rfl | exact Or.inr rfl⟩
  have nm10 : NmOk (cxOf CX0 P w K mg base ["_law_script", "_law_pool_here", "_law_yard", "_law_row", "_law_dealing", "_law_picks", "_law_moves", "_law_last", "_law_engine", "_law_journal", "_law_stand", "_law_far", "_law_at", "_law_move", "_law_most", "_law_after", "_law_turn"] "law" (defScope s_law) (He.ga K "law") cdv_ A outer s_ H E).nox 10 "_law_stand" := ⟨rfl, by first | exact Or.inl rfl | exact Or.inr (Or.inl rfl) | exact Or.inr (Or.inr rfl), by decide, by decide⟩
  have lc10 : LcOk (cxOf CX0 P w K mg base ["_law_script", "_law_pool_here", "_law_yard", "_law_row", "_law_dealing", "_law_picks", "_law_moves", "_law_last", "_law_engine", "_law_journal", "_law_stand", "_law_far", "_law_at", "_law_move", "_law_most", "_law_after", "_law_turn"] "law" (defScope s_law) (He.ga K "law") cdv_ A outer s_ H E).nox 10 "_law_stand" := ⟨rfl, by first | exact Or.inl rfl | exact Or.inr rfl, by first | exact Or.inl rfl | exact Or.inr rfl⟩
  have nm11 : NmOk (cxOf CX0 P w K mg base ["_law_script", "_law_pool_here", "_law_yard", "_law_row", "_law_dealing", "_law_picks", "_law_moves", "_law_last", "_law_engine", "_law_journal", "_law_stand", "_law_far", "_law_at", "_law_move", "_law_most", "_law_after", "_law_turn"] "law" (defScope s_law) (He.ga K "law") cdv_ A outer s_ H E).nox 11 "_law_far" := ⟨rfl, by first | exact Or.inl rfl | exact Or.inr (Or.inl rfl) | exact Or.inr (Or.inr rfl), by decide, by decide⟩
  have lc11 : LcOk (cxOf CX0 P w K mg base ["_law_script", "_law_pool_here", "_law_yard", "_law_row", "_law_dealing", "_law_picks", "_law_moves", "_law_last", "_law_engine", "_law_journal", "_law_stand", "_law_far", "_law_at", "_law_move", "_law_most", "_law_after", "_law_turn"] "law" (defScope s_law) (He.ga K "law") cdv_ A outer s_ H E).nox 11 "_law_far" := ⟨rfl, by first | exact Or.inl rfl | exact Or.inr rfl, by first | exact Or.inl rfl | exact Or.inr rfl⟩
  have nm12 : NmOk (cxOf CX0 P w K mg base ["_law_script", "_law_pool_here", "_law_yard", "_law_row", "_law_dealing", "_law_picks", "_law_moves", "_law_last", "_law_engine", "_law_journal", "_law_stand", "_law_far", "_law_at", "_law_move", "_law_most", "_law_after", "_law_turn"] "law" (defScope s_law) (He.ga K "law") cdv_ A outer s_ H E).nox 12 "_law_at" := ⟨rfl, by first | exact Or.inl rfl | exact Or.inr (Or.inl rfl) | exact Or.inr (Or.inr rfl), by decide, by decide⟩
  have lc12 : LcOk (cxOf CX0 P w K mg base ["_law_script", "_law_pool_here", "_law_yard", "_law_row", "_law_dealing", "_law_picks", "_law_moves", "_law_last", "_law_engine", "_law_journal", "_law_stand", "_law_far", "_law_at", "_law_move", "_law_most", "_law_after", "_law_turn"] "law" (defScope s_law) (He.ga K "law") cdv_ A outer s_ H E).nox 12 "_law_at" := ⟨rfl, by first | exact Or.inl rfl | exact Or.inr rfl, by first | exact Or.inl rfl | exact Or.inr rfl⟩
  have nm13 : NmOk (cxOf CX0 P w K mg base ["_law_script", "_law_pool_here", "_law_yard", "_law_row", "_law_dealing", "_law_picks", "_law_moves", "_law_last", "_law_engine", "_law_journal", "_law_stand", "_law_far", "_law_at", "_law_move", "_law_most", "_law_after", "_law_turn"] "law" (defScope s_law) (He.ga K "law") cdv_ A outer s_ H E).nox 13 "_law_move" := ⟨rfl, by first | exact Or.inl rfl | exact Or.inr (Or.inl rfl) | exact Or.inr (Or.inr rfl), by decide, by decide⟩
  have lc13 : LcOk (cxOf CX0 P w K mg base ["_law_script", "_law_pool_here", "_law_yard", "_law_row", "_law_dealing", "_law_picks", "_law_moves", "_law_last", "_law_engine", "_law_journal", "_law_stand", "_law_far", "_law_at", "_law_move", "_law_most", "_law_after", "_law_turn"] "law" (defScope s_law) (He.ga K "law") cdv_ A outer s_ H E).nox 13 "_law_move" := ⟨rfl, by first | exact Or.inl rfl | exact Or.inr rfl, by first | exact Or.inl rfl | exact Or.inr rfl⟩
  have nm14 : NmOk (cxOf CX0 P w K mg base ["_law_script", "_law_pool_here", "_law_yard", "_law_row", "_law_dealing", "_law_picks", "_law_moves", "_law_last", "_law_engine", "_law_journal", "_law_stand", "_law_far", "_law_at", "_law_move", "_law_most", "_law_after", "_law_turn"] "law" (defScope s_law) (He.ga K "law") cdv_ A outer s_ H E).nox 14 "_law_most" := ⟨rfl, by first | exact Or.inl rfl | exact Or.inr (Or.inl rfl) | exact Or.inr (Or.inr rfl), by decide, by decide⟩
  have lc14 : LcOk (cxOf CX0 P w K mg base ["_law_script", "_law_pool_here", "_law_yard", "_law_row", "_law_dealing", "_law_picks", "_law_moves", "_law_last", "_law_engine", "_law_journal", "_law_stand", "_law_far", "_law_at", "_law_move", "_law_most", "_law_after", "_law_turn"] "law" (defScope s_law) (He.ga K "law") cdv_ A outer s_ H E).nox 14 "_law_most" := ⟨rfl, by first | exact Or.inl rfl | exact Or.inr rfl, by first | exact Or.inl rfl | exact Or.inr rfl⟩
  have nm15 : NmOk (cxOf CX0 P w K mg base ["_law_script", "_law_pool_here", "_law_yard", "_law_row", "_law_dealing", "_law_picks", "_law_moves", "_law_last", "_law_engine", "_law_journal", "_law_stand", "_law_far", "_law_at", "_law_move", "_law_most", "_law_after", "_law_turn"] "law" (defScope s_law) (He.ga K "law") cdv_ A outer s_ H E).nox 15 "_law_after" := ⟨rfl, by first | exact Or.inl rfl | exact Or.inr (Or.inl rfl) | exact Or.inr (Or.inr rfl), by decide, by decide⟩
  have lc15 : LcOk (cxOf CX0 P w K mg base ["_law_script", "_law_pool_here", "_law_yard", "_law_row", "_law_dealing", "_law_picks", "_law_moves", "_law_last", "_law_engine", "_law_journal", "_law_stand", "_law_far", "_law_at", "_law_move", "_law_most", "_law_after", "_law_turn"] "law" (defScope s_law) (He.ga K "law") cdv_ A outer s_ H E).nox 15 "_law_after" := ⟨rfl, by first | exact Or.inl rfl | exact Or.inr rfl, by first | exact Or.inl rfl | exact Or.inr rfl⟩
  have dD1 : DefOk (cxOf CX0 P w K mg base ["_law_script", "_law_pool_here", "_law_yard", "_law_row", "_law_dealing", "_law_picks", "_law_moves", "_law_last", "_law_engine", "_law_journal", "_law_stand", "_law_far", "_law_at", "_law_move", "_law_most", "_law_after", "_law_turn"] "law" (defScope s_law) (He.ga K "law") cdv_ A outer s_ H E).nox.prog (cxOf CX0 P w K mg base ["_law_script", "_law_pool_here", "_law_yard", "_law_row", "_law_dealing", "_law_picks", "_law_moves", "_law_last", "_law_engine", "_law_journal", "_law_stand", "_law_far", "_law_at", "_law_move", "_law_most", "_law_after", "_law_turn"] "law" (defScope s_law) (He.ga K "law") cdv_ A outer s_ H E).nox.w (cxOf CX0 P w K mg base ["_law_script", "_law_pool_here", "_law_yard", "_law_row", "_law_dealing", "_law_picks", "_law_moves", "_law_last", "_law_engine", "_law_journal", "_law_stand", "_law_far", "_law_at", "_law_move", "_law_most", "_law_after", "_law_turn"] "law" (defScope s_law) (He.ga K "law") cdv_ A outer s_ H E).nox.K (cxOf CX0 P w K mg base ["_law_script", "_law_pool_here", "_law_yard", "_law_row", "_law_dealing", "_law_picks", "_law_moves", "_law_last", "_law_engine", "_law_journal", "_law_stand", "_law_far", "_law_at", "_law_move", "_law_most", "_law_after", "_law_turn"] "law" (defScope s_law) (He.ga K "law") cdv_ A outer s_ H E).nox.mg (cxOf CX0 P w K mg base ["_law_script", "_law_pool_here", "_law_yard", "_law_row", "_law_dealing", "_law_picks", "_law_moves", "_law_last", "_law_engine", "_law_journal", "_law_stand", "_law_far", "_law_at", "_law_move", "_law_most", "_law_after", "_law_turn"] "law" (defScope s_law) (He.ga K "law") cdv_ A outer s_ H E).nox.base 1 "_law_pool" ["_law_script"] S_law_pool := D1
  have dD2 : DefOk (cxOf CX0 P w K mg base ["_law_script", "_law_pool_here", "_law_yard", "_law_row", "_law_dealing", "_law_picks", "_law_moves", "_law_last", "_law_engine", "_law_journal", "_law_stand", "_law_far", "_law_at", "_law_move", "_law_most", "_law_after", "_law_turn"] "law" (defScope s_law) (He.ga K "law") cdv_ A outer s_ H E).nox.prog (cxOf CX0 P w K mg base ["_law_script", "_law_pool_here", "_law_yard", "_law_row", "_law_dealing", "_law_picks", "_law_moves", "_law_last", "_law_engine", "_law_journal", "_law_stand", "_law_far", "_law_at", "_law_move", "_law_most", "_law_after", "_law_turn"] "law" (defScope s_law) (He.ga K "law") cdv_ A outer s_ H E).nox.w (cxOf CX0 P w K mg base ["_law_script", "_law_pool_here", "_law_yard", "_law_row", "_law_dealing", "_law_picks", "_law_moves", "_law_last", "_law_engine", "_law_journal", "_law_stand", "_law_far", "_law_at", "_law_move", "_law_most", "_law_after", "_law_turn"] "law" (defScope s_law) (He.ga K "law") cdv_ A outer s_ H E).nox.K (cxOf CX0 P w K mg base ["_law_script", "_law_pool_here", "_law_yard", "_law_row", "_law_dealing", "_law_picks", "_law_moves", "_law_last", "_law_engine", "_law_journal", "_law_stand", "_law_far", "_law_at", "_law_move", "_law_most", "_law_after", "_law_turn"] "law" (defScope s_law) (He.ga K "law") cdv_ A outer s_ H E).nox.mg (cxOf CX0 P w K mg base ["_law_script", "_law_pool_here", "_law_yard", "_law_row", "_law_dealing", "_law_picks", "_law_moves", "_law_last", "_law_engine", "_law_journal", "_law_stand", "_law_far", "_law_at", "_law_move", "_law_most", "_law_after", "_law_turn"] "law" (defScope s_law) (He.ga K "law") cdv_ A outer s_ H E).nox.base 4 "_law_lane_home_scene" ["_law_pool_here", "_law_lanes", "_law_most", "_law_wagons"] S_law_lane_home_scene := D2
  have dD3 : DefOk (cxOf CX0 P w K mg base ["_law_script", "_law_pool_here", "_law_yard", "_law_row", "_law_dealing", "_law_picks", "_law_moves", "_law_last", "_law_engine", "_law_journal", "_law_stand", "_law_far", "_law_at", "_law_move", "_law_most", "_law_after", "_law_turn"] "law" (defScope s_law) (He.ga K "law") cdv_ A outer s_ H E).nox.prog (cxOf CX0 P w K mg base ["_law_script", "_law_pool_here", "_law_yard", "_law_row", "_law_dealing", "_law_picks", "_law_moves", "_law_last", "_law_engine", "_law_journal", "_law_stand", "_law_far", "_law_at", "_law_move", "_law_most", "_law_after", "_law_turn"] "law" (defScope s_law) (He.ga K "law") cdv_ A outer s_ H E).nox.w (cxOf CX0 P w K mg base ["_law_script", "_law_pool_here", "_law_yard", "_law_row", "_law_dealing", "_law_picks", "_law_moves", "_law_last", "_law_engine", "_law_journal", "_law_stand", "_law_far", "_law_at", "_law_move", "_law_most", "_law_after", "_law_turn"] "law" (defScope s_law) (He.ga K "law") cdv_ A outer s_ H E).nox.K (cxOf CX0 P w K mg base ["_law_script", "_law_pool_here", "_law_yard", "_law_row", "_law_dealing", "_law_picks", "_law_moves", "_law_last", "_law_engine", "_law_journal", "_law_stand", "_law_far", "_law_at", "_law_move", "_law_most", "_law_after", "_law_turn"] "law" (defScope s_law) (He.ga K "law") cdv_ A outer s_ H E).nox.mg (cxOf CX0 P w K mg base ["_law_script", "_law_pool_here", "_law_yard", "_law_row", "_law_dealing", "_law_picks", "_law_moves", "_law_last", "_law_engine", "_law_journal", "_law_stand", "_law_far", "_law_at", "_law_move", "_law_most", "_law_after", "_law_turn"] "law" (defScope s_law) (He.ga K "law") cdv_ A outer s_ H E).nox.base 1 "_law_draw" ["_law_pool_here", "_law_many"] S_law_draw := D3
  have dD4 : DefOk (cxOf CX0 P w K mg base ["_law_script", "_law_pool_here", "_law_yard", "_law_row", "_law_dealing", "_law_picks", "_law_moves", "_law_last", "_law_engine", "_law_journal", "_law_stand", "_law_far", "_law_at", "_law_move", "_law_most", "_law_after", "_law_turn"] "law" (defScope s_law) (He.ga K "law") cdv_ A outer s_ H E).nox.prog (cxOf CX0 P w K mg base ["_law_script", "_law_pool_here", "_law_yard", "_law_row", "_law_dealing", "_law_picks", "_law_moves", "_law_last", "_law_engine", "_law_journal", "_law_stand", "_law_far", "_law_at", "_law_move", "_law_most", "_law_after", "_law_turn"] "law" (defScope s_law) (He.ga K "law") cdv_ A outer s_ H E).nox.w (cxOf CX0 P w K mg base ["_law_script", "_law_pool_here", "_law_yard", "_law_row", "_law_dealing", "_law_picks", "_law_moves", "_law_last", "_law_engine", "_law_journal", "_law_stand", "_law_far", "_law_at", "_law_move", "_law_most", "_law_after", "_law_turn"] "law" (defScope s_law) (He.ga K "law") cdv_ A outer s_ H E).nox.K (cxOf CX0 P w K mg base ["_law_script", "_law_pool_here", "_law_yard", "_law_row", "_law_dealing", "_law_picks", "_law_moves", "_law_last", "_law_engine", "_law_journal", "_law_stand", "_law_far", "_law_at", "_law_move", "_law_most", "_law_after", "_law_turn"] "law" (defScope s_law) (He.ga K "law") cdv_ A outer s_ H E).nox.mg (cxOf CX0 P w K mg base ["_law_script", "_law_pool_here", "_law_yard", "_law_row", "_law_dealing", "_law_picks", "_law_moves", "_law_last", "_law_engine", "_law_journal", "_law_stand", "_law_far", "_law_at", "_law_move", "_law_most", "_law_after", "_law_turn"] "law" (defScope s_law) (He.ga K "law") cdv_ A outer s_ H E).nox.base 6 "run" ["yard", "row", "dealing", "picks"] S_run := D4
  have dD5 : DefOk (cxOf CX0 P w K mg base ["_law_script", "_law_pool_here", "_law_yard", "_law_row", "_law_dealing", "_law_picks", "_law_moves", "_law_last", "_law_engine", "_law_journal", "_law_stand", "_law_far", "_law_at", "_law_move", "_law_most", "_law_after", "_law_turn"] "law" (defScope s_law) (He.ga K "law") cdv_ A outer s_ H E).nox.prog (cxOf CX0 P w K mg base ["_law_script", "_law_pool_here", "_law_yard", "_law_row", "_law_dealing", "_law_picks", "_law_moves", "_law_last", "_law_engine", "_law_journal", "_law_stand", "_law_far", "_law_at", "_law_move", "_law_most", "_law_after", "_law_turn"] "law" (defScope s_law) (He.ga K "law") cdv_ A outer s_ H E).nox.w (cxOf CX0 P w K mg base ["_law_script", "_law_pool_here", "_law_yard", "_law_row", "_law_dealing", "_law_picks", "_law_moves", "_law_last", "_law_engine", "_law_journal", "_law_stand", "_law_far", "_law_at", "_law_move", "_law_most", "_law_after", "_law_turn"] "law" (defScope s_law) (He.ga K "law") cdv_ A outer s_ H E).nox.K (cxOf CX0 P w K mg base ["_law_script", "_law_pool_here", "_law_yard", "_law_row", "_law_dealing", "_law_picks", "_law_moves", "_law_last", "_law_engine", "_law_journal", "_law_stand", "_law_far", "_law_at", "_law_move", "_law_most", "_law_after", "_law_turn"] "law" (defScope s_law) (He.ga K "law") cdv_ A outer s_ H E).nox.mg (cxOf CX0 P w K mg base ["_law_script", "_law_pool_here", "_law_yard", "_law_row", "_law_dealing", "_law_picks", "_law_moves", "_law_last", "_law_engine", "_law_journal", "_law_stand", "_law_far", "_law_at", "_law_move", "_law_most", "_law_after", "_law_turn"] "law" (defScope s_law) (He.ga K "law") cdv_ A outer s_ H E).nox.base 3 "_law_lane_run" ["_law_yard", "_law_row", "_law_dealing", "_law_stand", "_law_picks"] S_law_lane_run := D5
  have dD6 : DefOk (cxOf CX0 P w K mg base ["_law_script", "_law_pool_here", "_law_yard", "_law_row", "_law_dealing", "_law_picks", "_law_moves", "_law_last", "_law_engine", "_law_journal", "_law_stand", "_law_far", "_law_at", "_law_move", "_law_most", "_law_after", "_law_turn"] "law" (defScope s_law) (He.ga K "law") cdv_ A outer s_ H E).nox.prog (cxOf CX0 P w K mg base ["_law_script", "_law_pool_here", "_law_yard", "_law_row", "_law_dealing", "_law_picks", "_law_moves", "_law_last", "_law_engine", "_law_journal", "_law_stand", "_law_far", "_law_at", "_law_move", "_law_most", "_law_after", "_law_turn"] "law" (defScope s_law) (He.ga K "law") cdv_ A outer s_ H E).nox.w (cxOf CX0 P w K mg base ["_law_script", "_law_pool_here", "_law_yard", "_law_row", "_law_dealing", "_law_picks", "_law_moves", "_law_last", "_law_engine", "_law_journal", "_law_stand", "_law_far", "_law_at", "_law_move", "_law_most", "_law_after", "_law_turn"] "law" (defScope s_law) (He.ga K "law") cdv_ A outer s_ H E).nox.K (cxOf CX0 P w K mg base ["_law_script", "_law_pool_here", "_law_yard", "_law_row", "_law_dealing", "_law_picks", "_law_moves", "_law_last", "_law_engine", "_law_journal", "_law_stand", "_law_far", "_law_at", "_law_move", "_law_most", "_law_after", "_law_turn"] "law" (defScope s_law) (He.ga K "law") cdv_ A outer s_ H E).nox.mg (cxOf CX0 P w K mg base ["_law_script", "_law_pool_here", "_law_yard", "_law_row", "_law_dealing", "_law_picks", "_law_moves", "_law_last", "_law_engine", "_law_journal", "_law_stand", "_law_far", "_law_at", "_law_move", "_law_most", "_law_after", "_law_turn"] "law" (defScope s_law) (He.ga K "law") cdv_ A outer s_ H E).nox.base 1 "_law_lane_begun" ["_law_yard", "_law_row"] S_law_lane_begun := D6
  have dD7 : DefOk (cxOf CX0 P w K mg base ["_law_script", "_law_pool_here", "_law_yard", "_law_row", "_law_dealing", "_law_picks", "_law_moves", "_law_last", "_law_engine", "_law_journal", "_law_stand", "_law_far", "_law_at", "_law_move", "_law_most", "_law_after", "_law_turn"] "law" (defScope s_law) (He.ga K "law") cdv_ A outer s_ H E).nox.prog (cxOf CX0 P w K mg base ["_law_script", "_law_pool_here", "_law_yard", "_law_row", "_law_dealing", "_law_picks", "_law_moves", "_law_last", "_law_engine", "_law_journal", "_law_stand", "_law_far", "_law_at", "_law_move", "_law_most", "_law_after", "_law_turn"] "law" (defScope s_law) (He.ga K "law") cdv_ A outer s_ H E).nox.w (cxOf CX0 P w K mg base ["_law_script", "_law_pool_here", "_law_yard", "_law_row", "_law_dealing", "_law_picks", "_law_moves", "_law_last", "_law_engine", "_law_journal", "_law_stand", "_law_far", "_law_at", "_law_move", "_law_most", "_law_after", "_law_turn"] "law" (defScope s_law) (He.ga K "law") cdv_ A outer s_ H E).nox.K (cxOf CX0 P w K mg base ["_law_script", "_law_pool_here", "_law_yard", "_law_row", "_law_dealing", "_law_picks", "_law_moves", "_law_last", "_law_engine", "_law_journal", "_law_stand", "_law_far", "_law_at", "_law_move", "_law_most", "_law_after", "_law_turn"] "law" (defScope s_law) (He.ga K "law") cdv_ A outer s_ H E).nox.mg (cxOf CX0 P w K mg base ["_law_script", "_law_pool_here", "_law_yard", "_law_row", "_law_dealing", "_law_picks", "_law_moves", "_law_last", "_law_engine", "_law_journal", "_law_stand", "_law_far", "_law_at", "_law_move", "_law_most", "_law_after", "_law_turn"] "law" (defScope s_law) (He.ga K "law") cdv_ A outer s_ H E).nox.base 1 "all_home" ["stand"] S_all_home := D7
  have dD8 : DefOk (cxOf CX0 P w K mg base ["_law_script", "_law_pool_here", "_law_yard", "_law_row", "_law_dealing", "_law_picks", "_law_moves", "_law_last", "_law_engine", "_law_journal", "_law_stand", "_law_far", "_law_at", "_law_move", "_law_most", "_law_after", "_law_turn"] "law" (defScope s_law) (He.ga K "law") cdv_ A outer s_ H E).nox.prog (cxOf CX0 P w K mg base ["_law_script", "_law_pool_here", "_law_yard", "_law_row", "_law_dealing", "_law_picks", "_law_moves", "_law_last", "_law_engine", "_law_journal", "_law_stand", "_law_far", "_law_at", "_law_move", "_law_most", "_law_after", "_law_turn"] "law" (defScope s_law) (He.ga K "law") cdv_ A outer s_ H E).nox.w (cxOf CX0 P w K mg base ["_law_script", "_law_pool_here", "_law_yard", "_law_row", "_law_dealing", "_law_picks", "_law_moves", "_law_last", "_law_engine", "_law_journal", "_law_stand", "_law_far", "_law_at", "_law_move", "_law_most", "_law_after", "_law_turn"] "law" (defScope s_law) (He.ga K "law") cdv_ A outer s_ H E).nox.K (cxOf CX0 P w K mg base ["_law_script", "_law_pool_here", "_law_yard", "_law_row", "_law_dealing", "_law_picks", "_law_moves", "_law_last", "_law_engine", "_law_journal", "_law_stand", "_law_far", "_law_at", "_law_move", "_law_most", "_law_after", "_law_turn"] "law" (defScope s_law) (He.ga K "law") cdv_ A outer s_ H E).nox.mg (cxOf CX0 P w K mg base ["_law_script", "_law_pool_here", "_law_yard", "_law_row", "_law_dealing", "_law_picks", "_law_moves", "_law_last", "_law_engine", "_law_journal", "_law_stand", "_law_far", "_law_at", "_law_move", "_law_most", "_law_after", "_law_turn"] "law" (defScope s_law) (He.ga K "law") cdv_ A outer s_ H E).nox.base 10 "_law_found_right" ["_law_pool_here", "_law_yard", "_law_row", "_law_dealing", "_law_found", "_law_journal", "_law_stand", "_law_most"] S_law_found_right := D8
  have dD9 : DefOk (cxOf CX0 P w K mg base ["_law_script", "_law_pool_here", "_law_yard", "_law_row", "_law_dealing", "_law_picks", "_law_moves", "_law_last", "_law_engine", "_law_journal", "_law_stand", "_law_far", "_law_at", "_law_move", "_law_most", "_law_after", "_law_turn"] "law" (defScope s_law) (He.ga K "law") cdv_ A outer s_ H E).nox.prog (cxOf CX0 P w K mg base ["_law_script", "_law_pool_here", "_law_yard", "_law_row", "_law_dealing", "_law_picks", "_law_moves", "_law_last", "_law_engine", "_law_journal", "_law_stand", "_law_far", "_law_at", "_law_move", "_law_most", "_law_after", "_law_turn"] "law" (defScope s_law) (He.ga K "law") cdv_ A outer s_ H E).nox.w (cxOf CX0 P w K mg base ["_law_script", "_law_pool_here", "_law_yard", "_law_row", "_law_dealing", "_law_picks", "_law_moves", "_law_last", "_law_engine", "_law_journal", "_law_stand", "_law_far", "_law_at", "_law_move", "_law_most", "_law_after", "_law_turn"] "law" (defScope s_law) (He.ga K "law") cdv_ A outer s_ H E).nox.K (cxOf CX0 P w K mg base ["_law_script", "_law_pool_here", "_law_yard", "_law_row", "_law_dealing", "_law_picks", "_law_moves", "_law_last", "_law_engine", "_law_journal", "_law_stand", "_law_far", "_law_at", "_law_move", "_law_most", "_law_after", "_law_turn"] "law" (defScope s_law) (He.ga K "law") cdv_ A outer s_ H E).nox.mg (cxOf CX0 P w K mg base ["_law_script", "_law_pool_here", "_law_yard", "_law_row", "_law_dealing", "_law_picks", "_law_moves", "_law_last", "_law_engine", "_law_journal", "_law_stand", "_law_far", "_law_at", "_law_move", "_law_most", "_law_after", "_law_turn"] "law" (defScope s_law) (He.ga K "law") cdv_ A outer s_ H E).nox.base 2 "_law_lane_after" ["_law_yard", "_law_stand", "_law_move"] S_law_lane_after := D9
  obtain ⟨ns, rfl, hR⟩ := h
  refine js_mid (fun ρ => ∃ p, ρ = [some (.dat (.list (ns.map .int))), some (.pool p), none, none, none, none, none, none, none, none, none, none, none, none, none, none, none]) ?_ fun ρ hρ => ?_
  · walk_at "go"
    refine ⟨ns, rfl, fun p => ?_⟩
    walk_at "go"
    exact ⟨p, rfl⟩
  obtain ⟨p, rfl⟩ := hρ
  refine js_mid (fun ρ => ∃ y r d, Scene y r d ∧ ρ = [some (.dat (.list (ns.map .int))), some (.pool p), some (.dat (dY y)), some (.dat (dL r)), some (.dat (dL d)), none, none, none, none, none, none, none, none, none, none, none, none]) ?_ fun ρ hρ => ?_
  · walk_at "go"
    refine okB (fun z => ?_) (fun z => ?_)
    · walk_at "go"
      refine ⟨p, 8, rfl, by omega, fun y r d hs => ?_⟩
      walk_at "go"
      exact ⟨y, r, d, hs, rfl⟩
    · walk_at "go"
      refine ⟨p, 4, rfl, by omega, fun y r d hs => ?_⟩
      walk_at "go"
      exact ⟨y, r, d, hs, rfl⟩
  obtain ⟨y, r, d, hs, rfl⟩ := hρ
  obtain ⟨c, k⟩ := hs.sc
  have r8 := k.r8
  have b1 := k.yd.k2
  have b2 := k.yd.l2
  refine js_mid (fun ρ => ∃ v : List Nat, v.length = 3 * r.length ∧ ρ = [some (.dat (.list (ns.map .int))), some (.pool p), some (.dat (dY y)), some (.dat (dL r)), some (.dat (dL d)), some (.dat (dL v)), none, none, none, none, none, none, none, none, none, none, none]) ?_ fun ρ hρ => ?_
  · walk_at "go"
    refine je_lc0 [("_law_turn", 16)] [16] ?_ (by simp) (by simp) (tgok_name 16 fun s H C cl fp => pg_name (by assumption) rfl (Or.inl rfl)) rfl (by assumption) (by walk_at "blk") (fun _ => rfl)
    walk_at "go"
    refine ⟨Or.inl ⟨by decide, by decide⟩, ?_⟩
    walk_at "go"
    refine ⟨3 * r.length, by simp, by omega, ?_⟩
    refine ⟨fun i acc => ∃ v : List Nat, acc = v.map dN ∧ v.length = i, ⟨[], rfl, rfl⟩, by omega, ltAll rfl, fun i acc hi hI => ?_, fun acc q hI => ?_⟩
    · obtain ⟨v, rfl, hv⟩ := hI
      refine ⟨[dN i], .one 16 _, fun s H C cl fp => ?_⟩
      walk_at "go"
      refine ⟨p, 4, rfl, by omega, by omega, fun u hu => ?_⟩
      walk_at "go"
      exact ⟨rfl, v ++ [u], by simp, by simp [hv]⟩
    · obtain ⟨v, rfl, hv⟩ := hI
      walk_at "go"
      exact ⟨v, hv, rfl⟩
  obtain ⟨v, hv, rfl⟩ := hρ
  obtain ⟨n, F, S, hn, hrun, hFn, hgS, hS, hall⟩ := run_all k v
  have hfl := inv_flow k
  have hI0 := inv_beg k
  refine js_mid (fun ρ => ρ = [some (.dat (.list (ns.map .int))), some (.pool p), some (.dat (dY y)), some (.dat (dL r)), some (.dat (dL d)), some (.dat (dL v)), some (.dat (dJ F)), some (.dat (dS S)), none, none, none, none, none, none, none, none, none]) ?_ fun ρ hρ => ?_
  · walk_at "go"
    refine ⟨y, r, d, v, F, S, n, _, rfl, k.yd, k.row, k.deal, by omega, hfl, hI0, by omega, hrun, ?_⟩
    walk_at "go"
    rfl
  subst hρ
  refine js_mid (fun ρ => ρ = [some (.dat (.list (ns.map .int))), some (.pool p), some (.dat (dY y)), some (.dat (dL r)), some (.dat (dL d)), some (.dat (dL v)), some (.dat (dJ F)), some (.dat (dS S)), none, none, none, none, none, none, none, none, none]) ?_ fun ρ hρ => ?_
  · walk_at "go"
    refine ⟨y, r, rfl, k.yd, ?_⟩
    walk_at "go"
    refine ⟨y, r, d, v, F, S, n, _, rfl, k.yd, k.row, k.deal.len, by omega, hfl, hI0, hn, hrun, ?_⟩
    walk_at "go"
    refine Or.inl ⟨_, (cm_JS _ _).shaped, rfl, rfl, ?_⟩
    refine okF ?_
    walk_at "go"
    have hsh := hS.inv.shp k
    refine ⟨S, rfl, by rw [hsh.fl, hsh.sl]; omega, ?_⟩
    rw [home_iff k hS.inv, decide_eq_true (hS.inv.goes k hgS).2.2.2]
    walk_at "go"
    refine okF ?_
    walk_at "go"
    rfl
  subst hρ
  walk_at "x"
  refine js_par3 8 9 10 (by decide) (by decide) (by decide) ?_ rfl hN rfl rfl rfl rfl rfl rfl rfl rfl
  walk_at "x"
  refine je_makeD (by assumption) (Room.mono (by assumption) (by decide)) ?_ rfl rfl rfl
  walk_at "go"
  refine ⟨_, rfl, fun e => ⟨e, y, r, d, rfl, k.yd, k.row, k.deal, _, rfl, rfl, ?_⟩⟩
  walk_at "go"
  refine ⟨y, r, rfl, k.yd, ?_⟩
  walk_at "go"
  refine exN3 rfl rfl rfl ?_
  walk_at "go"
  refine ⟨Or.inl ⟨by decide, by decide⟩, ?_⟩
  walk_at "go"
  refine ⟨p, 3 * r.length + 1, by simp [dN], by omega, by omega, fun far _ => ?_⟩
  walk_at "go"
  refine ⟨fun i ρ => ∃ s j c12 c13 c14 c15, ρ = [some (.dat (.list (ns.map .int))), some (.pool p), some (.dat (dY y)), some (.dat (dL r)), some (.dat (dL d)), some (.dat (dL v)), some (.dat (dJ F)), some (.dat (dS S)), some (.ins e (eng y (tks r d) s j)), some (.dat (dJ j)), some (.dat (dS s)), some (.dat (dN far)), c12, c13, c14, c15, none] ∧ j = F.take i ∧ s = play y (beg y r) j, ⟨_, _, none, none, none, none, rfl, rfl, rfl⟩, fun i ρ2 hi hI => ?_, fun ρ2 hI => ?_⟩
  · obtain ⟨s, j, c12, c13, c14, c15, rfl, ej, es⟩ := hI
    rw [List.length_map] at hi
    obtain ⟨m, hm⟩ : ∃ x, F[i]? = some x := ⟨_, List.getElem?_eq_getElem hi⟩
    obtain ⟨hg, hh⟩ := hall i m hm
    rw [← ej, ← es] at hg hh
    have hh' := hh.snoc k hg
    have q1 := hh.inv.shp k
    have q2 := hh.inv.tko k
    have q3 := hh.inv.can k hg
    have q4 := hh.z k
    have q5 := hh'.inv.shp k
    have q6 := hh'.inv.tko k
    have ejm : j.map dM ++ [dM m] = (j ++ [m]).map dM := by simp
    have ejn : j ++ [m] = F.take (i + 1) := by rw [ej, List.take_add_one, hm]; rfl
    have esn : step y s m = play y (beg y r) (j ++ [m]) := by rw [play_snoc, ← es]
    have ez : ∀ xs : List PyData, ((j.map dM).length + ([dM m] : List PyData).length ≤ 100000) := fun _ => by simp only [List.length_map, List.length_cons, List.length_nil]; omega
    refine jg_eq (d' := .tuple [.int i, dM m]) (by dsimp only; rw [map_get hm]) ?_
    iterate 6 walk_at "x"
    refine js_mid (fun ρ => ∃ q : Nat, q ≤ 1000 ∧ ρ = [some (.dat (.list (ns.map .int))), some (.pool p), some (.dat (dY y)), some (.dat (dL r)), some (.dat (dL d)), some (.dat (dL v)), some (.dat (dJ F)), some (.dat (dS S)), some (.ins e (eng y (tks r d) s j)), some (.dat (dJ j)), some (.dat (dS s)), some (.dat (dN far)), some (.dat (.int (i : Int))), some (.dat (dM m)), some (.dat (dN q)), c15, none]) ?_ fun ρ hρ => ?_
    · walk_at "go"
      refine Or.inr ⟨cm_I _, cm_N _, fun t ht => ?_⟩
      refine okB (fun z => ?_) (fun z => ?_)
      · walk_at "go"
        refine ⟨Or.inl ⟨by decide, by decide⟩, ?_⟩
        walk_at "go"
        exact ⟨3 * r.length + 1, by omega, by simp [dN]⟩
      · walk_at "go"
        exact ⟨3, by omega, rfl⟩
    obtain ⟨q, hq, rfl⟩ := hρ
    refine js_mid (fun ρ => ρ = [some (.dat (.list (ns.map .int))), some (.pool p), some (.dat (dY y)), some (.dat (dL r)), some (.dat (dL d)), some (.dat (dL v)), some (.dat (dJ F)), some (.dat (dS S)), some (.ins e (eng y (tks r d) s j)), some (.dat (dJ j)), some (.dat (dS s)), some (.dat (dN far)), some (.dat (.int (i : Int))), some (.dat (dM m)), some (.dat (dN q)), c15, none]) ?_ fun ρ hρ => ?_
    · walk_at "go"
      refine ⟨p, y, r, d, c, j, s, j, q, rfl, k, hh, hh.all, hh.now, hq, ?_⟩
      walk_at "go"
      refine okF ?_
      walk_at "go"
      rfl
    subst hρ
    refine js_mid (fun ρ => ρ = [some (.dat (.list (ns.map .int))), some (.pool p), some (.dat (dY y)), some (.dat (dL r)), some (.dat (dL d)), some (.dat (dL v)), some (.dat (dJ F)), some (.dat (dS S)), some (.ins e (eng y (tks r d) s j)), some (.dat (dJ j)), some (.dat (dS s)), some (.dat (dN far)), some (.dat (.int (i : Int))), some (.dat (dM m)), some (.dat (dN q)), some (.dat (dS (step y s m))), none]) ?_ fun ρ hρ => ?_
    · walk_at "go"
      refine ⟨y, s, m, rfl, k.yd, q1, q3, ?_⟩
      walk_at "go"
      rfl
    subst hρ
    refine js_mid (fun ρ => ρ = [some (.dat (.list (ns.map .int))), some (.pool p), some (.dat (dY y)), some (.dat (dL r)), some (.dat (dL d)), some (.dat (dL v)), some (.dat (dJ F)), some (.dat (dS S)), some (.ins e (eng y (tks r d) s j)), some (.dat (dJ j)), some (.dat (dS s)), some (.dat (dN far)), some (.dat (.int (i : Int))), some (.dat (dM m)), some (.dat (dN q)), some (.dat (dS (step y s m))), none]) ?_ fun ρ hρ => ?_
    · walk_at "go"
      refine ⟨e, y, tks r d, s, j, m, false, rfl, k.yd, q1, q2, q3, hg, by omega, ?_⟩
      walk_at "go"
      refine ⟨ez [], ?_⟩
      rw [ejm]
      walk_at "go"
      refine Or.inl ⟨.tuple [dJ (j ++ [m]), dS s], (cm_JS _ _).shaped, rfl, rfl, ?_⟩
      refine okF ?_
      walk_at "go"
      refine ⟨e, y, tks r d, s, j, m, true, rfl, k.yd, q1, q2, q3, hg, by omega, ?_⟩
      walk_at "go"
      refine ⟨ez [], ?_⟩
      rw [ejm]
      walk_at "go"
      refine Or.inl ⟨.tuple [dJ (j ++ [m]), dS (step y s m)], (cm_JS _ _).shaped, rfl, rfl, ?_⟩
      refine okF ?_
      walk_at "go"
      rfl
    subst hρ
    refine js_mid (fun ρ => ρ = [some (.dat (.list (ns.map .int))), some (.pool p), some (.dat (dY y)), some (.dat (dL r)), some (.dat (dL d)), some (.dat (dL v)), some (.dat (dJ F)), some (.dat (dS S)), some (.ins e (eng y (tks r d) s j)), some (.dat (dJ j)), some (.dat (dS s)), some (.dat (dN far)), some (.dat (.int (i : Int))), some (.dat (dM m)), some (.dat (dN q)), some (.dat (dS (step y s m))), none]) ?_ fun ρ hρ => ?_
    · walk_at "go"
      refine ⟨e, y, tks r d, s, j, m, false, rfl, k.yd, q1, q2, q3, hg, by omega, ?_⟩
      walk_at "go"
      refine ⟨p, y, r, d, c, j ++ [m], s, j, 2, rfl, k, hh, hh'.all, hh.not k hg, by omega, ?_⟩
      walk_at "go"
      refine okF ?_
      walk_at "go"
      rfl
    subst hρ
    refine js_mid (fun ρ => ρ = [some (.dat (.list (ns.map .int))), some (.pool p), some (.dat (dY y)), some (.dat (dL r)), some (.dat (dL d)), some (.dat (dL v)), some (.dat (dJ F)), some (.dat (dS S)), some (.ins e (eng y (tks r d) s j)), some (.dat (dJ j)), some (.dat (dS s)), some (.dat (dN far)), some (.dat (.int (i : Int))), some (.dat (dM m)), some (.dat (dN q)), some (.dat (dS (step y s m))), none]) ?_ fun ρ hρ => ?_
    · walk_at "go"
      refine ⟨e, y, tks r d, s, j, m, true, rfl, k.yd, q1, q2, q3, hg, by omega, ?_⟩
      walk_at "go"
      refine ⟨ez [], ?_⟩
      rw [ejm]
      walk_at "go"
      refine ⟨p, y, r, d, c, j ++ [m], step y s m, j ++ [m], 2, rfl, k, hh', hh'.all, hh'.now, by omega, ?_⟩
      walk_at "go"
      refine okF ?_
      walk_at "go"
      rfl
    subst hρ
    refine js_mid (fun ρ => ρ = [some (.dat (.list (ns.map .int))), some (.pool p), some (.dat (dY y)), some (.dat (dL r)), some (.dat (dL d)), some (.dat (dL v)), some (.dat (dJ F)), some (.dat (dS S)), some (.ins e (eng y (tks r d) (step y s m) (j ++ [m]))), some (.dat (dJ j)), some (.dat (dS s)), some (.dat (dN far)), some (.dat (.int (i : Int))), some (.dat (dM m)), some (.dat (dN q)), some (.dat (dS (step y s m))), none]) ?_ fun ρ hρ => ?_
    · walk_at "go"
      refine ⟨e, y, tks r d, s, j, m, rfl, k.yd, q1, q2, q3, hg, by omega, ?_⟩
      walk_at "go"
      rfl
    subst hρ
    refine js_mid (fun ρ => ρ = [some (.dat (.list (ns.map .int))), some (.pool p), some (.dat (dY y)), some (.dat (dL r)), some (.dat (dL d)), some (.dat (dL v)), some (.dat (dJ F)), some (.dat (dS S)), some (.ins e (eng y (tks r d) (step y s m) (j ++ [m]))), some (.dat (dJ (j ++ [m]))), some (.dat (dS (step y s m))), some (.dat (dN far)), some (.dat (.int (i : Int))), some (.dat (dM m)), some (.dat (dN q)), some (.dat (dS (step y s m))), none]) ?_ fun ρ hρ => ?_
    · refine js_par2 9 10 (by decide) ?_ rfl hN rfl rfl rfl rfl rfl rfl
      walk_at "go"
      refine ⟨ez [], ?_⟩
      rw [ejm]
      walk_at "go"
      refine exN2 rfl rfl ?_
      walk_at "go"
      rfl
    subst hρ
    obtain ⟨s2, hs2⟩ : ∃ s2, s2 = step y s m := ⟨_, rfl⟩
    obtain ⟨j2, hj2⟩ : ∃ j2, j2 = j ++ [m] := ⟨_, rfl⟩
    rw [← hs2, ← hj2]
    rw [← hs2] at hh' q5 esn
    rw [← hj2] at hh' ejn esn
    walk_at "go"
    refine ⟨e, y, tks r d, s2, j2, rfl, ?_⟩
    walk_at "go"
    refine ⟨e, y, tks r d, s2, j2, rfl, ?_⟩
    walk_at "go"
    refine ⟨e, y, tks r d, s2, j2, rfl, k.yd, q5, ?_⟩
    rw [home_iff k hh'.inv]
    walk_at "go"
    refine Or.inr ⟨cm_N _, cm_I _, fun t ht => ?_⟩
    have et : t = decide (s2.g = r.length) := tEq ht (by rw [List.length_map]; exact nat_eq)
    rw [et]
    walk_at "go"
    refine Or.inl ⟨_, sh_JSB _ _ _, rfl, rfl, ?_⟩
    refine okF ?_
    walk_at "go"
    exact ⟨s2, j2, _, _, _, _, rfl, ejn, esn⟩
  · obtain ⟨s, j, c12, c13, c14, c15, rfl, ej, es⟩ := hI
    rw [List.length_map, List.take_length] at ej
    subst ej
    rw [hS.play] at es
    subst es
    walk_at "go"
    refine Or.inl ⟨_, (cm_J _).shaped, rfl, rfl, ?_⟩
    walk_at "go"
    refine okT ?_
    walk_at "go"
    refine Or.inl ⟨_, (cm_S _).shaped, rfl, rfl, ?_⟩
    walk_at "go"
    refine okT ?_
    walk_at "go"
    refine ⟨e, y, tks r d, s, j, rfl, k.yd, hS.inv.shp k, hS.inv.tko k, ?_⟩
    rw [hgS]
    walk_at "go"
    refine Or.inl ⟨.tuple [], rfl, rfl, rfl, ?_⟩
    exact ⟨by walk_at "bk", hR⟩

end
end
end TW
namespace TW
open PySem PySem.Spec PyProof.Rows L2 Hd
section
variable {P : Program} {w : World} {K : PySem.W.Frag} {mg : Str → Option Value} {base : Heap} {h : Heap}
theorem sx_one (c : obsX K = valX) : (exW K && ((fa.all fun f => f.ok K) && fn.all fun d => d.ok K)) = true := congrArg (fun z : He.AlD => z.1) c
theorem sx_fact (c : obsX K = valX) (i : Nat) {f : He.Fa} (e : fa[i]? = some f) : f.ok K = true :=
  List.all_eq_true.mp (He.ba (He.ba (sx_one c)).2).1 f (List.mem_of_getElem? e)
theorem sx_def (c : obsX K = valX) (i : Nat) {d : He5.DefA} (e : fn[i]? = some d) : ∃ fd, FunD K d.name d.qual d.params d.body d.scope (d.dvs K) (d.kws K) (d.at_ K) fd := by
  have c2 := (He.ba (He.ba (sx_one c)).2).2
  have e1 : fn.map (fun d => He5.fnA K (d.at_ K)) = fn.map He5.DefA.val := congrArg (fun z : He.AlD => z.2) c
  have e2 : (fn.map fun d => He5.fnA K (d.at_ K))[i]? = (fn.map He5.DefA.val)[i]? := by rw [e1]
  rw [List.getElem?_map, List.getElem?_map, e] at e2
  exact He5.DefA.funD (Option.some.inj e2) (List.all_eq_true.mp c2 d (List.mem_of_getElem? e))
theorem gs_again (c : obsX K = valX) {fd : FuncData} {kws : List (Str × V)} (F : FunD K "again" "Engine.again" (defArgs s_Engine_again) (defBody s_Engine_again) (defScope s_Engine_again) [] kws (He5.wf K (He.ga K "Engine") "staticmethod" "again") fd) (g : mg "Engine" = some (.ref (engC K))) : GS K mg "again" "Engine.again" s_Engine_again := by
  obtain ⟨w1, rd⟩ := He.ba (He.ba (sx_one c)).1
  obtain ⟨h1, rest, h2⟩ := He5.wrapB_ok w1
  have cr : ClX.CRead K (engC K) (.type "type") := by
    refine ⟨rd, ?_⟩
    unfold PySem.W.readsIn at rd
    obtain ⟨rd, _⟩ := He.ba rd
    obtain ⟨rd, _⟩ := He.ba rd
    obtain ⟨rd, r3⟩ := He.ba rd
    obtain ⟨_, r2⟩ := He.ba rd
    unfold PySem.W.specialIn
    rw [beq_iff_eq.mp r2, Option.bind_some]
    exact beq_iff_eq.mp r3
  exact ⟨_, _, fd, _, rest, cr, h1, h2, F.kp, He5.fun_of F, g⟩
theorem all_ok {fd : FuncData} (X : K.In h) (G : h.Ns mainGlobals mg) (c : obsX K = valX) (F : Fun K "law" "law" s_law (He.ga K "law") fd) : FnOk P w K mg base CX0 11 (He.ga K "law") fd ["_law_script"] (spOf K S_law) := by
  have f_isinstance : mg "isinstance" = none := He.free_ok X G (sx_fact c 54 rfl)
  have f_int : mg "int" = none := He.free_ok X G (sx_fact c 62 rfl)
  have f_bool : mg "bool" = none := He.free_ok X G (sx_fact c 64 rfl)
  have f_tuple : mg "tuple" = none := He.free_ok X G (sx_fact c 59 rfl)
  have f_len : mg "len" = none := He.free_ok X G (sx_fact c 55 rfl)
  have f_range : mg "range" = none := He.free_ok X G (sx_fact c 56 rfl)
  have i_MOST_LANES : ∃ t, mg "MOST_LANES" = some (.int 12 t) := He.int_ok X G (sx_fact c 51 rfl)
  have i_MOST_TRACKS : ∃ t, mg "MOST_TRACKS" = some (.int 60 t) := He.int_ok X G (sx_fact c 52 rfl)
  have f_enumerate : mg "enumerate" = none := He.free_ok X G (sx_fact c 57 rfl)
  have i_MOST_WAGONS : ∃ t, mg "MOST_WAGONS" = some (.int 400 t) := He.int_ok X G (sx_fact c 53 rfl)
  have f_list : mg "list" = none := He.free_ok X G (sx_fact c 58 rfl)
  have f_sorted : mg "sorted" = none := He.free_ok X G (sx_fact c 60 rfl)
  have f_str : mg "str" = none := He.free_ok X G (sx_fact c 65 rfl)
  have f_zip : mg "zip" = none := He.free_ok X G (sx_fact c 61 rfl)
  have f_cl : Cls K (engC K) := He.cls_ok (sx_fact c 67 rfl)
  have na_here : NoAttr K (engC K) "here" := He.noat_ok (sx_fact c 71 rfl)
  have na_entries : NoAttr K (engC K) "entries" := He.noat_ok (sx_fact c 72 rfl)
  have na_yard : NoAttr K (engC K) "yard" := He.noat_ok (sx_fact c 69 rfl)
  have na_tracks : NoAttr K (engC K) "tracks" := He.noat_ok (sx_fact c 70 rfl)
  have f_min : mg "min" = none := He.free_ok X G (sx_fact c 63 rfl)
  obtain ⟨fd0, F0⟩ := sx_def c 0 (d := d_is_whole) rfl
  have g_is_whole : GD K mg "is_whole" s_is_whole := ⟨fd0, He5.fun_of F0, He.glo_ok X G (sx_fact c 0 rfl)⟩
  have k_is_whole := ok_is_whole (P := P) (w := w) (mg := mg) (base := base) g_is_whole f_isinstance f_int f_bool
  obtain ⟨fd5, F5⟩ := sx_def c 5 (d := d_is_number) rfl
  have g_is_number : GD K mg "is_number" s_is_number := ⟨fd5, He5.fun_of F5, He.glo_ok X G (sx_fact c 5 rfl)⟩
  have k_is_number := ok_is_number (P := P) (w := w) (mg := mg) (base := base) g_is_number f_isinstance f_int f_bool
  obtain ⟨fd15, F15⟩ := sx_def c 15 (d := d_with_lane) rfl
  have g_with_lane : GD K mg "with_lane" s_with_lane := ⟨fd15, He5.fun_of F15, He.glo_ok X G (sx_fact c 15 rfl)⟩
  have k_with_lane := ok_with_lane (P := P) (w := w) (mg := mg) (base := base) g_with_lane 
  obtain ⟨fd1, F1⟩ := sx_def c 1 (d := d_is_track) rfl
  have g_is_track : GD K mg "is_track" s_is_track := ⟨fd1, He5.fun_of F1, He.glo_ok X G (sx_fact c 1 rfl)⟩
  have k_is_track := ok_is_track (P := P) (w := w) (mg := mg) (base := base) g_is_track f_isinstance f_tuple f_len k_is_whole
  obtain ⟨fd2, F2⟩ := sx_def c 2 (d := d_first_wrong) rfl
  have g_first_wrong : GD K mg "first_wrong" s_first_wrong := ⟨fd2, He5.fun_of F2, He.glo_ok X G (sx_fact c 2 rfl)⟩
  have k_first_wrong := ok_first_wrong (P := P) (w := w) (mg := mg) (base := base) g_first_wrong f_isinstance f_tuple f_len f_range i_MOST_LANES i_MOST_TRACKS k_is_whole k_is_track
  obtain ⟨fd3, F3⟩ := sx_def c 3 (d := d_made_yard) rfl
  have g_made_yard : GD K mg "made_yard" s_made_yard := ⟨fd3, He5.fun_of F3, He.glo_ok X G (sx_fact c 3 rfl)⟩
  have k_made_yard := ok_made_yard (P := P) (w := w) (mg := mg) (base := base) g_made_yard k_first_wrong
  obtain ⟨fd4, F4⟩ := sx_def c 4 (d := d_made_row) rfl
  have g_made_row : GD K mg "made_row" s_made_row := ⟨fd4, He5.fun_of F4, He.glo_ok X G (sx_fact c 4 rfl)⟩
  have k_made_row := ok_made_row (P := P) (w := w) (mg := mg) (base := base) g_made_row f_isinstance f_tuple f_len f_enumerate i_MOST_WAGONS k_is_whole
  obtain ⟨fd6, F6⟩ := sx_def c 6 (d := d_made_dealing) rfl
  have g_made_dealing : GD K mg "made_dealing" s_made_dealing := ⟨fd6, He5.fun_of F6, He.glo_ok X G (sx_fact c 6 rfl)⟩
  have k_made_dealing := ok_made_dealing (P := P) (w := w) (mg := mg) (base := base) g_made_dealing f_isinstance f_tuple f_len f_enumerate k_is_number k_made_yard k_made_row
  obtain ⟨fd8, F8⟩ := sx_def c 8 (d := d_is_wagons) rfl
  have g_is_wagons : GD K mg "is_wagons" s_is_wagons := ⟨fd8, He5.fun_of F8, He.glo_ok X G (sx_fact c 8 rfl)⟩
  have k_is_wagons := ok_is_wagons (P := P) (w := w) (mg := mg) (base := base) g_is_wagons f_isinstance f_tuple k_is_whole
  obtain ⟨fd7, F7⟩ := sx_def c 7 (d := d_is_lanes) rfl
  have g_is_lanes : GD K mg "is_lanes" s_is_lanes := ⟨fd7, He5.fun_of F7, He.glo_ok X G (sx_fact c 7 rfl)⟩
  have k_is_lanes := ok_is_lanes (P := P) (w := w) (mg := mg) (base := base) g_is_lanes f_isinstance f_tuple f_len k_is_wagons
  obtain ⟨fd9, F9⟩ := sx_def c 9 (d := d_wagons_of) rfl
  have g_wagons_of : GD K mg "wagons_of" s_wagons_of := ⟨fd9, He5.fun_of F9, He.glo_ok X G (sx_fact c 9 rfl)⟩
  have k_wagons_of := ok_wagons_of (P := P) (w := w) (mg := mg) (base := base) g_wagons_of f_list f_range
  obtain ⟨fd12, F12⟩ := sx_def c 12 (d := d_first_stand) rfl
  have g_first_stand : GD K mg "first_stand" s_first_stand := ⟨fd12, He5.fun_of F12, He.glo_ok X G (sx_fact c 12 rfl)⟩
  have k_first_stand := ok_first_stand (P := P) (w := w) (mg := mg) (base := base) g_first_stand 
  obtain ⟨fd13, F13⟩ := sx_def c 13 (d := d_all_home) rfl
  have g_all_home : GD K mg "all_home" s_all_home := ⟨fd13, He5.fun_of F13, He.glo_ok X G (sx_fact c 13 rfl)⟩
  have k_all_home := ok_all_home (P := P) (w := w) (mg := mg) (base := base) g_all_home 
  obtain ⟨fd10, F10⟩ := sx_def c 10 (d := d_is_right_stand) rfl
  have g_is_right_stand : GD K mg "is_right_stand" s_is_right_stand := ⟨fd10, He5.fun_of F10, He.glo_ok X G (sx_fact c 10 rfl)⟩
  have k_is_right_stand := ok_is_right_stand (P := P) (w := w) (mg := mg) (base := base) g_is_right_stand f_isinstance f_tuple f_len f_list f_range f_sorted k_is_whole k_is_wagons k_is_lanes k_wagons_of
  obtain ⟨fd11, F11⟩ := sx_def c 11 (d := d_check_stand) rfl
  have g_check_stand : GD K mg "check_stand" s_check_stand := ⟨fd11, He5.fun_of F11, He.glo_ok X G (sx_fact c 11 rfl)⟩
  have k_check_stand := ok_check_stand (P := P) (w := w) (mg := mg) (base := base) g_check_stand k_is_right_stand
  obtain ⟨fd16, F16⟩ := sx_def c 16 (d := d_moved_in) rfl
  have g_moved_in : GD K mg "moved_in" s_moved_in := ⟨fd16, He5.fun_of F16, He.glo_ok X G (sx_fact c 16 rfl)⟩
  have k_moved_in := ok_moved_in (P := P) (w := w) (mg := mg) (base := base) g_moved_in k_with_lane
  obtain ⟨fd17, F17⟩ := sx_def c 17 (d := d_moved_over) rfl
  have g_moved_over : GD K mg "moved_over" s_moved_over := ⟨fd17, He5.fun_of F17, He.glo_ok X G (sx_fact c 17 rfl)⟩
  have k_moved_over := ok_moved_over (P := P) (w := w) (mg := mg) (base := base) g_moved_over k_with_lane
  obtain ⟨fd18, F18⟩ := sx_def c 18 (d := d_moved_out) rfl
  have g_moved_out : GD K mg "moved_out" s_moved_out := ⟨fd18, He5.fun_of F18, He.glo_ok X G (sx_fact c 18 rfl)⟩
  have k_moved_out := ok_moved_out (P := P) (w := w) (mg := mg) (base := base) g_moved_out k_with_lane
  obtain ⟨fd14, F14⟩ := sx_def c 14 (d := d_is_move) rfl
  have g_is_move : GD K mg "is_move" s_is_move := ⟨fd14, He5.fun_of F14, He.glo_ok X G (sx_fact c 14 rfl)⟩
  have k_is_move := ok_is_move (P := P) (w := w) (mg := mg) (base := base) g_is_move f_isinstance f_tuple f_len f_str k_is_whole
  obtain ⟨fd19, F19⟩ := sx_def c 19 (d := d_after_move) rfl
  have g_after_move : GD K mg "after_move" s_after_move := ⟨fd19, He5.fun_of F19, He.glo_ok X G (sx_fact c 19 rfl)⟩
  have k_after_move := ok_after_move (P := P) (w := w) (mg := mg) (base := base) g_after_move k_is_move k_moved_in k_moved_over k_moved_out
  obtain ⟨fd20, F20⟩ := sx_def c 20 (d := d_tracks_of) rfl
  have g_tracks_of : GD K mg "tracks_of" s_tracks_of := ⟨fd20, He5.fun_of F20, He.glo_ok X G (sx_fact c 20 rfl)⟩
  have k_tracks_of := ok_tracks_of (P := P) (w := w) (mg := mg) (base := base) g_tracks_of f_zip f_len
  obtain ⟨fd21, F21⟩ := sx_def c 21 (d := d_is_over_green) rfl
  have g_is_over_green : GD K mg "is_over_green" s_is_over_green := ⟨fd21, He5.fun_of F21, He.glo_ok X G (sx_fact c 21 rfl)⟩
  have k_is_over_green := ok_is_over_green (P := P) (w := w) (mg := mg) (base := base) g_is_over_green f_list
  obtain ⟨fd22, F22⟩ := sx_def c 22 (d := d_green_moves) rfl
  have g_green_moves : GD K mg "green_moves" s_green_moves := ⟨fd22, He5.fun_of F22, He.glo_ok X G (sx_fact c 22 rfl)⟩
  have k_green_moves := ok_green_moves (P := P) (w := w) (mg := mg) (base := base) g_green_moves f_range f_len f_enumerate f_tuple k_is_over_green
  obtain ⟨fd23, F23⟩ := sx_def c 23 (d := d_check_journal) rfl
  have g_check_journal : GD K mg "check_journal" s_check_journal := ⟨fd23, He5.fun_of F23, He.glo_ok X G (sx_fact c 23 rfl)⟩
  have k_check_journal := ok_check_journal (P := P) (w := w) (mg := mg) (base := base) g_check_journal f_isinstance f_tuple
  obtain ⟨fd24, F24⟩ := sx_def c 24 (d := d_stand_behind) rfl
  have g_stand_behind : GD K mg "stand_behind" s_stand_behind := ⟨fd24, He5.fun_of F24, He.glo_ok X G (sx_fact c 24 rfl)⟩
  have k_stand_behind := ok_stand_behind (P := P) (w := w) (mg := mg) (base := base) g_stand_behind f_enumerate k_first_stand k_after_move
  obtain ⟨fd25, F25⟩ := sx_def c 25 (d := d_leads_to) rfl
  have g_leads_to : GD K mg "leads_to" s_leads_to := ⟨fd25, He5.fun_of F25, He.glo_ok X G (sx_fact c 25 rfl)⟩
  have k_leads_to := ok_leads_to (P := P) (w := w) (mg := mg) (base := base) g_leads_to k_stand_behind
  obtain ⟨fd26, F26⟩ := sx_def c 26 (d := d_replayed) rfl
  have g_replayed : GD K mg "replayed" s_replayed := ⟨fd26, He5.fun_of F26, He.glo_ok X G (sx_fact c 26 rfl)⟩
  have k_replayed := ok_replayed (P := P) (w := w) (mg := mg) (base := base) g_replayed k_stand_behind k_made_yard k_made_row k_check_journal
  obtain ⟨fd27, F27⟩ := sx_def c 27 (d := d_opened) rfl
  have g_opened : GD K mg "opened" s_opened := ⟨fd27, He5.fun_of F27, He.glo_ok X G (sx_fact c 27 rfl)⟩
  have k_opened := ok_opened (P := P) (w := w) (mg := mg) (base := base) g_opened k_leads_to k_made_yard k_made_row k_check_journal k_check_stand
  obtain ⟨fd37, F37⟩ := sx_def c 37 (d := d_check_picks) rfl
  have g_check_picks : GD K mg "check_picks" s_check_picks := ⟨fd37, He5.fun_of F37, He.glo_ok X G (sx_fact c 28 rfl)⟩
  have k_check_picks := ok_check_picks (P := P) (w := w) (mg := mg) (base := base) g_check_picks f_isinstance f_tuple f_enumerate f_int f_bool
  obtain ⟨fd30, F30⟩ := sx_def c 30 (d := d_Engine_stand) rfl
  have g_Engine_stand : GM K "stand" "Engine.stand" s_Engine_stand := ⟨_, fd30, He5.fun_of F30, He.meth_ok (sx_fact c 73 rfl)⟩
  have k_Engine_stand := ok_Engine_stand (P := P) (w := w) (mg := mg) (base := base) g_Engine_stand f_cl na_here
  obtain ⟨fd31, F31⟩ := sx_def c 31 (d := d_Engine_journal) rfl
  have g_Engine_journal : GM K "journal" "Engine.journal" s_Engine_journal := ⟨_, fd31, He5.fun_of F31, He.meth_ok (sx_fact c 74 rfl)⟩
  have k_Engine_journal := ok_Engine_journal (P := P) (w := w) (mg := mg) (base := base) g_Engine_journal f_cl na_entries
  obtain ⟨fd32, F32⟩ := sx_def c 32 (d := d_Engine_greens) rfl
  have g_Engine_greens : GM K "greens" "Engine.greens" s_Engine_greens := ⟨_, fd32, He5.fun_of F32, He.meth_ok (sx_fact c 75 rfl)⟩
  have k_Engine_greens := ok_Engine_greens (P := P) (w := w) (mg := mg) (base := base) g_Engine_greens f_cl na_yard na_tracks na_here k_green_moves
  obtain ⟨fd33, F33⟩ := sx_def c 33 (d := d_Engine_home) rfl
  have g_Engine_home : GM K "home" "Engine.home" s_Engine_home := ⟨_, fd33, He5.fun_of F33, He.meth_ok (sx_fact c 76 rfl)⟩
  have k_Engine_home := ok_Engine_home (P := P) (w := w) (mg := mg) (base := base) g_Engine_home f_cl na_here k_all_home
  obtain ⟨fd34, F34⟩ := sx_def c 34 (d := d_Engine_check_green) rfl
  have g_Engine_check_green : GM K "check_green" "Engine.check_green" s_Engine_check_green := ⟨_, fd34, He5.fun_of F34, He.meth_ok (sx_fact c 77 rfl)⟩
  have k_Engine_check_green := ok_Engine_check_green (P := P) (w := w) (mg := mg) (base := base) g_Engine_check_green f_cl f_isinstance f_tuple f_bool k_Engine_greens
  obtain ⟨fd35, F35⟩ := sx_def c 35 (d := d_Engine_do) rfl
  have g_Engine_do : GM K "do" "Engine.do" s_Engine_do := ⟨_, fd35, He5.fun_of F35, He.meth_ok (sx_fact c 78 rfl)⟩
  have k_Engine_do := ok_Engine_do (P := P) (w := w) (mg := mg) (base := base) g_Engine_do f_cl na_yard na_tracks na_here na_entries k_Engine_check_green k_after_move
  obtain ⟨fd36, F36⟩ := sx_def c 36 (d := d_Engine_cut) rfl
  have g_Engine_cut : GM K "cut" "Engine.cut" s_Engine_cut := ⟨_, fd36, He5.fun_of F36, He.meth_ok (sx_fact c 79 rfl)⟩
  have k_Engine_cut := ok_Engine_cut (P := P) (w := w) (mg := mg) (base := base) g_Engine_cut f_cl f_isinstance f_bool na_yard na_tracks na_here na_entries k_Engine_check_green k_after_move
  obtain ⟨fd28, F28⟩ := sx_def c 28 (d := d_Engine_init) rfl
  have g_Engine_init : GI K mg s_Engine_init := ⟨_, fd28, He5.fun_of F28, He.mkr_ok (sx_fact c 68 rfl), He.glo_ok X G (sx_fact c 66 rfl)⟩
  have k_Engine_init := ok_Engine_init (P := P) (w := w) (mg := mg) (base := base) g_Engine_init f_cl na_yard na_tracks na_here na_entries k_made_yard k_made_row k_made_dealing k_tracks_of k_first_stand
  obtain ⟨fd29, F29⟩ := sx_def c 29 (d := d_Engine_again) rfl
  have g_Engine_again : GS K mg "again" "Engine.again" s_Engine_again := gs_again c F29 (He.glo_ok X G (sx_fact c 66 rfl))
  have k_Engine_again := ok_Engine_again (P := P) (w := w) (mg := mg) (base := base) g_Engine_again f_cl na_here na_entries k_Engine_init k_opened
  obtain ⟨fd38, F38⟩ := sx_def c 38 (d := d_run) rfl
  have g_run : GD K mg "run" s_run := ⟨fd38, He5.fun_of F38, He.glo_ok X G (sx_fact c 29 rfl)⟩
  have k_run := ok_run (P := P) (w := w) (mg := mg) (base := base) g_run f_len f_tuple k_made_yard k_made_row k_made_dealing k_tracks_of k_first_stand k_check_picks k_green_moves k_after_move
  obtain ⟨fd39, F39⟩ := sx_def c 39 (d := d_law_pool) rfl
  have g_law_pool : GD K mg "_law_pool" s_law_pool := ⟨fd39, He5.fun_of F39, He.glo_ok X G (sx_fact c 30 rfl)⟩
  have k_law_pool := ok_law_pool (P := P) (w := w) (mg := mg) (base := base) g_law_pool f_len f_int f_list
  obtain ⟨fd40, F40⟩ := sx_def c 40 (d := d_law_draw) rfl
  have g_law_draw : GD K mg "_law_draw" s_law_draw := ⟨fd40, He5.fun_of F40, He.glo_ok X G (sx_fact c 31 rfl)⟩
  have k_law_draw := ok_law_draw (P := P) (w := w) (mg := mg) (base := base) g_law_draw f_int
  obtain ⟨fd41, F41⟩ := sx_def c 41 (d := d_law_turned) rfl
  have g_law_turned : GD K mg "_law_turned" s_law_turned := ⟨fd41, He5.fun_of F41, He.glo_ok X G (sx_fact c 32 rfl)⟩
  have k_law_turned := ok_law_turned (P := P) (w := w) (mg := mg) (base := base) g_law_turned f_len f_range f_list k_law_draw
  obtain ⟨fd44, F44⟩ := sx_def c 44 (d := d_law_web_ends) rfl
  have g_law_web_ends : GD K mg "_law_web_ends" s_law_web_ends := ⟨fd44, He5.fun_of F44, He.glo_ok X G (sx_fact c 35 rfl)⟩
  have k_law_web_ends := ok_law_web_ends (P := P) (w := w) (mg := mg) (base := base) g_law_web_ends 
  obtain ⟨fd52, F52⟩ := sx_def c 52 (d := d_law_pick) rfl
  have g_law_pick : GD K mg "_law_pick" s_law_pick := ⟨fd52, He5.fun_of F52, He.glo_ok X G (sx_fact c 43 rfl)⟩
  have k_law_pick := ok_law_pick (P := P) (w := w) (mg := mg) (base := base) g_law_pick f_len k_law_draw
  obtain ⟨fd53, F53⟩ := sx_def c 53 (d := d_law_lane_begun) rfl
  have g_law_lane_begun : GD K mg "_law_lane_begun" s_law_lane_begun := ⟨fd53, He5.fun_of F53, He.glo_ok X G (sx_fact c 44 rfl)⟩
  have k_law_lane_begun := ok_law_lane_begun (P := P) (w := w) (mg := mg) (base := base) g_law_lane_begun 
  obtain ⟨fd54, F54⟩ := sx_def c 54 (d := d_law_lane_put) rfl
  have g_law_lane_put : GD K mg "_law_lane_put" s_law_lane_put := ⟨fd54, He5.fun_of F54, He.glo_ok X G (sx_fact c 45 rfl)⟩
  have k_law_lane_put := ok_law_lane_put (P := P) (w := w) (mg := mg) (base := base) g_law_lane_put f_tuple f_enumerate
  obtain ⟨fd42, F42⟩ := sx_def c 42 (d := d_law_web_yard) rfl
  have g_law_web_yard : GD K mg "_law_web_yard" s_law_web_yard := ⟨fd42, He5.fun_of F42, He.glo_ok X G (sx_fact c 33 rfl)⟩
  have k_law_web_yard := ok_law_web_yard (P := P) (w := w) (mg := mg) (base := base) g_law_web_yard f_len f_range f_int f_min f_sorted f_tuple k_law_draw k_law_turned
  obtain ⟨fd45, F45⟩ := sx_def c 45 (d := d_law_web_forest) rfl
  have g_law_web_forest : GD K mg "_law_web_forest" s_law_web_forest := ⟨fd45, He5.fun_of F45, He.glo_ok X G (sx_fact c 36 rfl)⟩
  have k_law_web_forest := ok_law_web_forest (P := P) (w := w) (mg := mg) (base := base) g_law_web_forest f_list f_range k_law_web_ends
  obtain ⟨fd46, F46⟩ := sx_def c 46 (d := d_law_web_drawn_forest) rfl
  have g_law_web_drawn_forest : GD K mg "_law_web_drawn_forest" s_law_web_drawn_forest := ⟨fd46, He5.fun_of F46, He.glo_ok X G (sx_fact c 37 rfl)⟩
  have k_law_web_drawn_forest := ok_law_web_drawn_forest (P := P) (w := w) (mg := mg) (base := base) g_law_web_drawn_forest f_len f_int f_sorted f_tuple k_law_turned k_law_web_forest
  obtain ⟨fd43, F43⟩ := sx_def c 43 (d := d_law_lane_rising) rfl
  have g_law_lane_rising : GD K mg "_law_lane_rising" s_law_lane_rising := ⟨fd43, He5.fun_of F43, He.glo_ok X G (sx_fact c 34 rfl)⟩
  have k_law_lane_rising := ok_law_lane_rising (P := P) (w := w) (mg := mg) (base := base) g_law_lane_rising f_len f_range f_tuple k_law_draw
  obtain ⟨fd47, F47⟩ := sx_def c 47 (d := d_law_lane_home_scene) rfl
  have g_law_lane_home_scene : GD K mg "_law_lane_home_scene" s_law_lane_home_scene := ⟨fd47, He5.fun_of F47, He.glo_ok X G (sx_fact c 38 rfl)⟩
  have k_law_lane_home_scene := ok_law_lane_home_scene (P := P) (w := w) (mg := mg) (base := base) g_law_lane_home_scene k_law_web_yard k_law_web_drawn_forest k_law_lane_rising
  obtain ⟨fd48, F48⟩ := sx_def c 48 (d := d_law_lane_tracks) rfl
  have g_law_lane_tracks : GD K mg "_law_lane_tracks" s_law_lane_tracks := ⟨fd48, He5.fun_of F48, He.glo_ok X G (sx_fact c 39 rfl)⟩
  have k_law_lane_tracks := ok_law_lane_tracks (P := P) (w := w) (mg := mg) (base := base) g_law_lane_tracks f_enumerate
  obtain ⟨fd49, F49⟩ := sx_def c 49 (d := d_law_lane_all) rfl
  have g_law_lane_all : GD K mg "_law_lane_all" s_law_lane_all := ⟨fd49, He5.fun_of F49, He.glo_ok X G (sx_fact c 40 rfl)⟩
  have k_law_lane_all := ok_law_lane_all (P := P) (w := w) (mg := mg) (base := base) g_law_lane_all f_range f_len
  obtain ⟨fd55, F55⟩ := sx_def c 55 (d := d_law_lane_after) rfl
  have g_law_lane_after : GD K mg "_law_lane_after" s_law_lane_after := ⟨fd55, He5.fun_of F55, He.glo_ok X G (sx_fact c 46 rfl)⟩
  have k_law_lane_after := ok_law_lane_after (P := P) (w := w) (mg := mg) (base := base) g_law_lane_after f_len k_law_lane_put
  obtain ⟨fd50, F50⟩ := sx_def c 50 (d := d_law_lane_is_green) rfl
  have g_law_lane_is_green : GD K mg "_law_lane_is_green" s_law_lane_is_green := ⟨fd50, He5.fun_of F50, He.glo_ok X G (sx_fact c 41 rfl)⟩
  have k_law_lane_is_green := ok_law_lane_is_green (P := P) (w := w) (mg := mg) (base := base) g_law_lane_is_green f_len f_range
  obtain ⟨fd51, F51⟩ := sx_def c 51 (d := d_law_lane_greens) rfl
  have g_law_lane_greens : GD K mg "_law_lane_greens" s_law_lane_greens := ⟨fd51, He5.fun_of F51, He.glo_ok X G (sx_fact c 42 rfl)⟩
  have k_law_lane_greens := ok_law_lane_greens (P := P) (w := w) (mg := mg) (base := base) g_law_lane_greens f_tuple k_law_lane_tracks k_law_lane_all k_law_lane_is_green
  obtain ⟨fd56, F56⟩ := sx_def c 56 (d := d_law_lane_run) rfl
  have g_law_lane_run : GD K mg "_law_lane_run" s_law_lane_run := ⟨fd56, He5.fun_of F56, He.glo_ok X G (sx_fact c 47 rfl)⟩
  have k_law_lane_run := ok_law_lane_run (P := P) (w := w) (mg := mg) (base := base) g_law_lane_run f_len f_tuple f_range f_list f_int k_law_lane_greens k_law_lane_after
  obtain ⟨fd57, F57⟩ := sx_def c 57 (d := d_law_goes_on) rfl
  have g_law_goes_on : GD K mg "_law_goes_on" s_law_goes_on := ⟨fd57, He5.fun_of F57, He.glo_ok X G (sx_fact c 48 rfl)⟩
  have k_law_goes_on := ok_law_goes_on (P := P) (w := w) (mg := mg) (base := base) g_law_goes_on f_len f_range f_cl k_Engine_greens k_Engine_journal k_Engine_stand k_Engine_home k_Engine_do k_law_lane_greens k_law_lane_after k_replayed k_law_pick
  obtain ⟨fd58, F58⟩ := sx_def c 58 (d := d_law_found_right) rfl
  have g_law_found_right : GD K mg "_law_found_right" s_law_found_right := ⟨fd58, He5.fun_of F58, He.glo_ok X G (sx_fact c 49 rfl)⟩
  have k_law_found_right := ok_law_found_right (P := P) (w := w) (mg := mg) (base := base) g_law_found_right k_opened k_Engine_again k_law_goes_on
  exact ok_law F f_len f_range f_tuple f_enumerate f_cl k_law_pool k_law_lane_home_scene k_law_draw k_run k_law_lane_run k_law_lane_begun k_all_home k_law_found_right k_law_lane_after k_Engine_init k_Engine_greens k_Engine_journal k_Engine_stand k_Engine_home k_Engine_do k_Engine_cut
theorem law_sp {H : Hp} {a : Addr} {ns : List Int} (hS : SqL K H a (ns.map V.int)) : spOf K S_law [.ref a] H (fun v _ => v = .bl true) fun _ _ _ => False := by
  refine ⟨H, fun _ => [], [.dat (.list (ns.map .int))], fun _ r => r = .dat (.bool true), ⟨Same.refl _, rfl, fun i c hc => ?_, fun i a ha => by simp at ha, fun i j a ha => by simp at ha⟩, fun _ _ => rfl, ⟨ns, rfl, rfl⟩, fun F' H' fp' cs' v r fn f1 s1 z1 z2 ro hr => ?_⟩
  · cases i with
    | zero =>
      cases hc
      exact ⟨.ref a, rfl, .lst hS (DpAll.ints ns), rfl⟩
    | succ i => simp at hc
  · subst hr
    exact ro.1.blE
theorem bindL {fd : FuncData} (F : Fun K "law" "law" s_law (He.ga K "law") fd) (s : Shared) (v : Value) : BindsTo s fd ⟨[v], []⟩ [("_law_script", v)] := by
  obtain ⟨oc, od, kV, doc, pm, an, cdv, ct, osl, rfl, lk, hcd⟩ := F.ex
  exact .of_eq rfl
end
end TW
open PySem PySem.W PySem.Calls PyProof.Rows
theorem PySem.Challenge.cw_trackworth_k56_whole_cut_at_each_move_holds : PySem.Challenge.rw_trackworth_k56_whole_cut_at_each_move.Holds := by
  w_on; o_law
  refine HandSHeadRun.head_any (r := OpenLaw.row PySem.Challenge.rw_trackworth_k56_whole_cut_at_each_move) (q := view (OpenLaw.row PySem.Challenge.rw_trackworth_k56_whole_cut_at_each_move).prog [76]) (H := TW.Hd.hookX) (ob := TW.Hd.ob) (M := 20000) (loose := TW.Hd.names) (d := HandSHeadRun.topDef (OpenLaw.row PySem.Challenge.rw_trackworth_k56_whole_cut_at_each_move).prog 76) (kwd := []) TW.Hd.ob_eq
    (by kernel_rfl) (fun s => by kernel_rfl) TW.Hd.run_ok (by kernel_rfl) (by kernel_rfl) (by kernel_rfl) (by rfl) (by first | assumption | decide +kernel) (by decide +kernel) ⟨rfl, rfl, rfl, rfl, rfl, by decide +kernel⟩ ?hw ?hc
  case hw => w_witness2
  case hc =>
    refine L2.walk_ofE (l := PySem.Challenge.rw_trackworth_k56_whole_cut_at_each_move) (n := 63) (k := 11) (x := "_law_script") (CX := L2.CX0) rfl (by decide) (by kernel_rfl) ⟨rfl, by decide, by decide⟩ ?F (fun _ _ _ _ z => z)
    intro w mg fa h Y G hmg0
    obtain ⟨K, KX, c⟩ := Y
    have hmg : mg ("law" : PySem.Str) = some (.ref fa) := by
      have e : (HandSHeadRun.topDef (OpenLaw.row PySem.Challenge.rw_trackworth_k56_whole_cut_at_each_move).prog 76).name = ("law" : PySem.Str) := by kernel_rfl
      rw [← e]
      exact hmg0
    obtain ⟨fd, F0⟩ := TW.sx_def c 59 (d := TW.Hd.d_law) rfl
    have F : L2.Fun K "law" "law" TW.s_law (He.ga K "law") fd := He5.fun_of F0
    have e := hmg.symm.trans (He.glo_ok KX G (TW.sx_fact c 50 rfl))
    cases e
    exact ⟨K, fd, TW.spOf K TW.S_law, KX, fun s v => TW.bindL F s v, fun H a ns hl _ hS => TW.law_sp hS, fun base B1 B2 => TW.all_ok B1 B2 c F⟩
#print axioms PySem.Challenge.cw_trackworth_k56_whole_cut_at_each_move_holds

