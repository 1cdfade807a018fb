import PyProof.Rows.All
import Wide.All
import OpenK.AllK
import Wide.FinOn
import HandS.ForMost
import HandS.TupAny
import HandS.TupMul
import HandS.IsInst
import HandS.Style
import HandS.Zip
import HandS.Wide
import HandS.Conv
import HandS.Walk
import HandS.More
import HandS.Star
import HandS.Iter
import PyProof.StrOps2
import KE.DataEq
import KE.DataFind
import KE.DataCmp
import KE.DataMinMax
import KE.SortData
import KE.KTupSum
import KE.GoesEnum
import HandS.Head0
import HandS.Head1
import HandS.Head2
import HandS.HeadHook1
import HandS.HeadHook2
import HandS.HeadEnd
import HandS.Defaults
import PyProof.ReprRoads
import HandS.RaiseMore
import PySem.Challenge.RW_mendgarage_k82_whole_drives_by_teeth_gea
set_option Elab.async false
set_option linter.all false
set_option maxRecDepth 100000
set_option maxHeartbeats 0
namespace Pd
end Pd
namespace Gen
open PySem PySem.Spec PyProof.Rows L2 Pd
def topS (i : Nat) : Stmt := PySem.Challenge.pw_mendgarage_k82_whole_drives_by_teeth_gea.main.body.getD i (.Pass ⟨0, 0, 0, 0⟩)
abbrev s_law_hand : Stmt := topS 77
abbrev s_law_low : Stmt := topS 84
abbrev s_law_times : Stmt := topS 86
abbrev s_law_draw : Stmt := topS 78
abbrev s_law_drive : Stmt := topS 89
abbrev s_is_less : Stmt := topS 10
abbrev s_shared : Stmt := topS 5
abbrev s_is_integer : Stmt := topS 1
abbrev s_is_fraction : Stmt := topS 12
abbrev s_is_part : Stmt := topS 33
abbrev s_is_gearbox : Stmt := topS 34
abbrev s_is_within : Stmt := topS 2
abbrev s_is_engine : Stmt := topS 35
abbrev s_is_row : Stmt := topS 3
abbrev s_is_drive : Stmt := topS 50
abbrev s_is_trip : Stmt := topS 51
abbrev s_check_drive : Stmt := topS 52
abbrev s_pull_of : Stmt := topS 42
abbrev s_low : Stmt := topS 6
abbrev s_times : Stmt := topS 8
abbrev s_pulls_of : Stmt := topS 46
abbrev s_wheel_pulls_drives : Stmt := topS 56
abbrev s_shaft_turns : Stmt := topS 53
abbrev s_shaft_at : Stmt := topS 54
abbrev s_gears_good : Stmt := topS 58
abbrev s_drive_pulls : Stmt := topS 55
abbrev s_trip_told : Stmt := topS 59
abbrev s_law_is_less : Stmt := topS 88
abbrev s_check_reading : Stmt := topS 72
abbrev s_turned_between : Stmt := topS 74
abbrev s_wheel_turns : Stmt := topS 75
abbrev s_plus : Stmt := topS 7
abbrev s_sum_of : Stmt := topS 11
abbrev s_trip_time : Stmt := topS 61
abbrev s_law_plus : Stmt := topS 85
abbrev s_law_sum : Stmt := topS 87
abbrev s_check_gearbox : Stmt := topS 37
abbrev s_check_both : Stmt := topS 43
abbrev s_is_speed : Stmt := topS 36
abbrev s_wheel_pulls_gearboxes : Stmt := topS 44
abbrev s_check_speed : Stmt := topS 38
abbrev s_revs_at : Stmt := topS 39
abbrev s_top_speed : Stmt := topS 66
abbrev s_odometer_after : Stmt := topS 65
abbrev s_pull_at : Stmt := topS 41
abbrev s_over : Stmt := topS 9
abbrev s_steps_of : Stmt := topS 48
abbrev s_shown : Stmt := topS 73
abbrev s_tops_of : Stmt := topS 47
abbrev s_law_shaft : Stmt := topS 90
abbrev s_law_pulls : Stmt := topS 91
abbrev s_law_good : Stmt := topS 92
abbrev s_wheel_at : Stmt := topS 40
abbrev s_law_are_rest_right : Stmt := topS 94
abbrev s_is_trip_told : Stmt := topS 60
abbrev s_trip_turns : Stmt := topS 62
abbrev s_fewest_turns : Stmt := topS 63
abbrev s_is_some : Stmt := topS 4
abbrev s_is_belt : Stmt := topS 26
abbrev s_check_belt : Stmt := topS 27
abbrev s_check_moved : Stmt := topS 28
abbrev s_marks_after : Stmt := topS 29
abbrev s_belt_after : Stmt := topS 64
abbrev s_check_teeth : Stmt := topS 68
abbrev s_turned_by : Stmt := topS 69
abbrev s_law_any : Stmt := topS 79
abbrev s_round_of : Stmt := topS 30
abbrev s_law_right : Stmt := topS 93
abbrev s_law : Stmt := topS 95
end Gen
namespace Head
open PySem PySem.Spec PyProof.Rows L2 Pd Gen
def d_law_hand : He.DefD := ⟨("_law_hand", none), "_law_hand", "_law_hand", defArgs s_law_hand, defBody s_law_hand, defScope s_law_hand, [], []⟩
def d_law_low : He.DefD := ⟨("_law_low", none), "_law_low", "_law_low", defArgs s_law_low, defBody s_law_low, defScope s_law_low, [], []⟩
def d_law_times : He.DefD := ⟨("_law_times", none), "_law_times", "_law_times", defArgs s_law_times, defBody s_law_times, defScope s_law_times, [], []⟩
def d_law_draw : He.DefD := ⟨("_law_draw", none), "_law_draw", "_law_draw", defArgs s_law_draw, defBody s_law_draw, defScope s_law_draw, [], []⟩
def d_law_drive : He.DefD := ⟨("_law_drive", none), "_law_drive", "_law_drive", defArgs s_law_drive, defBody s_law_drive, defScope s_law_drive, [], []⟩
def d_is_less : He.DefD := ⟨("is_less", none), "is_less", "is_less", defArgs s_is_less, defBody s_is_less, defScope s_is_less, [], []⟩
def d_shared : He.DefD := ⟨("shared", none), "shared", "shared", defArgs s_shared, defBody s_shared, defScope s_shared, [], []⟩
def d_is_integer : He.DefD := ⟨("is_integer", none), "is_integer", "is_integer", defArgs s_is_integer, defBody s_is_integer, defScope s_is_integer, [], []⟩
def d_is_fraction : He.DefD := ⟨("is_fraction", none), "is_fraction", "is_fraction", defArgs s_is_fraction, defBody s_is_fraction, defScope s_is_fraction, [], []⟩
def d_is_part : He.DefD := ⟨("is_part", none), "is_part", "is_part", defArgs s_is_part, defBody s_is_part, defScope s_is_part, [], []⟩
def d_is_gearbox : He.DefD := ⟨("is_gearbox", none), "is_gearbox", "is_gearbox", defArgs s_is_gearbox, defBody s_is_gearbox, defScope s_is_gearbox, [], []⟩
def d_is_within : He.DefD := ⟨("is_within", none), "is_within", "is_within", defArgs s_is_within, defBody s_is_within, defScope s_is_within, [], []⟩
def d_is_engine : He.DefD := ⟨("is_engine", none), "is_engine", "is_engine", defArgs s_is_engine, defBody s_is_engine, defScope s_is_engine, [], []⟩
def d_is_row : He.DefD := ⟨("is_row", none), "is_row", "is_row", defArgs s_is_row, defBody s_is_row, defScope s_is_row, [], []⟩
def d_is_drive : He.DefD := ⟨("is_drive", none), "is_drive", "is_drive", defArgs s_is_drive, defBody s_is_drive, defScope s_is_drive, [], []⟩
def d_is_trip : He.DefD := ⟨("is_trip", none), "is_trip", "is_trip", defArgs s_is_trip, defBody s_is_trip, defScope s_is_trip, [], []⟩
def d_check_drive : He.DefD := ⟨("check_drive", none), "check_drive", "check_drive", defArgs s_check_drive, defBody s_check_drive, defScope s_check_drive, [], []⟩
def d_pull_of : He.DefD := ⟨("pull_of", none), "pull_of", "pull_of", defArgs s_pull_of, defBody s_pull_of, defScope s_pull_of, [], []⟩
def d_low : He.DefD := ⟨("low", none), "low", "low", defArgs s_low, defBody s_low, defScope s_low, [], []⟩
def d_times : He.DefD := ⟨("times", none), "times", "times", defArgs s_times, defBody s_times, defScope s_times, [], []⟩
def d_pulls_of : He.DefD := ⟨("pulls_of", none), "pulls_of", "pulls_of", defArgs s_pulls_of, defBody s_pulls_of, defScope s_pulls_of, [], []⟩
def d_wheel_pulls_drives : He.DefD := ⟨("wheel_pulls_drives", none), "wheel_pulls", "wheel_pulls", defArgs s_wheel_pulls_drives, defBody s_wheel_pulls_drives, defScope s_wheel_pulls_drives, [], []⟩
def d_shaft_turns : He.DefD := ⟨("shaft_turns", none), "shaft_turns", "shaft_turns", defArgs s_shaft_turns, defBody s_shaft_turns, defScope s_shaft_turns, [], []⟩
def d_shaft_at : He.DefD := ⟨("shaft_at", none), "shaft_at", "shaft_at", defArgs s_shaft_at, defBody s_shaft_at, defScope s_shaft_at, [], []⟩
def d_gears_good : He.DefD := ⟨("gears_good", none), "gears_good", "gears_good", defArgs s_gears_good, defBody s_gears_good, defScope s_gears_good, [], []⟩
def d_drive_pulls : He.DefD := ⟨("drive_pulls", none), "drive_pulls", "drive_pulls", defArgs s_drive_pulls, defBody s_drive_pulls, defScope s_drive_pulls, [], []⟩
def d_trip_told : He.DefD := ⟨("trip_told", none), "trip_told", "trip_told", defArgs s_trip_told, defBody s_trip_told, defScope s_trip_told, [], []⟩
def d_law_is_less : He.DefD := ⟨("_law_is_less", none), "_law_is_less", "_law_is_less", defArgs s_law_is_less, defBody s_law_is_less, defScope s_law_is_less, [], []⟩
def d_check_reading : He.DefD := ⟨("check_reading", none), "check_reading", "check_reading", defArgs s_check_reading, defBody s_check_reading, defScope s_check_reading, [], []⟩
def d_turned_between : He.DefD := ⟨("turned_between", none), "turned_between", "turned_between", defArgs s_turned_between, defBody s_turned_between, defScope s_turned_between, [], []⟩
def d_wheel_turns : He.DefD := ⟨("wheel_turns", none), "wheel_turns", "wheel_turns", defArgs s_wheel_turns, defBody s_wheel_turns, defScope s_wheel_turns, [], []⟩
def d_plus : He.DefD := ⟨("plus", none), "plus", "plus", defArgs s_plus, defBody s_plus, defScope s_plus, [], []⟩
def d_sum_of : He.DefD := ⟨("sum_of", none), "sum_of", "sum_of", defArgs s_sum_of, defBody s_sum_of, defScope s_sum_of, [], []⟩
def d_trip_time : He.DefD := ⟨("trip_time", none), "trip_time", "trip_time", defArgs s_trip_time, defBody s_trip_time, defScope s_trip_time, [], []⟩
def d_law_plus : He.DefD := ⟨("_law_plus", none), "_law_plus", "_law_plus", defArgs s_law_plus, defBody s_law_plus, defScope s_law_plus, [], []⟩
def d_law_sum : He.DefD := ⟨("_law_sum", none), "_law_sum", "_law_sum", defArgs s_law_sum, defBody s_law_sum, defScope s_law_sum, [], []⟩
def d_check_gearbox : He.DefD := ⟨("check_gearbox", none), "check_gearbox", "check_gearbox", defArgs s_check_gearbox, defBody s_check_gearbox, defScope s_check_gearbox, [], []⟩
def d_check_both : He.DefD := ⟨("check_both", none), "check_both", "check_both", defArgs s_check_both, defBody s_check_both, defScope s_check_both, [], []⟩
def d_is_speed : He.DefD := ⟨("is_speed", none), "is_speed", "is_speed", defArgs s_is_speed, defBody s_is_speed, defScope s_is_speed, [], []⟩
def d_wheel_pulls_gearboxes : He.DefD := ⟨("wheel_pulls_gearboxes", none), "wheel_pulls", "wheel_pulls", defArgs s_wheel_pulls_gearboxes, defBody s_wheel_pulls_gearboxes, defScope s_wheel_pulls_gearboxes, [], []⟩
def d_check_speed : He.DefD := ⟨("check_speed", none), "check_speed", "check_speed", defArgs s_check_speed, defBody s_check_speed, defScope s_check_speed, [], []⟩
def d_revs_at : He.DefD := ⟨("revs_at", none), "revs_at", "revs_at", defArgs s_revs_at, defBody s_revs_at, defScope s_revs_at, [], []⟩
def d_top_speed : He.DefD := ⟨("top_speed", none), "top_speed", "top_speed", defArgs s_top_speed, defBody s_top_speed, defScope s_top_speed, [], []⟩
def d_odometer_after : He.DefD := ⟨("odometer_after", none), "odometer_after", "odometer_after", defArgs s_odometer_after, defBody s_odometer_after, defScope s_odometer_after, [], []⟩
def d_pull_at : He.DefD := ⟨("pull_at", none), "pull_at", "pull_at", defArgs s_pull_at, defBody s_pull_at, defScope s_pull_at, [], []⟩
def d_over : He.DefD := ⟨("over", none), "over", "over", defArgs s_over, defBody s_over, defScope s_over, [], []⟩
def d_steps_of : He.DefD := ⟨("steps_of", none), "steps_of", "steps_of", defArgs s_steps_of, defBody s_steps_of, defScope s_steps_of, [], []⟩
def d_shown : He.DefD := ⟨("shown", none), "shown", "shown", defArgs s_shown, defBody s_shown, defScope s_shown, [], []⟩
def d_tops_of : He.DefD := ⟨("tops_of", none), "tops_of", "tops_of", defArgs s_tops_of, defBody s_tops_of, defScope s_tops_of, [], []⟩
def d_law_shaft : He.DefD := ⟨("_law_shaft", none), "_law_shaft", "_law_shaft", defArgs s_law_shaft, defBody s_law_shaft, defScope s_law_shaft, [], []⟩
def d_law_pulls : He.DefD := ⟨("_law_pulls", none), "_law_pulls", "_law_pulls", defArgs s_law_pulls, defBody s_law_pulls, defScope s_law_pulls, [], []⟩
def d_law_good : He.DefD := ⟨("_law_good", none), "_law_good", "_law_good", defArgs s_law_good, defBody s_law_good, defScope s_law_good, [], []⟩
def d_wheel_at : He.DefD := ⟨("wheel_at", none), "wheel_at", "wheel_at", defArgs s_wheel_at, defBody s_wheel_at, defScope s_wheel_at, [], []⟩
def d_law_are_rest_right : He.DefD := ⟨("_law_are_rest_right", none), "_law_are_rest_right", "_law_are_rest_right", defArgs s_law_are_rest_right, defBody s_law_are_rest_right, defScope s_law_are_rest_right, [], []⟩
def d_is_trip_told : He.DefD := ⟨("is_trip_told", none), "is_trip_told", "is_trip_told", defArgs s_is_trip_told, defBody s_is_trip_told, defScope s_is_trip_told, [], []⟩
def d_trip_turns : He.DefD := ⟨("trip_turns", none), "trip_turns", "trip_turns", defArgs s_trip_turns, defBody s_trip_turns, defScope s_trip_turns, [], []⟩
def d_fewest_turns : He.DefD := ⟨("fewest_turns", none), "fewest_turns", "fewest_turns", defArgs s_fewest_turns, defBody s_fewest_turns, defScope s_fewest_turns, [], []⟩
def d_is_some : He.DefD := ⟨("is_some", none), "is_some", "is_some", defArgs s_is_some, defBody s_is_some, defScope s_is_some, [], []⟩
def d_is_belt : He.DefD := ⟨("is_belt", none), "is_belt", "is_belt", defArgs s_is_belt, defBody s_is_belt, defScope s_is_belt, [], []⟩
def d_check_belt : He.DefD := ⟨("check_belt", none), "check_belt", "check_belt", defArgs s_check_belt, defBody s_check_belt, defScope s_check_belt, [], []⟩
def d_check_moved : He.DefD := ⟨("check_moved", none), "check_moved", "check_moved", defArgs s_check_moved, defBody s_check_moved, defScope s_check_moved, [], []⟩
def d_marks_after : He.DefD := ⟨("marks_after", none), "marks_after", "marks_after", defArgs s_marks_after, defBody s_marks_after, defScope s_marks_after, [], []⟩
def d_belt_after : He.DefD := ⟨("belt_after", none), "belt_after", "belt_after", defArgs s_belt_after, defBody s_belt_after, defScope s_belt_after, [], []⟩
def d_check_teeth : He.DefD := ⟨("check_teeth", none), "check_teeth", "check_teeth", defArgs s_check_teeth, defBody s_check_teeth, defScope s_check_teeth, [], []⟩
def d_turned_by : He.DefD := ⟨("turned_by", none), "turned_by", "turned_by", defArgs s_turned_by, defBody s_turned_by, defScope s_turned_by, [], []⟩
def d_law_any : He.DefD := ⟨("_law_any", none), "_law_any", "_law_any", defArgs s_law_any, defBody s_law_any, defScope s_law_any, [], []⟩
def d_round_of : He.DefD := ⟨("round_of", none), "round_of", "round_of", defArgs s_round_of, defBody s_round_of, defScope s_round_of, [], []⟩
def d_law_right : He.DefD := ⟨("_law_right", none), "_law_right", "_law_right", defArgs s_law_right, defBody s_law_right, defScope s_law_right, [], []⟩
def d_law : He.DefD := ⟨("law", none), "law", "law", defArgs s_law, defBody s_law, defScope s_law, [], []⟩
def fn0 : List He.DefD := [d_law_hand, d_law_low, d_law_times, d_law_draw, d_law_drive, d_is_less, d_shared, d_is_integer, d_is_fraction, d_is_part, d_is_gearbox, d_is_within, d_is_engine, d_is_row, d_is_drive, d_is_trip, d_check_drive, d_pull_of, d_low, d_times, d_pulls_of, d_wheel_pulls_drives, d_shaft_turns, d_shaft_at, d_gears_good, d_drive_pulls, d_trip_told, d_law_is_less, d_check_reading, d_turned_between]
def fn1 : List He.DefD := [d_wheel_turns, d_plus, d_sum_of, d_trip_time, d_law_plus, d_law_sum, d_check_gearbox, d_check_both, d_is_speed, d_wheel_pulls_gearboxes, d_check_speed, d_revs_at, d_top_speed, d_odometer_after, d_pull_at, d_over, d_steps_of, d_shown, d_tops_of, d_law_shaft, d_law_pulls, d_law_good, d_wheel_at, d_law_are_rest_right, d_is_trip_told, d_trip_turns, d_fewest_turns, d_is_some, d_is_belt, d_check_belt]
def fn2 : List He.DefD := [d_check_moved, d_marks_after, d_belt_after, d_check_teeth, d_turned_by, d_law_any, d_round_of, d_law_right, d_law]
def fn : List He.DefD := fn0 ++ fn1 ++ fn2
def fa0 : List He.Fa := [.glo "_law_hand", .glo "_law_low", .glo "_law_times", .glo "_law_draw", .glo "_law_drive", .glo "is_less", .glo "shared", .glo "is_integer", .glo "is_fraction", .glo "is_part", .glo "is_gearbox", .glo "is_within", .glo "is_engine", .glo "is_row", .glo "is_drive", .glo "is_trip", .glo "check_drive", .glo "pull_of", .glo "low", .glo "times", .glo "pulls_of", .glo "wheel_pulls_drives", .glo "shaft_turns", .glo "shaft_at", .glo "gears_good", .glo "drive_pulls", .glo "trip_told", .glo "_law_is_less", .glo "check_reading", .glo "turned_between"]
def fa1 : List He.Fa := [.glo "wheel_turns", .glo "plus", .glo "sum_of", .glo "trip_time", .glo "_law_plus", .glo "_law_sum", .glo "check_gearbox", .glo "check_both", .glo "is_speed", .glo "wheel_pulls_gearboxes", .glo "check_speed", .glo "revs_at", .glo "top_speed", .glo "odometer_after", .glo "pull_at", .glo "over", .glo "steps_of", .glo "shown", .glo "tops_of", .glo "_law_shaft", .glo "_law_pulls", .glo "_law_good", .glo "wheel_at", .glo "_law_are_rest_right", .glo "is_trip_told", .glo "trip_turns", .glo "fewest_turns", .glo "is_some", .glo "is_belt", .glo "check_belt"]
def fa2 : List He.Fa := [.glo "check_moved", .glo "marks_after", .glo "belt_after", .glo "check_teeth", .glo "turned_by", .glo "_law_any", .glo "round_of", .glo "_law_right", .glo "law", .free "len", .free "int", .free "abs", .free "tuple", .free "range", .free "isinstance", .free "bool", .free "all", .int "MOST_gearboxes" 10000, .free "zip", .free "enumerate", .int "MOST_odometers" 999999999, .free "sum", .free "str", .free "repr"]
def fa : List He.Fa := fa0 ++ fa1 ++ fa2
def loose0 : List Str := ["is_integer", "is_within", "is_row", "is_some", "shared", "low", "plus", "times", "over", "is_less", "sum_of", "is_fraction", "GarageError", "NoBelt", "NoDrive", "NoEngine", "NoGearbox", "NoMarks", "NoRatio", "NoReading", "NoSpeed", "NoTeeth", "NoTrip", "is_belt", "check_belt", "check_moved", "marks_after", "round_of", "MOST_gearboxes", "is_part"]
def loose1 : List Str := ["is_gearbox", "is_engine", "is_speed", "check_gearbox", "check_speed", "revs_at", "wheel_at", "pull_at", "pull_of", "check_both", "wheel_pulls", "wheel_pulls_gearboxes", "pulls_of", "tops_of", "steps_of", "is_drive", "is_trip", "check_drive", "shaft_turns", "shaft_at", "drive_pulls", "wheel_pulls_drives", "gears_good", "trip_told", "is_trip_told", "trip_time", "trip_turns", "fewest_turns", "belt_after", "odometer_after"]
def loose2 : List Str := ["top_speed", "check_teeth", "turned_by", "MOST_odometers", "check_reading", "shown", "turned_between", "wheel_turns", "_law_hand", "_law_draw", "_law_any", "_law_is_flag", "_law_is_integer", "_law_is_number", "_law_mixed", "_law_low", "_law_plus", "_law_times", "_law_sum", "_law_is_less", "_law_drive", "_law_shaft", "_law_pulls", "_law_good", "_law_right", "_law_are_rest_right"]
def loose : List Str := loose0 ++ loose1 ++ loose2
abbrev R : PySem.W.OpenRow := PySem.W.OpenLaw.row PySem.Challenge.rw_mendgarage_k82_whole_drives_by_teeth_gea
abbrev hk : PySem.W.Hook := He.hookD 4 fa fn
def ob (s : PySem.W.SharedT) : He.AlD := He.obsDG 4 fa fn (HandSHeadRun.getT s)
theorem ob_eq (s : PySem.W.SharedT) : ob s = hk.obs s.abs := He.obsDG_eq (HandSHeadRun.getT_eq s)
theorem run (w : World) : HandSHeadRun.RunEq R (PySem.W.view R.prog [95]) hk ob 9000 loose w := by
  intro os
  kernel_rfl
end Head

set_option Elab.async false
set_option linter.all false
set_option maxRecDepth 100000
set_option maxHeartbeats 4000000
/-! Pd1: values as data (PyData), who holds which list, evaluation without an address in sight: the core. -/
namespace Pd
open PySem PySem.Spec PyProof.Rows L2

abbrev D := PyData

/-! ### heaps that keep what may be read -/
structure Sm (H H' : Hp) : Prop where
  rd : ∀ a u, Rd H a u → Rd H' a u
  ls : ∀ a xs, H a = some (.lst xs) → H' a = some (.lst xs)
theorem Sm.refl (H : Hp) : Sm H H := ⟨fun _ _ h => h, fun _ _ h => h⟩
theorem Sm.trans {H H1 H2 : Hp} (a : Sm H H1) (b : Sm H1 H2) : Sm H H2 := ⟨fun x u h => b.rd x u (a.rd x u h), fun x u h => b.ls x u (a.ls x u h)⟩
theorem rdSame {H H' : Hp} (e : Same H H') {a : Addr} {u : HO} (h : Rd H a u) : Rd H' a u := by
  rcases h with h | ⟨o, h⟩
  · exact .inl (e _ _ h)
  · exact .inr ⟨o, e _ _ h⟩
theorem smOf {H H' : Hp} (e : Same H H') : Sm H H' := ⟨fun _ _ h => rdSame e h, fun _ _ h => e _ _ h⟩
theorem sameNew {H : Hp} {p : Addr} (h : H p = none) (o : HO) : Same H (upd H p o) := fun b u q => by rw [upd_ne (ne_of_none q h)]; exact q
theorem Sm.dom {H H' : Hp} (e : Sm H H') {a : Addr} (h : H' a = none) : H a = none := by
  cases q : H a with
  | none => rfl
  | some o =>
    rcases e.rd a o (.inl q) with r | ⟨o', r⟩ <;> (rw [h] at r; cases r)
theorem Sm.sqt {K : PySem.W.Frag} {H H' : Hp} (e : Sm H H') {a : Addr} {xs : List V} (h : SqT K H a xs) : SqT K H' a xs := by
  rcases h with h | h
  · exact .inl (e.rd _ _ h)
  · exact .inr h
/-- an address that H does not know may change -/
theorem Sm.mut {B H : Hp} (e : Sm B H) {p : Addr} (h : B p = none) (o : HO) : Sm B (upd H p o) := by
  have ne : ∀ a o', B a = some o' → a ≠ p := fun a o' q => ne_of_none q h
  refine ⟨fun a u r => ?_, fun a xs r => by rw [upd_ne (ne _ _ r)]; exact e.ls _ _ r⟩
  have na : a ≠ p := by rcases r with r | ⟨o', r⟩ <;> exact ne _ _ r
  rcases e.rd a u r with q | ⟨o', q⟩
  · exact .inl (by rw [upd_ne na]; exact q)
  · exact .inr ⟨o', by rw [upd_ne na]; exact q⟩
theorem Sm.free {H H' : Hp} (e : Same H H') {a : Addr} (h : H' a = none) : H a = none := (smOf e).dom h

/-! ### what stands for which data -/
def kD : Key → D
  | .inl i => .int i
  | .inr x => .str x
/-- a dict's keys and values -/
inductive DicV : HO → List D → List V → Prop
  | k (kvs : List (Key × V)) : DicV (.dK kvs) (kvs.map fun p => kD p.1) (kvs.map fun p => p.2)
  | t (kvs : List (List Key × V)) : DicV (.dT kvs) (.none :: kvs.map fun p => .tuple (p.1.map kD)) (.non :: kvs.map fun p => p.2)
mutual
inductive Rep (K : PySem.W.Frag) (H : Hp) : V → D → Prop
  | non : Rep K H .non .none
  | bl (b : Bool) : Rep K H (.bl b) (.bool b)
  | int (i : Int) : Rep K H (.int i) (.int i)
  | str (x : Str) : Rep K H (.str x) (.str x)
  | lst {a : Addr} {xs : List V} {ds : List D} : H a = some (.lst xs) → RepL K H xs ds → Rep K H (.ref a) (.list ds)
  | tup {a : Addr} {xs : List V} {ds : List D} : SqT K H a xs → RepL K H xs ds → Rep K H (.ref a) (.tuple ds)
  | dic {a : Addr} {u : HO} {ks : List D} {xs : List V} {ds : List D} {es : List (D × D)} : Rd H a u → DicV u ks xs → RepL K H xs ds → es = ks.zip ds → Rep K H (.ref a) (.dict es)
  | scr {a : Addr} {xs : List V} {ds : List D} : SqL K H a xs → RepL K H xs ds → Rep K H (.ref a) (.dict [(.bool true, .list ds)])
inductive RepL (K : PySem.W.Frag) (H : Hp) : List V → List D → Prop
  | nil : RepL K H [] []
  | cons {v : V} {vs : List V} {d : D} {ds : List D} : Rep K H v d → RepL K H vs ds → RepL K H (v :: vs) (d :: ds)
end
/-! .. the same, with the lists and dicts in it: fp -/
mutual
inductive Rp (K : PySem.W.Frag) (H : Hp) : V → D → List Addr → Prop
  | non : Rp K H .non .none []
  | bl (b : Bool) : Rp K H (.bl b) (.bool b) []
  | int (i : Int) : Rp K H (.int i) (.int i) []
  | str (x : Str) : Rp K H (.str x) (.str x) []
  | lst {a : Addr} {xs : List V} {ds : List D} {fp : List Addr} : H a = some (.lst xs) → RpL K H xs ds fp → Rp K H (.ref a) (.list ds) (a :: fp)
  | tup {a : Addr} {xs : List V} {ds : List D} {fp : List Addr} : SqT K H a xs → RpL K H xs ds fp → Rp K H (.ref a) (.tuple ds) fp
  | dic {a : Addr} {u : HO} {ks : List D} {xs : List V} {ds : List D} {es : List (D × D)} {fp : List Addr} : H a = some u → DicV u ks xs → RpL K H xs ds fp → es = ks.zip ds → Rp K H (.ref a) (.dict es) (a :: fp)
inductive RpL (K : PySem.W.Frag) (H : Hp) : List V → List D → List Addr → Prop
  | nil : RpL K H [] [] []
  | cons {v : V} {vs : List V} {d : D} {ds : List D} {f g : List Addr} : Rp K H v d f → RpL K H vs ds g → RpL K H (v :: vs) (d :: ds) (f ++ g)
end
section
variable {K : PySem.W.Frag} {H H' : Hp}
mutual
theorem Rep.mono (e : Sm H H') : ∀ {v : V} {d : D}, Rep K H v d → Rep K H' v d
  | _, _, .non => .non
  | _, _, .bl b => .bl b
  | _, _, .int i => .int i
  | _, _, .str x => .str x
  | _, _, .lst h r => .lst (e.ls _ _ h) (RepL.mono e r)
  | _, _, .tup h r => .tup (e.sqt h) (RepL.mono e r)
  | _, _, .dic h k r q => .dic (e.rd _ _ h) k (RepL.mono e r) q
  | _, _, .scr h r => .scr (h.imp (e.rd _ _) id) (RepL.mono e r)
theorem RepL.mono (e : Sm H H') : ∀ {vs : List V} {ds : List D}, RepL K H vs ds → RepL K H' vs ds
  | _, _, .nil => .nil
  | _, _, .cons r t => .cons (Rep.mono e r) (RepL.mono e t)
end
mutual
theorem Rp.rep : ∀ {v : V} {d : D} {fp : List Addr}, Rp K H v d fp → Rep K H v d
  | _, _, _, .non => .non
  | _, _, _, .bl b => .bl b
  | _, _, _, .int i => .int i
  | _, _, _, .str x => .str x
  | _, _, _, .lst h r => .lst h (RpL.rep r)
  | _, _, _, .tup h r => .tup h (RpL.rep r)
  | _, _, _, .dic h k r q => .dic (.inl h) k (RpL.rep r) q
theorem RpL.rep : ∀ {vs : List V} {ds : List D} {fp : List Addr}, RpL K H vs ds fp → RepL K H vs ds
  | _, _, _, .nil => .nil
  | _, _, _, .cons r t => .cons (Rp.rep r) (RpL.rep t)
end
mutual
/-- what is at fp stays, and the tuples: the data stay -/
theorem Rp.keep (ht : ∀ a xs, SqT K H a xs → SqT K H' a xs) : ∀ {v : V} {d : D} {fp : List Addr}, Rp K H v d fp → (∀ a ∈ fp, H' a = H a) → Rp K H' v d fp
  | _, _, _, .non, _ => .non
  | _, _, _, .bl b, _ => .bl b
  | _, _, _, .int i, _ => .int i
  | _, _, _, .str x, _ => .str x
  | _, _, _, .lst h r, k => .lst (by rw [k _ List.mem_cons_self]; exact h) (RpL.keep ht r fun a ha => k a (List.mem_cons_of_mem _ ha))
  | _, _, _, .tup h r, k => .tup (ht _ _ h) (RpL.keep ht r k)
  | _, _, _, .dic h q r z, k => .dic (by rw [k _ List.mem_cons_self]; exact h) q (RpL.keep ht r fun a ha => k a (List.mem_cons_of_mem _ ha)) z
theorem RpL.keep (ht : ∀ a xs, SqT K H a xs → SqT K H' a xs) : ∀ {vs : List V} {ds : List D} {fp : List Addr}, RpL K H vs ds fp → (∀ a ∈ fp, H' a = H a) → RpL K H' vs ds fp
  | _, _, _, .nil, _ => .nil
  | _, _, _, .cons r t, k => .cons (Rp.keep ht r fun a ha => k a (List.mem_append_left _ ha)) (RpL.keep ht t fun a ha => k a (List.mem_append_right _ ha))
end
mutual
theorem Rp.there : ∀ {v : V} {d : D} {fp : List Addr}, Rp K H v d fp → ∀ a ∈ fp, H a ≠ none
  | _, _, _, .non, _, z => nomatch z
  | _, _, _, .bl b, _, z => nomatch z
  | _, _, _, .int i, _, z => nomatch z
  | _, _, _, .str x, _, z => nomatch z
  | _, _, _, .lst h r, a, z => by
    rcases List.mem_cons.mp z with rfl | z
    · rw [h]; exact fun q => nomatch q
    · exact RpL.there r a z
  | _, _, _, .tup h r, a, z => RpL.there r a z
  | _, _, _, .dic h q r e, a, z => by
    rcases List.mem_cons.mp z with rfl | z
    · rw [h]; exact fun q => nomatch q
    · exact RpL.there r a z
theorem RpL.there : ∀ {vs : List V} {ds : List D} {fp : List Addr}, RpL K H vs ds fp → ∀ a ∈ fp, H a ≠ none
  | _, _, _, .nil, _, z => nomatch z
  | _, _, _, .cons r t, a, z => by
    rcases List.mem_append.mp z with z | z
    · exact Rp.there r a z
    · exact RpL.there t a z
end
theorem Rp.same (e : Same H H') {v : V} {d : D} {fp : List Addr} (r : Rp K H v d fp) : Rp K H' v d fp := by
  refine r.keep (fun _ _ h => (smOf e).sqt h) fun a ha => ?_
  have := r.there a ha
  cases q : H a with
  | none => exact absurd q this
  | some o => exact e _ _ q
theorem RpL.same (e : Same H H') {v : List V} {d : List D} {fp : List Addr} (r : RpL K H v d fp) : RpL K H' v d fp := by
  refine r.keep (fun _ _ h => (smOf e).sqt h) fun a ha => ?_
  have := r.there a ha
  cases q : H a with
  | none => exact absurd q this
  | some o => exact e _ _ q
theorem RepL.length : ∀ {vs : List V} {ds : List D}, RepL K H vs ds → vs.length = ds.length
  | _, _, .nil => rfl
  | _, _, .cons _ t => by simp [RepL.length t]
theorem RepL.get : ∀ {vs : List V} {ds : List D} {i : Nat} {v : V}, RepL K H vs ds → vs[i]? = some v → ∃ d, ds[i]? = some d ∧ Rep K H v d
  | _, _, _, _, .nil, h => by simp at h
  | _, _, 0, _, .cons r t, h => by simp at h; subst h; exact ⟨_, rfl, r⟩
  | _, _, i + 1, _, .cons r t, h => by
    obtain ⟨d, e, q⟩ := RepL.get (i := i) t (by simpa using h)
    exact ⟨d, by simpa using e, q⟩
theorem RepL.getD : ∀ {vs : List V} {ds : List D} {i : Nat} {d : D}, RepL K H vs ds → ds[i]? = some d → ∃ v, vs[i]? = some v ∧ Rep K H v d
  | _, _, _, _, .nil, h => by simp at h
  | _, _, 0, _, .cons r t, h => by simp at h; subst h; exact ⟨_, rfl, r⟩
  | _, _, i + 1, _, .cons r t, h => by
    obtain ⟨d, e, q⟩ := RepL.getD (i := i) t (by simpa using h)
    exact ⟨d, by simpa using e, q⟩
theorem RepL.append : ∀ {vs ws : List V} {ds es : List D}, RepL K H vs ds → RepL K H ws es → RepL K H (vs ++ ws) (ds ++ es)
  | _, _, _, _, .nil, s => s
  | _, _, _, _, .cons r t, s => .cons r (RepL.append t s)
theorem RepL.take : ∀ {vs : List V} {ds : List D} (n : Nat), RepL K H vs ds → RepL K H (vs.take n) (ds.take n)
  | _, _, 0, _ => by simpa using .nil
  | _, _, _ + 1, .nil => by simpa using .nil
  | _, _, n + 1, .cons r t => .cons r (RepL.take n t)
theorem RepL.drop : ∀ {vs : List V} {ds : List D} (n : Nat), RepL K H vs ds → RepL K H (vs.drop n) (ds.drop n)
  | _, _, 0, r => r
  | _, _, _ + 1, .nil => .nil
  | _, _, n + 1, .cons r t => RepL.drop n t
theorem RepL.reverse : ∀ {vs : List V} {ds : List D}, RepL K H vs ds → RepL K H vs.reverse ds.reverse
  | _, _, .nil => .nil
  | _, _, .cons r t => by
    rw [List.reverse_cons, List.reverse_cons]
    exact (RepL.reverse t).append (.cons r .nil)
theorem RepL.rep : ∀ {vs : List V} {ds : List D}, RepL K H vs ds → ∀ k : Nat, RepL K H (List.replicate k vs).flatten (List.replicate k ds).flatten
  | _, _, _, 0 => .nil
  | _, _, r, k + 1 => by
    rw [List.replicate_succ, List.replicate_succ, List.flatten_cons, List.flatten_cons]
    exact r.append (r.rep k)

/-! ### data without a list or a dict in it -/
mutual
def frozen : D → Bool
  | .none => true
  | .bool _ => true
  | .int _ => true
  | .str _ => true
  | .list _ => false
  | .tuple ds => frozenL ds
  | .dict _ => false
def frozenL : List D → Bool
  | [] => true
  | d :: ds => frozen d && frozenL ds
end
mutual
theorem Rep.frz : ∀ {v : V} {d : D}, Rep K H v d → frozen d = true → Rp K H v d []
  | _, _, .non, _ => .non
  | _, _, .bl b, _ => .bl b
  | _, _, .int i, _ => .int i
  | _, _, .str x, _ => .str x
  | _, _, .lst h r, z => by simp [frozen] at z
  | _, _, .tup h r, z => .tup h (RepL.frz r (by simpa [frozen] using z))
  | _, _, .dic h k r q, z => by simp [frozen] at z
  | _, _, .scr h r, z => by simp [frozen] at z
theorem RepL.frz : ∀ {vs : List V} {ds : List D}, RepL K H vs ds → frozenL ds = true → RpL K H vs ds []
  | _, _, .nil, _ => .nil
  | _, _, .cons r t, z => by
    simp only [frozenL, Bool.and_eq_true] at z
    have q := RpL.cons (Rep.frz r z.1) (RepL.frz t z.2)
    simpa using q
end
theorem RpL.append : ∀ {vs ws : List V} {ds es : List D} {f g : List Addr}, RpL K H vs ds f → RpL K H ws es g → RpL K H (vs ++ ws) (ds ++ es) (f ++ g)
  | _, _, _, _, _, _, .nil, s => s
  | _, _, _, _, _, _, .cons r t, s => by
    rw [List.append_assoc]
    exact .cons r (RpL.append t s)
theorem RpL.length {vs : List V} {ds : List D} {f : List Addr} (r : RpL K H vs ds f) : vs.length = ds.length := r.rep.length
end
theorem frozenL_append (a b : List D) : frozenL (a ++ b) = (frozenL a && frozenL b) := by
  induction a with
  | nil => simp [frozenL]
  | cons d ds ih => simp [frozenL, ih, Bool.and_assoc]
theorem frozenL_all (a : List D) : frozenL a = a.all frozen := by
  induction a with
  | nil => rfl
  | cons d ds ih => simp [frozenL, ih]

/-! ### the names' values -/
inductive Slot where
  | no
  | ow (d : D)
  | bo (d : D)
  | io (d : D)
abbrev En := List Slot
def Slot.val : Slot → Option D
  | .no => none
  | .ow d => some d
  | .bo d => some d
  | .io d => some d
def get (ε : En) (i : Nat) : Option D := (ε[i]?).bind Slot.val
structure OkR (K : PySem.W.Frag) (ε : En) (σ : L2.St) (H : Hp) : Prop where
  len : ε.length = σ.length
  at_ : ∀ i d, get ε i = some d → ∃ v, σ[i]? = some (some v) ∧ Rep K H v d
theorem OkR.mono {K : PySem.W.Frag} {ε : En} {σ : L2.St} {H H' : Hp} (o : OkR K ε σ H) (e : Sm H H') : OkR K ε σ H' := ⟨o.len, fun i d h => by
  obtain ⟨v, q, r⟩ := o.at_ i d h
  exact ⟨v, q, r.mono e⟩⟩
theorem OkR.same {K : PySem.W.Frag} {ε : En} {σ : L2.St} {H H' : Hp} (o : OkR K ε σ H) (e : Same H H') : OkR K ε σ H' := o.mono (smOf e)

/-- a new thing: all lists in it are new -/
def New (K : PySem.W.Frag) (H H' : Hp) (v : V) (d : D) : Prop := ∃ fp, Rp K H' v d fp ∧ fp.Nodup ∧ ∀ a ∈ fp, H a = none
def NewL (K : PySem.W.Frag) (H H' : Hp) (vs : List V) (ds : List D) : Prop := ∃ fp, RpL K H' vs ds fp ∧ fp.Nodup ∧ ∀ a ∈ fp, H a = none
theorem New.rep {K : PySem.W.Frag} {H H' : Hp} {v : V} {d : D} (n : New K H H' v d) : Rep K H' v d := let ⟨_, r, _⟩ := n; r.rep
theorem NewL.rep {K : PySem.W.Frag} {H H' : Hp} {v : List V} {d : List D} (n : NewL K H H' v d) : RepL K H' v d := let ⟨_, r, _⟩ := n; r.rep
theorem New.frz {K : PySem.W.Frag} {H H' : Hp} {v : V} {d : D} (r : Rep K H' v d) (h : frozen d = true) : New K H H' v d := ⟨[], r.frz h, .nil, fun _ z => nomatch z⟩
theorem New.back {K : PySem.W.Frag} {H H1 H2 : Hp} {v : V} {d : D} (e : Same H H1) (n : New K H1 H2 v d) : New K H H2 v d := by
  obtain ⟨fp, r, nd, f⟩ := n
  exact ⟨fp, r, nd, fun a ha => Sm.free e (f a ha)⟩
theorem New.on {K : PySem.W.Frag} {H H1 H2 : Hp} {v : V} {d : D} (n : New K H H1 v d) (e : Same H1 H2) : New K H H2 v d := by
  obtain ⟨fp, r, nd, f⟩ := n
  exact ⟨fp, r.same e, nd, f⟩
theorem NewL.back {K : PySem.W.Frag} {H H1 H2 : Hp} {v : List V} {d : List D} (e : Same H H1) (n : NewL K H1 H2 v d) : NewL K H H2 v d := by
  obtain ⟨fp, r, nd, f⟩ := n
  exact ⟨fp, r, nd, fun a ha => Sm.free e (f a ha)⟩
theorem NewL.cons {K : PySem.W.Frag} {H H1 H2 : Hp} {v : V} {d : D} {vs : List V} {ds : List D} (n : New K H H1 v d) (e : Same H H1) (m : NewL K H1 H2 vs ds) (e2 : Same H1 H2) : NewL K H H2 (v :: vs) (d :: ds) := by
  obtain ⟨fp, r, nd, f⟩ := n
  obtain ⟨fq, r2, nd2, f2⟩ := m
  refine ⟨fp ++ fq, .cons (r.same e2) r2, List.nodup_append.mpr ⟨nd, nd2, fun a ha b hb z => ?_⟩, fun a ha => ?_⟩
  · subst z
    exact r.there a ha (f2 a hb)
  · rcases List.mem_append.mp ha with ha | ha
    · exact f a ha
    · exact Sm.free e (f2 a ha)
/-- a new list | tuple of new things -/
theorem New.lst {K : PySem.W.Frag} {H H1 : Hp} {vs : List V} {ds : List D} {p : Addr} (m : NewL K H H1 vs ds) (e : Same H H1) (hp : H1 p = none) : New K H (upd H1 p (.lst vs)) (.ref p) (.list ds) := by
  obtain ⟨fq, r2, nd2, f2⟩ := m
  refine ⟨p :: fq, .lst upd_same (r2.same (sameNew hp _)), List.nodup_cons.mpr ⟨fun z => r2.there p z hp, nd2⟩, fun a ha => ?_⟩
  rcases List.mem_cons.mp ha with rfl | ha
  · exact Sm.free e hp
  · exact f2 a ha
theorem New.tup {K : PySem.W.Frag} {H H1 : Hp} {vs : List V} {ds : List D} {p : Addr} (m : NewL K H H1 vs ds) (hp : H1 p = none) : New K H (upd H1 p (.tup vs)) (.ref p) (.tuple ds) := by
  obtain ⟨fq, r2, nd2, f2⟩ := m
  exact ⟨fq, .tup (SqT.of upd_same) (r2.same (sameNew hp _)), nd2, f2⟩
theorem NewL.frz {K : PySem.W.Frag} {H H' : Hp} {v : List V} {d : List D} (r : RepL K H' v d) (h : frozenL d = true) : NewL K H H' v d := ⟨[], r.frz h, .nil, fun _ z => nomatch z⟩

/-! ### an expression's value -/
abbrev FE := En → Option D
def PSo (K : PySem.W.Frag) (t : TE) (f : FE) : Prop := ∀ (ε : En) (σ : L2.St) (H : Hp) (d : D) (Q : VK), OkR K ε σ H → f ε = some d → (∀ v H', Same H H' → Rep K H' v d → Q v H') → t σ H Q
def FSo (K : PySem.W.Frag) (t : TE) (f : FE) : Prop := ∀ (ε : En) (σ : L2.St) (H : Hp) (d : D) (Q : VK), OkR K ε σ H → f ε = some d → (∀ v H', Same H H' → New K H H' v d → Q v H') → t σ H Q
def TSo (K : PySem.W.Frag) (t : TT) (f : En → Option Bool) : Prop := ∀ (ε : En) (σ : L2.St) (H : Hp) (b : Bool) (Q : Bool → Hp → Prop), OkR K ε σ H → f ε = some b → (∀ H', Same H H' → Q b H') → t σ H Q
def ASo (K : PySem.W.Frag) (t : TA) (f : En → Option (List D)) : Prop := ∀ (ε : En) (σ : L2.St) (H : Hp) (ds : List D) (Q : List V → Hp → Prop), OkR K ε σ H → f ε = some ds → (∀ vs H', Same H H' → RepL K H' vs ds → Q vs H') → t σ H Q
def ANo (K : PySem.W.Frag) (t : TA) (f : En → Option (List D)) : Prop := ∀ (ε : En) (σ : L2.St) (H : Hp) (ds : List D) (Q : List V → Hp → Prop), OkR K ε σ H → f ε = some ds → (∀ vs H', Same H H' → NewL K H H' vs ds → Q vs H') → t σ H Q
structure PP (X : Cx) (e : Expr) (t : TE) (f : FE) : Prop where
  pe : PE X e t
  so : PSo X.K t f
structure PF (X : Cx) (e : Expr) (t : TE) (f : FE) : Prop where
  pe : PE X e t
  so : FSo X.K t f
structure PTt (X : Cx) (e : Expr) (t : TT) (f : En → Option Bool) : Prop where
  pt : PT X e t
  so : TSo X.K t f
structure PWt (X : Cx) (e : Expr) (t : TT) (f : En → Option Bool) : Prop where
  pw : PW X e t
  so : TSo X.K t f
structure PAr (X : Cx) (es : List Expr) (t : TA) (f : En → Option (List D)) : Prop where
  pa : PA X es t
  so : ASo X.K t f
structure PAn (X : Cx) (es : List Expr) (t : TA) (f : En → Option (List D)) : Prop where
  pa : PA X es t
  so : ANo X.K t f
theorem PF.pp {X : Cx} {e : Expr} {t : TE} {f : FE} (h : PF X e t f) : PP X e t f := ⟨h.pe, fun ε σ H d Q o q k => h.so ε σ H d Q o q fun v H' s n => k v H' s n.rep⟩
def eFrz (f : FE) : FE := fun ε => (f ε).bind fun d => if frozen d then some d else none
theorem PP.frz {X : Cx} {e : Expr} {t : TE} {f : FE} (h : PP X e t f) : PF X e t (eFrz f) := by
  refine ⟨h.pe, fun ε σ H d Q o q k => ?_⟩
  unfold eFrz at q
  cases z : f ε with
  | none => rw [z] at q; cases q
  | some d' =>
    rw [z] at q
    simp only [Option.bind_some] at q
    split at q
    · rename_i hz
      cases q
      exact h.so ε σ H _ Q o z fun v H' s r => k v H' s (New.frz r hz)
    · cases q
theorem PWt.pt {X : Cx} {e : Expr} {t : TT} {f : En → Option Bool} (h : PWt X e t f) : PTt X e t f := ⟨h.pw.pt, h.so⟩

/-! ### rules by values -/
def OpV (K : PySem.W.Frag) (r : R2) (g : D → D → Option D) : Prop := ∀ (x y : V) (d e z : D) (H : Hp) (Q : VK), Rep K H x d → Rep K H y e → g d e = some z → (∀ v H', Same H H' → New K H H' v z → Q v H') → r x y H Q
def UnV (K : PySem.W.Frag) (r : V → Hp → VK → Prop) (g : D → Option D) : Prop := ∀ (x : V) (d z : D) (H : Hp) (Q : VK), Rep K H x d → g d = some z → (∀ v H', Same H H' → New K H H' v z → Q v H') → r x H Q
def CallV (K : PySem.W.Frag) (r : List V → Hp → VK → Prop) (g : List D → Option D) : Prop := ∀ (vs : List V) (ds : List D) (z : D) (H : Hp) (Q : VK), RepL K H vs ds → g ds = some z → (∀ v H', Same H H' → New K H H' v z → Q v H') → r vs H Q
structure OpP (X : Cx) (fn : Value → Value → Sem Value) (r : R2) (g : D → D → Option D) : Prop where
  op : OpR X fn r
  v : OpV X.K r g
structure UnP (X : Cx) (fn : Value → Sem Value) (r : V → Hp → VK → Prop) (g : D → Option D) : Prop where
  op : UnR X fn r
  v : UnV X.K r g
structure CallP (X : Cx) (fn : Value) (r : List V → Hp → VK → Prop) (g : List D → Option D) : Prop where
  op : CallR X fn r
  v : CallV X.K r g
/-- an op that gives a plain value and leaves the heap -/
theorem newInt {K : PySem.W.Frag} {H : Hp} {i : Int} : New K H H (.int i) (.int i) := ⟨[], .int i, .nil, fun _ z => nomatch z⟩
theorem newBl {K : PySem.W.Frag} {H : Hp} {b : Bool} : New K H H (.bl b) (.bool b) := ⟨[], .bl b, .nil, fun _ z => nomatch z⟩
theorem newStr {K : PySem.W.Frag} {H : Hp} {x : Str} : New K H H (.str x) (.str x) := ⟨[], .str x, .nil, fun _ z => nomatch z⟩
theorem newNon {K : PySem.W.Frag} {H : Hp} : New K H H .non .none := ⟨[], .non, .nil, fun _ z => nomatch z⟩

/-! ### names, constants, operators -/
section
variable {X : Cx} {a b c : Expr} {ta tb tc : TE} {fa fb fc : FE} {pos : Pos}
def eVar (i : Nat) : FE := fun ε => get ε i
def eC (d : D) : FE := fun _ => some d
def e1 (g : D → Option D) (f : FE) : FE := fun ε => (f ε).bind g
def e2 (g : D → D → Option D) (f h : FE) : FE := fun ε => (f ε).bind fun x => (h ε).bind fun y => g x y
theorem pv' (i : Nat) {x : Str} {pos : Pos} (hN : X.N[i]? = some x := by rfl) (hv : Vis X.env.scope x := by first | exact Or.inl rfl | exact Or.inr (Or.inl rfl) | exact Or.inr (Or.inr rfl)) (hd : (x == ("__debug__" : Str)) = false := by decide)
    (hcd : (x == ("__classdict__" : Str)) = false := by decide) : PP X (.Name x pos) (tVar i) (eVar i) := by
  refine ⟨pe_var hN hv hd hcd, fun ε σ H d Q o q k => ?_⟩
  obtain ⟨v, e, r⟩ := o.at_ i d q
  exact ⟨v, e, k v H (Same.refl H) r⟩
theorem pk_int {i : Int} {j : Nat} : PF X (.Constant (.int i) j pos) (tC (.int i)) (eC (.int i)) := ⟨pe_int, fun ε σ H d Q o q k => by cases q; exact k _ H (Same.refl H) newInt⟩
theorem pk_bl {i : Bool} {j : Nat} : PF X (.Constant (.bool i) j pos) (tC (.bl i)) (eC (.bool i)) := ⟨pe_bl, fun ε σ H d Q o q k => by cases q; exact k _ H (Same.refl H) newBl⟩
theorem pk_str {i : Str} {j : Nat} : PF X (.Constant (.str i) j pos) (tC (.str i)) (eC (.str i)) := ⟨pe_str, fun ε σ H d Q o q k => by cases q; exact k _ H (Same.refl H) newStr⟩
theorem pk_non {j : Nat} : PF X (.Constant .none j pos) (tC .non) (eC .none) := ⟨pe_non, fun ε σ H d Q o q k => by cases q; exact k _ H (Same.refl H) newNon⟩
theorem bindSome {α β : Type} {o : Option α} {k : α → Option β} {z : β} (h : o.bind k = some z) : ∃ x, o = some x ∧ k x = some z := by
  cases o with
  | none => cases h
  | some x => exact ⟨x, rfl, h⟩
theorem so_op {K : PySem.W.Frag} {r : R2} {g : D → D → Option D} (o : OpV K r g) (ha : PSo K ta fa) (hb : PSo K tb fb) : FSo K (tOp r ta tb) (e2 g fa fb) := by
  intro ε σ H d Q ok q k
  obtain ⟨x, q1, q⟩ := bindSome q
  obtain ⟨y, q2, q3⟩ := bindSome q
  refine ha ε σ H x _ ok q1 fun v H1 s1 r1 => ?_
  refine hb ε σ H1 y _ (ok.same s1) q2 fun u H2 s2 r2 => ?_
  exact o v u x y d H2 Q (r1.mono (smOf s2)) r2 q3 fun w H3 s3 n => k w H3 ((s1.trans s2).trans s3) (n.back (s1.trans s2))
theorem pf_op {op : Operator} {r : R2} {g : D → D → Option D} (o : OpP X (binaryOp op) r g) (ha : PP X a ta fa) (hb : PP X b tb fb) : PF X (.BinOp a op b pos) (tOp r ta tb) (e2 g fa fb) :=
  ⟨pe_op o.op ha.pe hb.pe, so_op o.v ha.so hb.so⟩
theorem pf_cmp {op : CmpOp} {r : R2} {g : D → D → Option D} (o : OpP X (compareOp op) r g) (ha : PP X a ta fa) (hb : PP X b tb fb) (hm : behindInMarks op b = false := by first | exact nomark _ | rfl) : PF X (.Compare a [op] [b] pos) (tOp r ta tb) (e2 g fa fb) :=
  ⟨pe_cmpR o.op ha.pe hb.pe hm, so_op o.v ha.so hb.so⟩
theorem so_un {K : PySem.W.Frag} {r : V → Hp → VK → Prop} {g : D → Option D} (o : UnV K r g) (ha : PSo K ta fa) : FSo K (tUn r ta) (e1 g fa) := by
  intro ε σ H d Q ok q k
  obtain ⟨x, q1, q3⟩ := bindSome q
  refine ha ε σ H x _ ok q1 fun v H1 s1 r1 => ?_
  exact o v x d H1 Q r1 q3 fun w H3 s3 n => k w H3 (s1.trans s3) (n.back s1)
theorem pf_un {op : UnaryOp} {r : V → Hp → VK → Prop} {g : D → Option D} (o : UnP X (unaryOp op) r g) (ha : PP X a ta fa) : PF X (.UnaryOp op a pos) (tUn r ta) (e1 g fa) :=
  ⟨pe_un o.op ha.pe, so_un o.v ha.so⟩
/-! arguments -/
def aNil : En → Option (List D) := fun _ => some []
def aCons (f : FE) (g : En → Option (List D)) : En → Option (List D) := fun ε => (f ε).bind fun x => (g ε).bind fun xs => some (x :: xs)
variable {es : List Expr} {t : TA} {fs : En → Option (List D)}
theorem ar_nil : PAr X [] tNil aNil := ⟨pa_nil, fun ε σ H d Q o q k => by cases q; exact k [] H (Same.refl H) .nil⟩
theorem ar_cons (ha : PP X a ta fa) (hr : PAr X es t fs) (hs : starEach (a :: es) X.env = (false, eval a X.env) :: starEach es X.env := by rfl) : PAr X (a :: es) (tCons ta t) (aCons fa fs) := by
  refine ⟨pa_cons ha.pe hr.pa hs, fun ε σ H d Q ok q k => ?_⟩
  obtain ⟨x, q1, q⟩ := bindSome q
  obtain ⟨xs, q2, q3⟩ := bindSome q
  cases q3
  refine ha.so ε σ H x _ ok q1 fun v H1 s1 r1 => ?_
  exact hr.so ε σ H1 xs _ (ok.same s1) q2 fun vs H2 s2 r2 => k _ H2 (s1.trans s2) (.cons (r1.mono (smOf s2)) r2)
theorem an_nil : PAn X [] tNil aNil := ⟨pa_nil, fun ε σ H d Q o q k => by cases q; exact k [] H (Same.refl H) ⟨[], .nil, .nil, fun _ z => nomatch z⟩⟩
theorem an_cons (ha : PF X a ta fa) (hr : PAn X es t fs) (hs : starEach (a :: es) X.env = (false, eval a X.env) :: starEach es X.env := by rfl) : PAn X (a :: es) (tCons ta t) (aCons fa fs) := by
  refine ⟨pa_cons ha.pe hr.pa hs, fun ε σ H d Q ok q k => ?_⟩
  obtain ⟨x, q1, q⟩ := bindSome q
  obtain ⟨xs, q2, q3⟩ := bindSome q
  cases q3
  refine ha.so ε σ H x _ ok q1 fun v H1 s1 r1 => ?_
  exact hr.so ε σ H1 xs _ (ok.same s1) q2 fun vs H2 s2 r2 => k _ H2 (s1.trans s2) (NewL.cons r1 s1 r2 s2)
def eTup (fs : En → Option (List D)) : FE := fun ε => (fs ε).bind fun xs => if xs.length ≤ 1000 then some (.tuple xs) else none
def eLst (fs : En → Option (List D)) : FE := fun ε => (fs ε).bind fun xs => if xs.length ≤ 1000 then some (.list xs) else none
theorem small1000' {n : Nat} (h : n ≤ 1000) : n ≤ sizeLine := Nat.le_of_lt (small1000 h)
theorem pf_tup {x1} (h : PAn X es t fs) : PF X (.Tuple es x1 pos) (tTup t) (eTup fs) := by
  refine ⟨pe_tup h.pa, fun ε σ H d Q ok q k => ?_⟩
  obtain ⟨xs, q1, q⟩ := bindSome q
  by_cases hl : xs.length ≤ 1000
  · rw [if_pos hl] at q; cases q
    refine h.so ε σ H xs _ ok q1 fun vs H1 s1 n => ⟨?_, fun p hp => k _ _ (s1.trans (sameNew hp _)) (New.tup n hp)⟩
    rw [n.rep.length]; exact small1000' hl
  · rw [if_neg hl] at q; cases q
theorem pp_tup {x1} (h : PAr X es t fs) : PP X (.Tuple es x1 pos) (tTup t) (eTup fs) := by
  refine ⟨pe_tup h.pa, fun ε σ H d Q ok q k => ?_⟩
  obtain ⟨xs, q1, q⟩ := bindSome q
  by_cases hl : xs.length ≤ 1000
  · rw [if_pos hl] at q; cases q
    refine h.so ε σ H xs _ ok q1 fun vs H1 s1 n => ⟨?_, fun p hp => k _ _ (s1.trans (sameNew hp _)) (.tup (SqT.of upd_same) (n.mono (smOf (sameNew hp _))))⟩
    rw [n.length]; exact small1000' hl
  · rw [if_neg hl] at q; cases q
theorem pf_lst (h : PAn X es t fs) : PF X (.List es pos) (tLst t) (eLst fs) := by
  refine ⟨pe_lst h.pa, fun ε σ H d Q ok q k => ?_⟩
  obtain ⟨xs, q1, q⟩ := bindSome q
  by_cases hl : xs.length ≤ 1000
  · rw [if_pos hl] at q; cases q
    refine h.so ε σ H xs _ ok q1 fun vs H1 s1 n => ⟨?_, fun p hp => k _ _ (s1.trans (sameNew hp _)) (New.lst n s1 hp)⟩
    rw [n.rep.length]; exact small1000' hl
  · rw [if_neg hl] at q; cases q
theorem pp_lst (h : PAr X es t fs) : PP X (.List es pos) (tLst t) (eLst fs) := by
  refine ⟨pe_lst h.pa, fun ε σ H d Q ok q k => ?_⟩
  obtain ⟨xs, q1, q⟩ := bindSome q
  by_cases hl : xs.length ≤ 1000
  · rw [if_pos hl] at q; cases q
    refine h.so ε σ H xs _ ok q1 fun vs H1 s1 n => ⟨?_, fun p hp => k _ _ (s1.trans (sameNew hp _)) (.lst upd_same (n.mono (smOf (sameNew hp _))))⟩
    rw [n.length]; exact small1000' hl
  · rw [if_neg hl] at q; cases q
end
end Pd

set_option Elab.async false
set_option linter.all false
set_option maxRecDepth 100000
set_option maxHeartbeats 4000000
/-! Pd2: the operators by values. -/
namespace Pd
open PySem PySem.Spec PyProof.Rows L2

/-! ### from Rep to what the library reads -/
section
variable {K : PySem.W.Frag} {H : Hp}
mutual
theorem Rep.dp : ∀ {v : V} {d : D}, Rep K H v d → d.plain = true → Dp K H v d
  | _, _, .non, _ => .non
  | _, _, .bl b, _ => .bl b
  | _, _, .int i, _ => .int i
  | _, _, .str x, _ => .str x
  | _, _, .lst h r, z => .lst (SqL.of h) (RepL.dp r (by simpa [PyData.plain] using z))
  | _, _, .tup h r, z => .tup h (RepL.dp r (by simpa [PyData.plain] using z))
  | _, _, .dic h k r q, z => by simp [PyData.plain] at z
  | _, _, .scr h r, z => by simp [PyData.plain] at z
theorem RepL.dp : ∀ {vs : List V} {ds : List D}, RepL K H vs ds → PyData.plainAll ds = true → DpAll K H vs ds
  | _, _, .nil, _ => .nil
  | _, _, .cons r t, z => by
    simp only [PyData.plainAll, Bool.and_eq_true] at z
    exact .cons (Rep.dp r z.1) (RepL.dp t z.2)
end
end
mutual
theorem frozen_plain : ∀ {d : D}, frozen d = true → d.plain = true
  | .none, _ => rfl
  | .bool _, _ => rfl
  | .int _, _ => rfl
  | .str _, _ => rfl
  | .list _, z => by simp [frozen] at z
  | .tuple ds, z => by simp only [PyData.plain]; exact frozenL_plain (by simpa [frozen] using z)
  | .dict _, z => by simp [frozen] at z
theorem frozenL_plain : ∀ {ds : List D}, frozenL ds = true → PyData.plainAll ds = true
  | [], _ => rfl
  | d :: ds, z => by
    simp only [frozenL, Bool.and_eq_true] at z
    simp only [PyData.plainAll, Bool.and_eq_true]
    exact ⟨frozen_plain z.1, frozenL_plain z.2⟩
end
section
variable {X : Cx} {pins : List (Addr × Obj)} {σ : L2.St} {H : Hp} {s : Shared}
theorem Rep.reads (I : Inv X pins σ H s) {v : V} {d : D} {u : Value} (h : Rep X.K H v d) (r : RelV v u) (hp : d.plain = true) : ∃ as, Reads s.heap u d as := Dp.reads I d v u (h.dp hp) r
theorem RepL.reads (I : Inv X pins σ H s) {v : List V} {d : List D} {u : List Value} (h : RepL X.K H v d) (r : Vals v u) (hp : PyData.plainAll d = true) : ∃ as, ReadsAll s.heap u d as := Dp.readsAll I d v u (h.dp hp) r
end
theorem OpR.or {X : Cx} {f : Value → Value → Sem Value} {r r' : R2} (h : OpR X f r) (h' : OpR X f r') : OpR X f (fun x y H Q => r x y H Q ∨ r' x y H Q) := by
  intro pins s σ H x y v u Q I rx ry q
  rcases q with q | q
  · exact h pins s σ H x y v u Q I rx ry q
  · exact h' pins s σ H x y v u Q I rx ry q

/-! ### comparisons over data -/
/-- the depth that a comparison may have -/
def shal (d e : D) : Bool := decide (min d.depth e.depth ≤ 40)
def rCmp (K : PySem.W.Frag) (C : D → D → Bool) (g : D → D → Bool) : R2 := fun x y H Q => ∃ d e, Rep K H x d ∧ Rep K H y e ∧ C d e = true ∧ Q (.bl (g d e)) H
def gCmp (C : D → D → Bool) (g : D → D → Bool) : D → D → Option D := fun d e => if C d e then some (.bool (g d e)) else none
theorem v_cmp {K : PySem.W.Frag} {C g : D → D → Bool} : OpV K (rCmp K C g) (gCmp C g) := by
  intro x y d e z H Q r1 r2 q k
  unfold gCmp at q
  split at q
  · rename_i hc
    cases q
    exact ⟨d, e, r1, r2, hc, k _ H (Same.refl H) newBl⟩
  · cases q
def cEq (d e : D) : Bool := d.plain && e.plain && shal d e
section
variable {X : Cx}
theorem room_sh {A : Around} {d e : D} (hu : A.units + 64 < cLine) (h : shal d e = true) : A.units + min d.depth e.depth < cLine := by
  have := of_decide_eq_true h
  omega
theorem o_eq {K : PySem.W.Frag} (hu : X.A.units + 64 < cLine) (hK : X.K = K := by rfl) : OpP X (compareOp .Eq) (rCmp K cEq PyData.eqv) (gCmp cEq PyData.eqv) := by
  subst hK
  refine ⟨fun pins s σ H x y v u Q I rx ry ⟨d, e, r1, r2, hc, q⟩ => ?_, v_cmp⟩
  simp only [cEq, Bool.and_eq_true] at hc
  obtain ⟨as, h1⟩ := r1.reads I rx hc.1.1
  obtain ⟨bs, h2⟩ := r2.reads I ry hc.1.2
  exact SeqAt.eq_plain h1 h2 hc.1.1 hc.1.2 (room_sh hu hc.2) ⟨.bl _, H, I, rfl, q⟩
theorem o_ne {K : PySem.W.Frag} (hu : X.A.units + 64 < cLine) (hK : X.K = K := by rfl) : OpP X (compareOp .NotEq) (rCmp K cEq fun d e => !PyData.eqv d e) (gCmp cEq fun d e => !PyData.eqv d e) := by
  subst hK
  refine ⟨fun pins s σ H x y v u Q I rx ry ⟨d, e, r1, r2, hc, q⟩ => ?_, v_cmp⟩
  simp only [cEq, Bool.and_eq_true] at hc
  obtain ⟨as, h1⟩ := r1.reads I rx hc.1.1
  obtain ⟨bs, h2⟩ := r2.reads I ry hc.1.2
  exact SeqAt.ne_plain h1 h2 hc.1.1 hc.1.2 (room_sh hu hc.2) ⟨.bl _, H, I, rfl, q⟩
def isNoneD : D → Bool
  | .none => true
  | _ => false
def cLt (d e : D) : Bool := W.alike d e && !isNoneD d && d.plain && e.plain && shal d e
theorem notNone {d : D} (h : (!isNoneD d) = true) : d ≠ .none := by rintro rfl; simp [isNoneD] at h
theorem o_lt {K : PySem.W.Frag} (hu : X.A.units + 64 < cLine) (hK : X.K = K := by rfl) : OpP X (compareOp .Lt) (rCmp K cLt W.dataLt) (gCmp cLt W.dataLt) := by
  subst hK
  refine ⟨fun pins s σ H x y v u Q I rx ry ⟨d, e, r1, r2, hc, q⟩ => ?_, v_cmp⟩
  simp only [cLt, Bool.and_eq_true] at hc
  obtain ⟨as, h1⟩ := r1.reads I rx hc.1.1.2
  obtain ⟨bs, h2⟩ := r2.reads I ry hc.1.2
  exact W.lt_data h1 h2 hc.1.1.1.1 (notNone hc.1.1.1.2) (room_sh hu hc.2) ⟨.bl _, H, I, rfl, q⟩
theorem o_gt {K : PySem.W.Frag} (hu : X.A.units + 64 < cLine) (hK : X.K = K := by rfl) : OpP X (compareOp .Gt) (rCmp K cLt fun d e => W.dataLt e d) (gCmp cLt fun d e => W.dataLt e d) := by
  subst hK
  refine ⟨fun pins s σ H x y v u Q I rx ry ⟨d, e, r1, r2, hc, q⟩ => ?_, v_cmp⟩
  simp only [cLt, Bool.and_eq_true] at hc
  obtain ⟨as, h1⟩ := r1.reads I rx hc.1.1.2
  obtain ⟨bs, h2⟩ := r2.reads I ry hc.1.2
  exact W.gt_data h1 h2 hc.1.1.1.1 (notNone hc.1.1.1.2) (room_sh hu hc.2) ⟨.bl _, H, I, rfl, q⟩
theorem o_le {K : PySem.W.Frag} (hu : X.A.units + 64 < cLine) (hK : X.K = K := by rfl) : OpP X (compareOp .LtE) (rCmp K cLt fun d e => !W.dataLt e d) (gCmp cLt fun d e => !W.dataLt e d) := by
  subst hK
  refine ⟨fun pins s σ H x y v u Q I rx ry ⟨d, e, r1, r2, hc, q⟩ => ?_, v_cmp⟩
  simp only [cLt, Bool.and_eq_true] at hc
  obtain ⟨as, h1⟩ := r1.reads I rx hc.1.1.2
  obtain ⟨bs, h2⟩ := r2.reads I ry hc.1.2
  exact W.le_data h1 h2 hc.1.1.1.1 (notNone hc.1.1.1.2) (room_sh hu hc.2) ⟨.bl _, H, I, rfl, q⟩
theorem o_ge {K : PySem.W.Frag} (hu : X.A.units + 64 < cLine) (hK : X.K = K := by rfl) : OpP X (compareOp .GtE) (rCmp K cLt fun d e => !W.dataLt d e) (gCmp cLt fun d e => !W.dataLt d e) := by
  subst hK
  refine ⟨fun pins s σ H x y v u Q I rx ry ⟨d, e, r1, r2, hc, q⟩ => ?_, v_cmp⟩
  simp only [cLt, Bool.and_eq_true] at hc
  obtain ⟨as, h1⟩ := r1.reads I rx hc.1.1.2
  obtain ⟨bs, h2⟩ := r2.reads I ry hc.1.2
  exact W.ge_data h1 h2 hc.1.1.1.1 (notNone hc.1.1.1.2) (room_sh hu hc.2) ⟨.bl _, H, I, rfl, q⟩
/-! in, not in: lists, tuples -/
def itemsD : D → Option (List D)
  | .list xs => some xs
  | .tuple xs => some xs
  | _ => none
def cIn (d e : D) : Bool := match itemsD e with
  | some xs => d.plain && PyData.plainAll xs && decide (min (PyData.depthAll xs) d.depth ≤ 40)
  | none => false
def gIn (d e : D) : Bool := ((itemsD e).getD []).any fun y => PyData.eqv y d
theorem o_in {K : PySem.W.Frag} (hu : X.A.units + 64 < cLine) (hK : X.K = K := by rfl) : OpP X (compareOp .In) (rCmp K cIn gIn) (gCmp cIn gIn) := by
  subst hK
  refine ⟨fun pins s σ H x y v u Q I rx ry ⟨d, e, r1, r2, hc, q⟩ => ?_, v_cmp⟩
  cases e with
  | list xs =>
    simp only [cIn, itemsD, Bool.and_eq_true, decide_eq_true_eq] at hc
    obtain ⟨as, h1⟩ := r1.reads I rx hc.1.1
    obtain ⟨bs, h2⟩ := r2.reads I ry (by simpa [PyData.plain] using hc.1.2)
    exact SeqAt.in_list_data h2 h1 hc.1.2 hc.1.1 (by omega) ⟨.bl _, H, I, rfl, q⟩
  | tuple xs =>
    simp only [cIn, itemsD, Bool.and_eq_true, decide_eq_true_eq] at hc
    obtain ⟨as, h1⟩ := r1.reads I rx hc.1.1
    obtain ⟨bs, h2⟩ := r2.reads I ry (by simpa [PyData.plain] using hc.1.2)
    exact SeqAt.in_tuple_data h2 h1 hc.1.2 hc.1.1 (by omega) ⟨.bl _, H, I, rfl, q⟩
  | none => simp [cIn, itemsD] at hc
  | bool _ => simp [cIn, itemsD] at hc
  | int _ => simp [cIn, itemsD] at hc
  | str _ => simp [cIn, itemsD] at hc
  | dict _ => simp [cIn, itemsD] at hc
theorem o_nin {K : PySem.W.Frag} (hu : X.A.units + 64 < cLine) (hK : X.K = K := by rfl) : OpP X (compareOp .NotIn) (rCmp K cIn fun d e => !gIn d e) (gCmp cIn fun d e => !gIn d e) := by
  subst hK
  refine ⟨fun pins s σ H x y v u Q I rx ry ⟨d, e, r1, r2, hc, q⟩ => ?_, v_cmp⟩
  cases e with
  | list xs =>
    simp only [cIn, itemsD, Bool.and_eq_true, decide_eq_true_eq] at hc
    obtain ⟨as, h1⟩ := r1.reads I rx hc.1.1
    obtain ⟨bs, h2⟩ := r2.reads I ry (by simpa [PyData.plain] using hc.1.2)
    exact SeqAt.notIn_list_data h2 h1 hc.1.2 hc.1.1 (by omega) ⟨.bl _, H, I, rfl, q⟩
  | tuple xs =>
    simp only [cIn, itemsD, Bool.and_eq_true, decide_eq_true_eq] at hc
    obtain ⟨as, h1⟩ := r1.reads I rx hc.1.1
    obtain ⟨bs, h2⟩ := r2.reads I ry (by simpa [PyData.plain] using hc.1.2)
    exact SeqAt.notIn_tuple_data h2 h1 hc.1.2 hc.1.1 (by omega) ⟨.bl _, H, I, rfl, q⟩
  | none => simp [cIn, itemsD] at hc
  | bool _ => simp [cIn, itemsD] at hc
  | int _ => simp [cIn, itemsD] at hc
  | str _ => simp [cIn, itemsD] at hc
  | dict _ => simp [cIn, itemsD] at hc
/-! is None, is True -/
def gIs (d e : D) : Option D := match d, e with
  | .bool a, .bool b => some (.bool (decide (a = b)))
  | d, .none => some (.bool (isNoneD d))
  | _, _ => none
def gIsNot (d e : D) : Option D := match d, e with
  | .bool a, .bool b => some (.bool (!decide (a = b)))
  | d, .none => some (.bool (!isNoneD d))
  | _, _ => none
def rIs1 : R2 := fun x y H Q => y = .non ∧ Q (.bl (decide (x = .non))) H
def rIs2 : R2 := fun x y H Q => y = .non ∧ Q (.bl (!decide (x = .non))) H
theorem isNone_rep {K : PySem.W.Frag} {H : Hp} {x : V} {d : D} (r : Rep K H x d) : decide (x = .non) = isNoneD d := by
  cases r <;> simp [isNoneD]
theorem o_is : OpP X (compareOp .Is) (fun x y H Q => rIsB x y H Q ∨ rIs1 x y H Q) gIs := by
  refine ⟨OpR.or op_isBl op_isN, fun x y d e z H Q r1 r2 q k => ?_⟩
  cases r2 with
  | non =>
    have e1 : gIs d .none = some (.bool (isNoneD d)) := by cases d <;> rfl
    rw [e1] at q; cases q
    exact .inr ⟨rfl, by rw [isNone_rep r1]; exact k _ H (Same.refl H) newBl⟩
  | bl b =>
    cases r1 with
    | bl a => cases q; exact .inl ⟨a, b, rfl, rfl, k _ H (Same.refl H) newBl⟩
    | _ => cases q
  | _ => cases r1 <;> cases q
theorem o_isNot : OpP X (compareOp .IsNot) (fun x y H Q => rNotB x y H Q ∨ rIs2 x y H Q) gIsNot := by
  refine ⟨OpR.or op_notBl op_notN, fun x y d e z H Q r1 r2 q k => ?_⟩
  cases r2 with
  | non =>
    have e1 : gIsNot d .none = some (.bool (!isNoneD d)) := by cases d <;> rfl
    rw [e1] at q; cases q
    exact .inr ⟨rfl, by rw [isNone_rep r1]; exact k _ H (Same.refl H) newBl⟩
  | bl b =>
    cases r1 with
    | bl a => cases q; exact .inl ⟨a, b, rfl, rfl, k _ H (Same.refl H) newBl⟩
    | _ => cases q
  | _ => cases r1 <;> cases q

/-! ### arithmetic -/
/-- the greatest length that is let -/
def cap : Nat := 1000000
theorem cap_le {n : Nat} (h : n ≤ cap) : n ≤ sizeLine := Nat.le_trans h (by unfold cap; decide)
theorem cap_lt {n : Nat} (h : n ≤ cap) : n < sizeLine := Nat.lt_of_le_of_lt h (by unfold cap; decide)
/-- the greatest size of numbers that are multiplied, divide -/
def BIG : Nat := 2 ^ 4000
def sm (i : Int) : Bool := decide (i.natAbs < BIG)
theorem sm_log {i : Int} (h : sm i = true) : i.natAbs.log2 < 4000 := by
  have h := of_decide_eq_true h
  exact PySem.Flt.log2_lt_of (by decide) h
def gAdd : D → D → Option D
  | .int i, .int j => some (.int (i + j))
  | .str x, .str y => if x.length + y.length ≤ cap then some (.str (x ++ y)) else none
  | .tuple a, .tuple b => if a.length + b.length ≤ cap ∧ frozenL a = true ∧ frozenL b = true then some (.tuple (a ++ b)) else none
  | .list a, .list b => if a.length + b.length ≤ cap ∧ frozenL a = true ∧ frozenL b = true then some (.list (a ++ b)) else none
  | _, _ => none
def rAddI : R2 := rI0 fun i j => .int (i + j)
def rAddS : R2 := fun x y H Q => ∃ i j, x = .str i ∧ y = .str j ∧ i.length + j.length ≤ sizeLine ∧ Q (.str (i ++ j)) H
theorem nilLen {K : PySem.W.Frag} {H : Hp} {xs : List V} {ds : List D} (r : RepL K H xs ds) (e : xs = []) : ds = [] := by
  subst e; cases r; rfl
theorem o_add {K : PySem.W.Frag} (hK : X.K = K := by rfl) : OpP X (binaryOp .Add) (fun x y H Q => rAddI x y H Q ∨ (rAddS x y H Q ∨ (rCatA K x y H Q ∨ rCat x y H Q))) gAdd := by
  subst hK
  refine ⟨OpR.or op_add (OpR.or op_add_str (OpR.or op_catA op_cat)), fun x y d e z H Q r1 r2 q k => ?_⟩
  cases r1 with
  | int i =>
    cases r2 with
    | int j => cases q; exact .inl ⟨i, j, rfl, rfl, k _ H (Same.refl H) newInt⟩
    | _ => cases q
  | str i =>
    cases r2 with
    | str j =>
      simp only [gAdd] at q
      split at q
      · rename_i hl
        cases q
        exact .inr (.inl ⟨i, j, rfl, rfl, cap_le hl, k _ H (Same.refl H) newStr⟩)
      · cases q
    | _ => cases q
  | @tup a xs ds h r =>
    cases r2 with
    | @tup b ys es h2 r2 =>
      simp only [gAdd] at q
      split at q
      · rename_i hl
        cases q
        have e1 := r.length
        have e2 := r2.length
        have fz : frozen (.tuple (ds ++ es)) = true := by simp [frozen, frozenL_append, hl.2.1, hl.2.2]
        refine .inr (.inr (.inl ⟨a, b, xs, ys, rfl, rfl, h, h2, by rw [e1, e2]; exact cap_le hl.1, fun n => ?_, fun n m => ?_, fun n m p hp => ?_⟩))
        · have := nilLen r n
          subst this
          exact k _ H (Same.refl H) (New.frz (.tup h2 r2) (by simpa using fz))
        · have := nilLen r2 m
          subst this
          exact k _ H (Same.refl H) (New.frz (by simpa using Rep.tup h r) fz)
        · exact k _ _ (sameNew hp _) (New.frz (.tup (SqT.of upd_same) ((r.mono (smOf (sameNew hp _))).append (r2.mono (smOf (sameNew hp _))))) fz)
      · cases q
    | _ => cases q
  | @lst a xs ds h r =>
    cases r2 with
    | @lst b ys es h2 r2 =>
      simp only [gAdd] at q
      split at q
      · rename_i hl
        cases q
        have e1 := r.length
        have e2 := r2.length
        refine .inr (.inr (.inr ⟨a, b, xs, ys, rfl, rfl, h, h2, by rw [e1, e2]; exact cap_le hl.1, fun p hp => ?_⟩))
        exact k _ _ (sameNew hp _) (New.lst (NewL.frz (r.append r2) (by rw [frozenL_append, hl.2.1, hl.2.2]; rfl)) (Same.refl H) hp)
      · cases q
    | _ => cases q
  | _ => cases r2 <;> cases q
def gI2 (C : Int → Int → Bool) (g : Int → Int → Int) : D → D → Option D
  | .int i, .int j => if C i j then some (.int (g i j)) else none
  | _, _ => none
theorem v_I2 {K : PySem.W.Frag} {C : Int → Int → Bool} {C' : Int → Int → Prop} {g : Int → Int → Int} (h : ∀ i j, C i j = true → C' i j) : OpV K (rI C' fun i j => .int (g i j)) (gI2 C g) := by
  intro x y d e z H Q r1 r2 q k
  cases r1 with
  | int i =>
    cases r2 with
    | int j =>
      simp only [gI2] at q
      split at q
      · rename_i hc
        cases q
        exact ⟨i, j, rfl, rfl, h i j hc, k _ H (Same.refl H) newInt⟩
      · cases q
    | _ => cases q
  | _ => cases r2 <;> cases q
def gSub : D → D → Option D := gI2 (fun _ _ => true) fun i j => i - j
theorem o_sub : OpP X (binaryOp .Sub) (rI (fun _ _ => True) fun i j => .int (i - j)) gSub :=
  ⟨fun pins s σ H x y v u Q I rx ry ⟨i, j, a, b, _, q⟩ => op_sub pins s σ H x y v u Q I rx ry ⟨i, j, a, b, q⟩, v_I2 fun _ _ _ => trivial⟩
def cDiv (_ j : Int) : Bool := decide (0 < j) && sm j
def gFdiv : D → D → Option D := gI2 cDiv fun i j => i / j
theorem o_fdiv : OpP X (binaryOp .FloorDiv) (rI CDivW fun i j => .int (i / j)) gFdiv := ⟨op_fdivW, v_I2 fun i j h => by
  simp only [cDiv, Bool.and_eq_true, decide_eq_true_eq] at h
  exact ⟨h.1, Nat.lt_of_lt_of_le (sm_log h.2) (by decide)⟩⟩
def gMod : D → D → Option D := gI2 (fun _ j => decide (0 < j)) fun i j => i % j
theorem o_mod : OpP X (binaryOp .Mod) (rI (fun _ j => 0 < j) fun i j => .int (i % j)) gMod := ⟨op_mod, v_I2 fun i j h => of_decide_eq_true h⟩
def cPow (i j : Int) : Bool := decide (0 ≤ j) && decide (j ≤ 1000) && decide (i.natAbs < 2 ^ 64)
def gPow : D → D → Option D := gI2 cPow fun i j => i ^ j.toNat
theorem o_pow : OpP X (binaryOp .Pow) (rI CPow fun i j => .int (i ^ j.toNat)) gPow := ⟨op_pow, v_I2 fun i j h => by
  simp only [cPow, Bool.and_eq_true, decide_eq_true_eq] at h
  exact ⟨h.1.1, by omega, h.2⟩⟩
def repS (x : Str) (n : Nat) : Str := ⟨(List.replicate n x.cps.toList).flatten.toArray⟩
def gMul : D → D → Option D
  | .int i, .int j => if sm i && sm j then some (.int (i * j)) else none
  | .list a, .int j => if 0 ≤ j ∧ j ≤ 10000 ∧ a.length * j.toNat ≤ cap ∧ frozenL a = true then some (.list (List.replicate j.toNat a).flatten) else none
  | .tuple a, .int j => if -1000 ≤ j ∧ j ≤ 1000 ∧ a.length ≤ 1000 ∧ frozenL a = true then some (.tuple (List.replicate j.toNat a).flatten) else none
  | .str x, .int j => if -1000 ≤ j ∧ j ≤ 1000 ∧ x.length ≤ 1000 then some (.str (repS x j.toNat)) else none
  | _, _ => none
theorem tuple_mul1 (l : Addr) (items : Array Value) (n : Nat) (dd : Option Addr) (sl : Array (Option Value)) (x : Int) (u : Tok) (c0 : (decide (x < -(2 ^ 63)) || decide (x ≥ 2 ^ 63)) = false) (c1 : (items.isEmpty || x == 1) = true) :
    Meets (Builtin.«tuple.__mul__» ⟨[.ref l, .int x u], []⟩) (fun _ R s => s.heap.get? l = some { cls := .type "tuple", dict := dd, data := .seq items n, slots := sl } ∧
      R (.ok (.ret (Value.ref l))) s) :=
  .of_wp fun prog w A R s h => by
    obtain ⟨hp, g, d, tk, os⟩ := s
    obtain ⟨hl, h⟩ := h
    have f1 := AutoSeq1.idx_int
    wp_walk using wpAny_loadPart' hl
    repeat (first
      | (refine wpAny_ite_false (decide_eq_false (by rw [c0]; exact Bool.false_ne_true)) ?_; wp_walk using wpAny_loadPart' hl)
      | (refine wpAny_ite_true (decide_eq_true (by rw [c1])) ?_; wp_walk using wpAny_loadPart' hl))
    exact ⟨_, rfl, h⟩
theorem tuple_mul0 (l : Addr) (items : Array Value) (n : Nat) (dd : Option Addr) (sl : Array (Option Value)) (x : Int) (u : Tok) (c0 : (decide (x < -(2 ^ 63)) || decide (x ≥ 2 ^ 63)) = false) (c1 : (items.isEmpty || x == 1) = false) (c2 : (decide (x ≤ 0) || items.isEmpty) = true) :
    Meets (Builtin.«tuple.__mul__» ⟨[.ref l, .int x u], []⟩) (fun _ R s => s.heap.get? l = some { cls := .type "tuple", dict := dd, data := .seq items n, slots := sl } ∧
      R (.ok (.ret (Value.ref s.heap.objs.size))) { s with heap := s.heap.push { cls := Value.type "tuple", data := Data.seq #[] }, toks := s.toks }) :=
  .of_wp fun prog w A R s h => by
    obtain ⟨hp, g, d, tk, os⟩ := s
    obtain ⟨hl, h⟩ := h
    have f1 := AutoSeq1.idx_int
    wp_walk using wpAny_loadPart' hl
    repeat (first
      | (refine wpAny_ite_false (decide_eq_false (by rw [c0]; exact Bool.false_ne_true)) ?_; wp_walk using wpAny_loadPart' hl)
      | (refine wpAny_ite_false (decide_eq_false (by rw [c1]; exact Bool.false_ne_true)) ?_; wp_walk using wpAny_loadPart' hl)
      | (refine wpAny_ite_true (decide_eq_true (by rw [c2])) ?_; wp_walk using wpAny_loadPart' hl))
    exact ⟨_, rfl, h⟩
def rRepT1 (K : PySem.W.Frag) : R2 := fun x y H Q => ∃ l k xs, x = .ref l ∧ y = .int k ∧ SqT K H l xs ∧ (xs = [] ∨ k = 1) ∧ -1000 ≤ k ∧ k ≤ 1000 ∧ Q (.ref l) H
def rRepT0 (K : PySem.W.Frag) : R2 := fun x y H Q => ∃ l k xs, x = .ref l ∧ y = .int k ∧ SqT K H l xs ∧ xs ≠ [] ∧ -1000 ≤ k ∧ k ≤ 0 ∧ ∀ p, H p = none → Q (.ref p) (upd H p (.tup []))
def rRepS : R2 := fun x y H Q => ∃ z k, x = .str z ∧ y = .int k ∧ -1000 ≤ k ∧ k ≤ 1000 ∧ z.length ≤ 1000 ∧ Q (.str (repS z k.toNat)) H
theorem op_repT1 {X : Cx} : OpR X (binaryOp .Mult) (rRepT1 X.K) := by
  intro pins s σ H x y v u Q I rx ry h
  obtain ⟨l, k, xs, rfl, rfl, hT, hne, h1, h2, q⟩ := h
  cases rx
  obtain ⟨t, rfl⟩ := ry
  obtain ⟨its, r, ⟨⟨cls, dd, data, sl⟩, ho, hc, n, hd⟩, hs⟩ := I.tuple hT
  simp only at hc hd
  subst hc hd
  have hle : its.length = xs.length := r.length.symm
  have c0 : (decide (k < -(2 ^ 63)) || decide (k ≥ 2 ^ 63)) = false := by
    rw [decide_eq_false (by omega), decide_eq_false (by omega)] <;> rfl
  have c1 : (its.toArray.isEmpty || k == 1) = true := by
    rcases hne with e | e
    · subst e
      have : its = [] := List.eq_nil_of_length_eq_zero hle
      subst this
      rfl
    · subst e
      simp
  refine wpAny_binaryOp_repeat_ref (T := "tuple") (U := "int") (by decide) ⟨_, ho, rfl⟩ (fun s' => typeIs_int s' k t) noFill_tuple_mul F.fills_int_mul F.slot_int_rmul repeat_tuple F.slot_int_index.lookup
    (call_meets F.slot_int_rmul (typeIs_int s k t) F.entry_int_rmul (F.args_int_rmul_2 _ _) (int_rmul_tuple k t l its.toArray n dd sl)
      ⟨ho, rfl, ⟨_, ho, rfl⟩, call_meets F.slot_tuple_mul ⟨_, ho, rfl⟩ F.entry_tuple_mul (F.args_tuple_mul_2 _ _) (tuple_mul1 l its.toArray n dd sl k t c0 c1) ⟨ho, ?_⟩⟩)
  exact ⟨.ref l, H, I, rfl, q⟩
theorem op_repT0 {X : Cx} : OpR X (binaryOp .Mult) (rRepT0 X.K) := by
  intro pins s σ H x y v u Q I rx ry h
  obtain ⟨l, k, xs, rfl, rfl, hT, hne, h1, h2, q⟩ := h
  cases rx
  obtain ⟨t, rfl⟩ := ry
  obtain ⟨its, r, ⟨⟨cls, dd, data, sl⟩, ho, hc, n, hd⟩, hs⟩ := I.tuple hT
  simp only at hc hd
  subst hc hd
  have hle : its.length = xs.length := r.length.symm
  have hn : its ≠ [] := fun e => hne (by
    rw [e] at hle
    exact List.eq_nil_of_length_eq_zero hle.symm)
  have hi : its.toArray.isEmpty = false := by
    cases its with
    | nil => exact absurd rfl hn
    | cons a b => rfl
  have c0 : (decide (k < -(2 ^ 63)) || decide (k ≥ 2 ^ 63)) = false := by
    rw [decide_eq_false (by omega), decide_eq_false (by omega)] <;> rfl
  have c1 : (its.toArray.isEmpty || k == 1) = false := by
    rw [hi, Bool.false_or]
    exact beq_eq_false_iff_ne.mpr (by omega)
  have c2 : (decide (k ≤ 0) || its.toArray.isEmpty) = true := by
    rw [decide_eq_true h2, Bool.true_or]
  refine wpAny_binaryOp_repeat_ref (T := "tuple") (U := "int") (by decide) ⟨_, ho, rfl⟩ (fun s' => typeIs_int s' k t) noFill_tuple_mul F.fills_int_mul F.slot_int_rmul repeat_tuple F.slot_int_index.lookup
    (call_meets F.slot_int_rmul (typeIs_int s k t) F.entry_int_rmul (F.args_int_rmul_2 _ _) (int_rmul_tuple k t l its.toArray n dd sl)
      ⟨ho, rfl, ⟨_, ho, rfl⟩, call_meets F.slot_tuple_mul ⟨_, ho, rfl⟩ F.entry_tuple_mul (F.args_tuple_mul_2 _ _) (tuple_mul0 l its.toArray n dd sl k t c0 c1 c2) ⟨ho, ?_⟩⟩)
  refine ⟨.ref s.heap.objs.size, _, I.laid (t' := s.toks) (o := .tup []) (fun b ob q => Heap.get?_push_of_some _ q) (Nat.le_refl _) ?_, rfl, q _ (I.hok.fresh (Nat.le_refl _))⟩
  exact ⟨Nat.zero_le _, [], .nil, IsTup.new _ _⟩
theorem foldl_app : ∀ (xs : List (Array Nat)) (a : Array Nat), xs.foldl (· ++ ·) a = (a.toList ++ (xs.map Array.toList).flatten).toArray
  | [], a => by simp
  | x :: xs, a => by
    rw [List.foldl_cons, foldl_app xs]
    simp
theorem repS_eq (x : Str) (n : Nat) : (⟨(List.replicate n x.cps).foldl (· ++ ·) #[]⟩ : Str) = repS x n := by
  unfold repS
  rw [foldl_app]
  simp
theorem repS_len (x : Str) (n : Nat) : (repS x n).length = n * x.length := by
  show ((List.replicate n x.cps.toList).flatten.toArray).size = n * x.cps.size
  rw [List.size_toArray, PyProof.Rows.lm_len_rep_flat, Array.length_toList]
theorem op_repS {X : Cx} : OpR X (binaryOp .Mult) rRepS := by
  intro pins s σ H x y v u Q I rx ry h
  obtain ⟨z, k, rfl, rfl, h1, h2, hz, q⟩ := h
  obtain ⟨t, rfl⟩ := rx
  obtain ⟨t2, rfl⟩ := ry
  have c0 : (decide (k < -(2 ^ 63 : Int)) || decide (k ≥ 2 ^ 63)) = false := by
    rw [decide_eq_false (by omega), decide_eq_false (by omega)] <;> rfl
  have big : z.length * k.toNat ≤ 1000000 := by
    have a1 : z.length * k.toNat ≤ 1000 * 1000 := Nat.mul_le_mul hz (by omega)
    omega
  refine PySem.P.mul_str c0 (fun a _ => ?_) (fun a _ => ?_) ?_
  · intro c
    have d1 : (2 ^ 63 - 1 : Int) / 1000 ≤ (2 ^ 63 - 1) / k := by
      refine Int.le_ediv_of_mul_le (by omega) ?_
      have : (2 ^ 63 - 1 : Int) / 1000 * k ≤ (2 ^ 63 - 1 : Int) / 1000 * 1000 := Int.mul_le_mul_of_nonneg_left (by omega) (by decide)
      have : (2 ^ 63 - 1 : Int) / 1000 * 1000 ≤ 2 ^ 63 - 1 := by decide
      omega
    have : (2 ^ 63 - 1 : Int) / 1000 = 9223372036854775 := by decide
    omega
  · unfold PySem.Builtin.Str.tooLong
    exact decide_eq_false (by rw [sizeLine_eq]; omega)
  · have fin : ∀ (y : Str) (t' : Tok) (k' : Nat), y = repS z k.toNat → (EP X pins σ Q) (.str y t') { s with toks := k' } := fun y t' k' e => by
      subst e
      exact ⟨.str _, H, I.tok _, ⟨_, rfl⟩, q⟩
    split
    · rename_i a
      refine ⟨by decide, fin _ _ _ ?_⟩
      have : k.toNat = 0 := by omega
      rw [this]
      rfl
    · rename_i a
      split
      · rename_i b
        show EP X pins σ Q (.str z t) s
        refine fin z t s.toks ?_
        simp only [Bool.or_eq_true, beq_iff_eq] at b
        rcases b with b | b
        · subst b
          unfold repS
          show z = ⟨(List.replicate 1 z.cps.toList).flatten.toArray⟩
          simp
        · have : z.cps = #[] := Array.eq_empty_of_size_eq_zero b
          unfold repS
          rw [this]
          have e : z = ⟨#[]⟩ := by cases z; simp at this; rw [this]
          rw [e]
          simp
      · rw [repS_eq]
        refine ⟨?_, fin _ _ _ rfl⟩
        rw [repS_len, sizeLine_eq]
        have := Nat.mul_comm z.length k.toNat
        omega
theorem frozenL_rep (a : List D) (h : frozenL a = true) : ∀ k : Nat, frozenL (List.replicate k a).flatten = true
  | 0 => rfl
  | k + 1 => by rw [List.replicate_succ, List.flatten_cons, frozenL_append, h, frozenL_rep a h k]; rfl
theorem o_mul {K : PySem.W.Frag} (hK : X.K = K := by rfl) : OpP X (binaryOp .Mult) (fun x y H Q => (rI CMulW fun i j => .int (i * j)) x y H Q ∨ (rRep x y H Q ∨ (rRepT K x y H Q ∨ (rRepT1 K x y H Q ∨ (rRepT0 K x y H Q ∨ rRepS x y H Q))))) gMul := by
  subst hK
  refine ⟨OpR.or op_mulW (OpR.or op_rep (OpR.or op_repT (OpR.or op_repT1 (OpR.or op_repT0 op_repS)))), fun x y d e z H Q r1 r2 q k => ?_⟩
  cases r1 with
  | int i =>
    cases r2 with
    | int j =>
      simp only [gMul] at q
      split at q
      · rename_i hc
        cases q
        simp only [Bool.and_eq_true] at hc
        exact .inl ⟨i, j, rfl, rfl, by have := sm_log hc.1; have := sm_log hc.2; unfold CMulW; omega, k _ H (Same.refl H) newInt⟩
      · cases q
    | _ => cases q
  | @lst a xs ds h r =>
    cases r2 with
    | int j =>
      simp only [gMul] at q
      split at q
      · rename_i hl
        cases q
        have e1 := r.length
        exact .inr (.inl ⟨a, j, xs, rfl, rfl, h, by omega, by omega, by rw [e1]; exact cap_le hl.2.2.1, fun p hp => k _ _ (sameNew hp _) (New.lst (NewL.frz (r.rep _) (frozenL_rep _ hl.2.2.2 _)) (Same.refl H) hp)⟩)
      · cases q
    | _ => cases q
  | @tup a xs ds h r =>
    cases r2 with
    | int j =>
      simp only [gMul] at q
      split at q
      · rename_i hl
        cases q
        have e1 := r.length
        by_cases c1 : xs = [] ∨ j = 1
        · refine .inr (.inr (.inr (.inl ⟨a, j, xs, rfl, rfl, h, c1, hl.1, hl.2.1, ?_⟩)))
          have e : (List.replicate j.toNat ds).flatten = ds := by
            rcases c1 with c | c
            · rw [nilLen r c]
              induction j.toNat with
              | zero => rfl
              | succ k ih => rw [List.replicate_succ, List.flatten_cons, ih]; rfl
            · subst c
              show (List.replicate 1 ds).flatten = ds
              simp
          rw [e] at k
          exact k _ H (Same.refl H) (New.frz (.tup h r) (by simpa [frozen] using hl.2.2.2))
        · have n1 : xs ≠ [] := fun z => c1 (.inl z)
          have n2 : j ≠ 1 := fun z => c1 (.inr z)
          by_cases c0 : j ≤ 0
          · refine .inr (.inr (.inr (.inr (.inl ⟨a, j, xs, rfl, rfl, h, n1, hl.1, c0, fun p hp => ?_⟩))))
            have e : j.toNat = 0 := by omega
            rw [e] at k
            exact k _ _ (sameNew hp _) (New.tup (NewL.frz .nil rfl) hp)
          · refine .inr (.inr (.inl ⟨a, j, xs, rfl, rfl, h, n1, by omega, hl.2.1, by rw [e1]; exact hl.2.2.1, fun p hp => ?_⟩))
            exact k _ _ (sameNew hp _) (New.tup (NewL.frz (r.rep _) (frozenL_rep _ hl.2.2.2 _)) hp)
      · cases q
    | _ => cases q
  | str x =>
    cases r2 with
    | int j =>
      simp only [gMul] at q
      split at q
      · rename_i hl
        cases q
        exact .inr (.inr (.inr (.inr (.inr ⟨x, j, rfl, rfl, hl.1, hl.2.1, hl.2.2, k _ H (Same.refl H) newStr⟩))))
      · cases q
    | _ => cases q
  | _ => cases r2 <;> cases q
def gNeg : D → Option D
  | .int i => some (.int (-i))
  | _ => none
theorem o_neg : UnP X (unaryOp .USub) (rU fun i => .int (-i)) gNeg := by
  refine ⟨un_neg, fun x d z H Q r q k => ?_⟩
  cases r with
  | int i => cases q; exact ⟨i, rfl, k _ H (Same.refl H) newInt⟩
  | _ => cases q
end
end Pd

set_option Elab.async false
set_option linter.all false
set_option maxRecDepth 100000
set_option maxHeartbeats 4000000
/-! Pd3: built-in functions, subscripts, slices, tests. -/
namespace Pd
open PySem PySem.Spec PyProof.Rows L2

def eCall (g : List D → Option D) (fs : En → Option (List D)) : FE := fun ε => (fs ε).bind g
theorem so_call {K : PySem.W.Frag} {r : List V → Hp → VK → Prop} {g : List D → Option D} {t : TA} {fs : En → Option (List D)} (o : CallV K r g) (ha : ASo K t fs) : FSo K (tCB r t) (eCall g fs) := by
  intro ε σ H d Q ok q k
  obtain ⟨x, q1, q3⟩ := bindSome q
  refine ha ε σ H x _ ok q1 fun v H1 s1 r1 => ?_
  exact o v x d H1 Q r1 q3 fun w H3 s3 n => k w H3 (s1.trans s3) (n.back s1)
section
variable {X : Cx} {x : Str} {p pos : Pos} {e : Expr} {es : List Expr} {t : TA} {id T : String} {r : List V → Hp → VK → Prop} {g : List D → Option D} {fs : En → Option (List D)}
theorem pf_cb (o : CallP X (.builtin id) r g) (hm : X.mg x = none) (ha : PAr X (e :: es) t fs) (hg : Gl X x := by rfl) (hv : bootBuiltins x = some (.builtin id) := by decide +kernel) (hn : x ≠ "__name__" := by decide) (hdb : (x == ("__debug__" : Str)) = false := by decide)
    (he : starEach (e :: es) X.env = (false, eval e X.env) :: starEach es X.env := by rfl) (hpl : (backTo pos (starEach es X.env)).any (·.1) = false := by rfl) : PF X (.Call (.Name x p) (e :: es) [] pos) (tCB r t) (eCall g fs) :=
  ⟨pe_callB o.op hg hm hv ha.pa hn hdb he hpl, so_call o.v ha.so⟩
theorem pf_ct (o : CallP X (.type T) r g) (hm : X.mg x = none) (ha : PAr X (e :: es) t fs) (hg : Gl X x := by rfl) (hv : bootBuiltins x = some (.type T) := by decide +kernel) (hn : x ≠ "__name__" := by decide) (hdb : (x == ("__debug__" : Str)) = false := by decide)
    (he : starEach (e :: es) X.env = (false, eval e X.env) :: starEach es X.env := by rfl) (hpl : (backTo pos (starEach es X.env)).any (·.1) = false := by rfl) : PF X (.Call (.Name x p) (e :: es) [] pos) (tCB r t) (eCall g fs) :=
  ⟨pe_callTy o.op hg hm hv ha.pa hn hdb he hpl, so_call o.v ha.so⟩
end

/-! ### len, abs, min, max, sum, all, any, int, tuple, list, sorted -/
theorem CallR.or' {X : Cx} {f : Value} {r r' : List V → Hp → VK → Prop} (h : CallR X f r) (h' : CallR X f r') : CallR X f (fun xs H Q => r xs H Q ∨ r' xs H Q) := CallR.or h h'
section
variable {X : Cx}
def gLen : List D → Option D
  | [.list xs] => some (.int xs.length)
  | [.tuple xs] => some (.int xs.length)
  | [.str x] => if x.length ≤ cap then some (.int x.length) else none
  | _ => none
def rLen1 (K : PySem.W.Frag) : List V → Hp → VK → Prop := fun xs H Q => ∃ p ys, xs = [.ref p] ∧ (SqL K H p ys ∨ SqT K H p ys) ∧ Q (.int ys.length) H
def rLen2 : List V → Hp → VK → Prop := fun xs H Q => ∃ z, xs = [.str z] ∧ z.length ≤ sizeLine ∧ Q (.int z.length) H
theorem rep1 {K : PySem.W.Frag} {H : Hp} {vs : List V} {d : D} (r : RepL K H vs [d]) : ∃ v, vs = [v] ∧ Rep K H v d := by
  cases r with
  | cons r t => cases t; exact ⟨_, rfl, r⟩
theorem rep2 {K : PySem.W.Frag} {H : Hp} {vs : List V} {d e : D} (r : RepL K H vs [d, e]) : ∃ v u, vs = [v, u] ∧ Rep K H v d ∧ Rep K H u e := by
  cases r with
  | cons r t =>
    obtain ⟨u, rfl, q⟩ := rep1 t
    exact ⟨_, _, rfl, r, q⟩
theorem c_len {K : PySem.W.Frag} (hK : X.K = K := by rfl) : CallP X (.builtin "len") (fun xs H Q => rLen1 K xs H Q ∨ rLen2 xs H Q) gLen := by
  subst hK
  refine ⟨CallR.or call_len_seq call_len_str, fun vs ds z H Q r q k => ?_⟩
  unfold gLen at q
  split at q
  · obtain ⟨v, rfl, rv1⟩ := rep1 r
    cases q
    cases rv1 with
    | lst h r => exact .inl ⟨_, _, rfl, .inl (SqL.of h), by rw [r.length]; exact k _ H (Same.refl H) newInt⟩
  · obtain ⟨v, rfl, rv1⟩ := rep1 r
    cases q
    cases rv1 with
    | tup h r => exact .inl ⟨_, _, rfl, .inr h, by rw [r.length]; exact k _ H (Same.refl H) newInt⟩
  · obtain ⟨v, rfl, rv1⟩ := rep1 r
    split at q
    · rename_i hc
      cases q
      cases rv1
      exact .inr ⟨_, rfl, cap_le hc, k _ H (Same.refl H) newInt⟩
    · cases q
  · cases q
def gAbs : List D → Option D
  | [.int i] => some (.int (if i < 0 then -i else i))
  | _ => none
theorem c_abs : CallP X (.builtin "abs") (fun xs H Q => ∃ i, xs = [.int i] ∧ Q (.int (if i < 0 then -i else i)) H) gAbs := by
  refine ⟨call_abs, fun vs ds z H Q r q k => ?_⟩
  unfold gAbs at q
  split at q
  · obtain ⟨v, rfl, rv1⟩ := rep1 r
    cases q
    cases rv1
    exact ⟨_, rfl, k _ H (Same.refl H) newInt⟩
  · cases q
/-! lists of ints, of truth values -/
def intsD : List D → Option (List Int)
  | [] => some []
  | .int i :: r => (intsD r).map (i :: ·)
  | _ => none
def boolsD : List D → Option (List Bool)
  | [] => some []
  | .bool i :: r => (boolsD r).map (i :: ·)
  | _ => none
theorem intsD_map (ns : List Int) : intsD (ns.map .int) = some ns := by
  induction ns with
  | nil => rfl
  | cons n r ih => simp [intsD, ih]
theorem boolsD_map (ns : List Bool) : boolsD (ns.map .bool) = some ns := by
  induction ns with
  | nil => rfl
  | cons n r ih => simp [boolsD, ih]
theorem intsD_eq : ∀ {ds : List D} {ns : List Int}, intsD ds = some ns → ds = ns.map .int
  | [], ns, h => by simp [intsD] at h; subst h; rfl
  | .int i :: r, ns, h => by
    simp only [intsD, Option.map_eq_some_iff] at h
    obtain ⟨m, h, rfl⟩ := h
    rw [intsD_eq h]; rfl
  | .none :: r, _, h => by simp [intsD] at h
  | .bool _ :: r, _, h => by simp [intsD] at h
  | .str _ :: r, _, h => by simp [intsD] at h
  | .list _ :: r, _, h => by simp [intsD] at h
  | .tuple _ :: r, _, h => by simp [intsD] at h
  | .dict _ :: r, _, h => by simp [intsD] at h
theorem boolsD_eq : ∀ {ds : List D} {ns : List Bool}, boolsD ds = some ns → ds = ns.map .bool
  | [], ns, h => by simp [boolsD] at h; subst h; rfl
  | .bool i :: r, ns, h => by
    simp only [boolsD, Option.map_eq_some_iff] at h
    obtain ⟨m, h, rfl⟩ := h
    rw [boolsD_eq h]; rfl
  | .none :: r, _, h => by simp [boolsD] at h
  | .int _ :: r, _, h => by simp [boolsD] at h
  | .str _ :: r, _, h => by simp [boolsD] at h
  | .list _ :: r, _, h => by simp [boolsD] at h
  | .tuple _ :: r, _, h => by simp [boolsD] at h
  | .dict _ :: r, _, h => by simp [boolsD] at h
theorem repInts {K : PySem.W.Frag} {H : Hp} : ∀ {vs : List V} {ns : List Int}, RepL K H vs (ns.map .int) → vs = ns.map V.int
  | _, [], r => by cases r; rfl
  | _, n :: ns, r => by
    have r' : RepL K H _ (.int n :: ns.map .int) := r
    cases r' with
    | cons r t => cases r; rw [repInts t]; rfl
theorem repBls {K : PySem.W.Frag} {H : Hp} : ∀ {vs : List V} {ns : List Bool}, RepL K H vs (ns.map .bool) → vs = ns.map V.bl
  | _, [], r => by cases r; rfl
  | _, n :: ns, r => by
    have r' : RepL K H _ (.bool n :: ns.map .bool) := r
    cases r' with
    | cons r t => cases r; rw [repBls t]; rfl
def gSum : List D → Option D
  | [.list ds] => (intsD ds).map fun ns => .int ns.sum
  | [.tuple ds] => (intsD ds).map fun ns => .int ns.sum
  | _ => none
/-- sum(xs) of a tuple of ints -/
def rSumT (K : PySem.W.Frag) : List V → Hp → VK → Prop := fun vs H Q => ∃ (a : Addr) (ns : List Int), vs = [V.ref a] ∧ SqT K H a (ns.map V.int) ∧ Q (.int ns.sum) H
theorem cr_sumT (hc : X.calm = true) : CallR X (.builtin "sum") (rSumT X.K) := by
  intro pins s σ H vs us Q I r h
  obtain ⟨a, ns, rfl, hs, q⟩ := h
  obtain ⟨its, rv, hl, _⟩ := I.tuple hs
  rw [Vals.ref1 r]
  have hi := rv.ints
  obtain ⟨xs, e⟩ := hi.allInts.items
  have hn : numsOf (intItems xs).toList = ns := by rw [← e]; exact hi.numsOf
  rw [nums_intItems] at hn
  have hl' : s.heap.IsTuple a its.toArray := hl
  rw [e] at hl'
  refine W.ktm_sumG (I.ok.hd hc) hl' fun h' tk t' hk => ?_
  rw [preSum_eq, List.take_of_length_le (by simp), hn]
  exact ⟨.int _, H, I.kept hk, ⟨_, rfl⟩, q⟩
theorem c_sum {K : PySem.W.Frag} (hc : X.calm = true := by rfl) (hK : X.K = K := by rfl) : CallP X (.builtin "sum") (fun vs H Q => rSum K vs H Q ∨ rSumT K vs H Q) gSum := by
  subst hK
  refine ⟨CallR.or (cr_sum hc) (cr_sumT hc), fun vs ds z H Q r q k => ?_⟩
  unfold gSum at q
  split at q
  · obtain ⟨v, rfl, rv1⟩ := rep1 r
    rw [Option.map_eq_some_iff] at q
    obtain ⟨ns, e, rfl⟩ := q
    have e := intsD_eq e
    subst e
    cases rv1 with
    | lst h r =>
      have := repInts r
      subst this
      exact .inl ⟨_, ns, rfl, SqL.of h, k _ H (Same.refl H) newInt⟩
  · obtain ⟨v, rfl, rv1⟩ := rep1 r
    rw [Option.map_eq_some_iff] at q
    obtain ⟨ns, e, rfl⟩ := q
    have e := intsD_eq e
    subst e
    cases rv1 with
    | tup h r =>
      have := repInts r
      subst this
      exact .inr ⟨_, ns, rfl, h, k _ H (Same.refl H) newInt⟩
  · cases q
def gAll : List D → Option D
  | [.list ds] => (boolsD ds).map fun ns => .bool (ns.all id)
  | _ => none
def gAny : List D → Option D
  | [.list ds] => (boolsD ds).map fun ns => .bool (ns.any id)
  | _ => none
theorem c_all {K : PySem.W.Frag} (hc : X.calm = true := by rfl) (hK : X.K = K := by rfl) : CallP X (.builtin "all") (rAll K) gAll := by
  subst hK
  refine ⟨cr_all hc, fun vs ds z H Q r q k => ?_⟩
  unfold gAll at q
  split at q
  · obtain ⟨v, rfl, rv1⟩ := rep1 r
    rw [Option.map_eq_some_iff] at q
    obtain ⟨ns, e, rfl⟩ := q
    have e := boolsD_eq e
    subst e
    cases rv1 with
    | lst h r =>
      have := repBls r
      subst this
      exact ⟨_, ns, rfl, SqL.of h, k _ H (Same.refl H) newBl⟩
  · cases q
theorem c_any {K : PySem.W.Frag} (hc : X.calm = true := by rfl) (hK : X.K = K := by rfl) : CallP X (.builtin "any") (rAny K) gAny := by
  subst hK
  refine ⟨cr_any hc, fun vs ds z H Q r q k => ?_⟩
  unfold gAny at q
  split at q
  · obtain ⟨v, rfl, rv1⟩ := rep1 r
    rw [Option.map_eq_some_iff] at q
    obtain ⟨ns, e, rfl⟩ := q
    have e := boolsD_eq e
    subst e
    cases rv1 with
    | lst h r =>
      have := repBls r
      subst this
      exact ⟨_, ns, rfl, SqL.of h, k _ H (Same.refl H) newBl⟩
  · cases q
def gInt : List D → Option D
  | [.int i] => some (.int i)
  | [.bool b] => some (.int (if b then 1 else 0))
  | [.str a] => if a.length ≤ 640 then (PySem.intText? a).map .int else none
  | _ => none
theorem c_int : CallP X (.type "int") (fun xs H Q => ((∃ i, xs = [.int i] ∧ Q (.int i) H) ∨ ∃ k, xs = [.bl k] ∧ Q (.int (if k then 1 else 0)) H) ∨ ∃ a n, xs = [.str a] ∧ PySem.intText? a = some n ∧ a.length ≤ 640 ∧ Q (.int n) H) gInt := by
  refine ⟨CallR.or call_int1 call_int_str, fun vs ds z H Q r q k => ?_⟩
  unfold gInt at q
  split at q
  · obtain ⟨v, rfl, rv1⟩ := rep1 r
    cases q; cases rv1
    exact .inl (.inl ⟨_, rfl, k _ H (Same.refl H) newInt⟩)
  · obtain ⟨v, rfl, rv1⟩ := rep1 r
    cases q; cases rv1
    exact .inl (.inr ⟨_, rfl, k _ H (Same.refl H) newInt⟩)
  · obtain ⟨v, rfl, rv1⟩ := rep1 r
    split at q
    · rename_i a hl
      cases rv1
      cases e : PySem.intText? a with
      | none => rw [e] at q; cases q
      | some n =>
        rw [e] at q
        cases q
        exact .inr ⟨_, n, rfl, e, hl, k _ H (Same.refl H) newInt⟩
    · cases q
  · cases q
def gTupOf : List D → Option D
  | [.list xs] => if frozenL xs then some (.tuple xs) else none
  | [.tuple xs] => if frozenL xs then some (.tuple xs) else none
  | _ => none
theorem c_tuple {K : PySem.W.Frag} (hK : X.K = K := by rfl) : CallP X (.type "tuple") (fun xs H Q => ∃ a ys, xs = [.ref a] ∧ ((SqL K H a ys ∧ ∀ l, H l = none → Q (.ref l) (upd H l (.tup ys))) ∨ (SqT K H a ys ∧ Q (.ref a) H))) gTupOf := by
  subst hK
  refine ⟨call_tuple_of, fun vs ds z H Q r q k => ?_⟩
  unfold gTupOf at q
  split at q
  · obtain ⟨v, rfl, rv1⟩ := rep1 r
    split at q
    · rename_i hf
      cases q
      cases rv1 with
      | lst h r => exact ⟨_, _, rfl, .inl ⟨SqL.of h, fun l hl => k _ _ (sameNew hl _) (New.tup (NewL.frz r hf) hl)⟩⟩
    · cases q
  · obtain ⟨v, rfl, rv1⟩ := rep1 r
    split at q
    · rename_i hf
      cases q
      cases rv1 with
      | tup h r => exact ⟨_, _, rfl, .inr ⟨h, k _ _ (Same.refl H) (New.frz (.tup h r) (by simpa [frozen] using hf))⟩⟩
    · cases q
  · cases q
def gListOf : List D → Option D
  | [.list xs] => if frozenL xs then some (.list xs) else none
  | [.tuple xs] => if frozenL xs then some (.list xs) else none
  | _ => none
def rList1 (K : PySem.W.Frag) : List V → Hp → VK → Prop := fun xs H Q => ∃ p ys, xs = [.ref p] ∧ (SqL K H p ys ∨ SqT K H p ys) ∧ ∀ l, H l = none → Q (.ref l) (upd H l (.lst ys))
theorem c_list {K : PySem.W.Frag} (hK : X.K = K := by rfl) : CallP X (.type "list") (rList1 K) gListOf := by
  subst hK
  refine ⟨call_list_of, fun vs ds z H Q r q k => ?_⟩
  unfold gListOf at q
  split at q
  · obtain ⟨v, rfl, rv1⟩ := rep1 r
    split at q
    · rename_i hf
      cases q
      cases rv1 with
      | lst h r => exact ⟨_, _, rfl, .inl (SqL.of h), fun l hl => k _ _ (sameNew hl _) (New.lst (NewL.frz r hf) (Same.refl H) hl)⟩
    · cases q
  · obtain ⟨v, rfl, rv1⟩ := rep1 r
    split at q
    · rename_i hf
      cases q
      cases rv1 with
      | tup h r => exact ⟨_, _, rfl, .inr h, fun l hl => k _ _ (sameNew hl _) (New.lst (NewL.frz r hf) (Same.refl H) hl)⟩
    · cases q
  · cases q
/-! sorted: alike data -/
def alikeB (xs : List D) : Bool := xs.all fun x => xs.all fun y => W.alike x y
def allTup1 (xs : List D) : Bool := xs.all fun x => match x with
  | .tuple (_ :: _) => true
  | _ => false
def allOther (xs : List D) : Bool := xs.all fun x => match x with
  | .tuple _ => false
  | .none => false
  | _ => true
def shalL (xs : List D) : Bool := xs.all fun x => decide (x.depth ≤ 40)
def gSorted : List D → Option D
  | [.list xs] => if alikeB xs && (allTup1 xs || allOther xs) && frozenL xs && shalL xs && decide (xs.length ≤ cap) then some (.list (xs.mergeSort (W.dataLe false id))) else none
  | [.tuple xs] => none
  | _ => none
def rSortedD (K : PySem.W.Frag) : List V → Hp → VK → Prop := fun vs H Q => ∃ (a : Addr) (ys : List V) (ds : List D), vs = [.ref a] ∧ SqL K H a ys ∧ RepL K H ys ds ∧ (alikeB ds && (allTup1 ds || allOther ds) && frozenL ds && shalL ds && decide (ds.length ≤ cap)) = true ∧
  ∀ p zs, H p = none → RepL K H zs (ds.mergeSort (W.dataLe false id)) → Q (.ref p) (upd H p (.lst zs))
theorem frozenL_mem {xs : List D} (h : frozenL xs = true) : ∀ {d : D}, d ∈ xs → frozen d = true := by
  rw [frozenL_all, List.all_eq_true] at h
  exact fun m => h _ m
theorem eachOf {K : PySem.W.Frag} {H : Hp} : ∀ {vs : List V} {us : List Value} {ds : List D}, RepL K H vs ds → Vals vs us → W.EachIs (fun u d => ∃ v, RelV v u ∧ Rep K H v d) us ds
  | _, _, _, .nil, .nil => .nil
  | _, _, _, .cons r t, .cons q s => .cons ⟨_, q, r⟩ (eachOf t s)
theorem eachTo {K : PySem.W.Frag} {H : Hp} : ∀ {us : List Value} {ds : List D}, W.EachIs (fun u d => ∃ v, RelV v u ∧ Rep K H v d) us ds → ∃ vs, RepL K H vs ds ∧ Vals vs us
  | _, _, .nil => ⟨[], .nil, .nil⟩
  | _, _, .cons ⟨v, q, r⟩ s => by
    obtain ⟨vs, r2, q2⟩ := eachTo s
    exact ⟨v :: vs, .cons r r2, .cons q q2⟩
theorem c_sorted {K : PySem.W.Frag} (hu : X.A.units + 64 < cLine) (hK : X.K = K := by rfl) : CallP X (.builtin "sorted") (rSortedD K) gSorted := by
  subst hK
  refine ⟨fun pins s σ H vs us Q I r h => ?_, fun vs ds z H Q r q k => ?_⟩
  · obtain ⟨a, ys, ds, rfl, hs, hr, hc, q⟩ := h
    simp only [Bool.and_eq_true, decide_eq_true_eq] at hc
    obtain ⟨⟨⟨⟨h1, h2⟩, h3⟩, h4⟩, h5⟩ := hc
    obtain ⟨its, rv, hl, _⟩ := I.list hs
    rw [Vals.ref1 r]
    have er : W.EachIs (fun v b => ∃ as, Reads s.heap v (id b) as) its ds := by
      have go : ∀ {ys : List V} {its : List Value} {ds : List D}, RepL X.K H ys ds → Vals ys its → frozenL ds = true → W.EachIs (fun v b => ∃ as, Reads s.heap v (id b) as) its ds := by
        intro ys its ds hr rv
        induction rv generalizing ds with
        | nil => intro _; cases hr; exact .nil
        | cons q t ih =>
          intro hf
          cases hr with
          | cons r1 r2 =>
            simp only [frozenL, Bool.and_eq_true] at hf
            exact .cons (r1.reads I q (frozen_plain hf.1)) (ih r2 hf.2)
      exact go hr rv h3
    have al : W.AllAlike (ds.map id) := by
      rw [List.map_id]
      intro d hd d' hd'
      unfold alikeB at h1
      rw [List.all_eq_true] at h1
      have := h1 d hd
      rw [List.all_eq_true] at this
      exact this d' hd'
    have so : W.Sortable (ds.map id) := by
      rw [List.map_id]
      rw [Bool.or_eq_true] at h2
      rcases h2 with h2 | h2
      · refine .inl fun d hd => ?_
        unfold allTup1 at h2
        rw [List.all_eq_true] at h2
        have := h2 d hd
        split at this
        · exact ⟨_, _, rfl⟩
        · cases this
      · refine .inr fun d hd => ?_
        unfold allOther at h2
        rw [List.all_eq_true] at h2
        have := h2 d hd
        constructor
        · rintro rfl; simp at this
        · rintro xs rfl; simp at this
    refine W.sorted_data (R := fun u d => ∃ v, RelV v u ∧ Rep X.K H v d) (enc := id) hl.isList (eachOf hr rv) er al so (cap_le h5) (fun b hb => ?_) fun out hlen ho => ?_
    · unfold shalL at h4
      rw [List.all_eq_true] at h4
      have := of_decide_eq_true (h4 b hb)
      show X.A.units + 2 + b.depth < cLine
      omega
    · obtain ⟨zs, r2, q2⟩ := eachTo ho
      obtain ⟨ep, he'⟩ := PyProof.Rows.sortedAll_at s.heap its out.toArray
      have hz : zs.length ≤ sizeLine := by
        rw [r2.length, List.length_mergeSort]; exact cap_le h5
      have hf := I.hok.fresh (Nat.le_succ s.heap.objs.size)
      exact ⟨.ref _, upd H (s.heap.objs.size + 1) (.lst zs), I.laid (t' := s.toks) (fun _ _ => PyProof.Rows.sortedAll_old) (Nat.le_succ _) ⟨hz, out, ep, q2, he'⟩, rfl, q _ zs hf r2⟩
  · unfold gSorted at q
    split at q
    · obtain ⟨v, rfl, rv1⟩ := rep1 r
      split at q
      · rename_i hc
        cases q
        cases rv1 with
        | lst h r =>
          refine ⟨_, _, _, rfl, SqL.of h, r, hc, fun p zs hp rz => k _ _ (sameNew hp _) (New.lst (NewL.frz rz ?_) (Same.refl H) hp)⟩
          simp only [Bool.and_eq_true] at hc
          rw [frozenL_all, List.all_eq_true]
          intro d hd
          exact frozenL_mem hc.1.1.2 ((List.mergeSort_perm _ _).mem_iff.mp hd)
      · cases q
    · cases q
    · cases q
/-! min, max -/
def okMM (xs : List D) : Bool := alikeB xs && xs.all (fun x => !isNoneD x) && frozenL xs && decide (PyData.depthAll xs ≤ 40)
theorem okMM_frz {xs : List D} (ok : okMM xs = true) : frozenL xs = true := by simp only [okMM, Bool.and_eq_true] at ok; exact ok.1.2
def gMin : List D → Option D
  | [.list (x :: xs)] => if okMM (x :: xs) then some (W.minD x xs) else none
  | [.tuple (x :: xs)] => if okMM (x :: xs) then some (W.minD x xs) else none
  | [.int i, .int j] => some (.int (if j < i then j else i))
  | _ => none
def gMax : List D → Option D
  | [.list (x :: xs)] => if okMM (x :: xs) then some (W.maxD x xs) else none
  | [.tuple (x :: xs)] => if okMM (x :: xs) then some (W.maxD x xs) else none
  | [.int i, .int j] => some (.int (if j > i then j else i))
  | _ => none
def rMM (K : PySem.W.Frag) (g : D → List D → D) : List V → Hp → VK → Prop := fun vs H Q => ∃ (a : Addr) (ys : List V) (x : D) (xs : List D), vs = [.ref a] ∧ ((SqL K H a ys) ∨ SqT K H a ys) ∧ RepL K H ys (x :: xs) ∧ okMM (x :: xs) = true ∧
  ∀ v, Rep K H v (g x xs) → Q v H
theorem foldMM (f : D → D → Bool) : ∀ (xs : List D) (x : D), xs.foldl (fun a y => if f a y then y else a) x ∈ x :: xs
  | [], x => by simp
  | y :: ys, x => by
    rw [List.foldl_cons]
    by_cases h : f x y = true
    · simp only [h, if_true]
      exact List.mem_cons_of_mem _ (foldMM f ys y)
    · simp only [h]
      rcases List.mem_cons.mp (foldMM f ys x) with e | e
      · rw [if_neg (by simp), e]; exact List.mem_cons_self
      · rw [if_neg (by simp)]; exact List.mem_cons_of_mem _ (List.mem_cons_of_mem _ e)
theorem alikeOf {xs : List D} (h1 : alikeB xs = true) (h2 : xs.all (fun x => !isNoneD x) = true) : W.AlikeAll xs := by
  unfold alikeB at h1
  rw [List.all_eq_true] at h1 h2
  refine ⟨fun x hx y hy => ?_, fun x hx => notNone (h2 x hx)⟩
  have := h1 x hx
  rw [List.all_eq_true] at this
  exact this y hy
theorem mmEnd {pins : List (Addr × Obj)} {σ : L2.St} {H : Hp} {s : Shared} {ys : List V} {its : List Value} {x : D} {xs : List D} {m : D} {i : Nat} {v : Value} {h' : Heap} {bs : List Addr} (I : Inv X pins σ H s) (rv : Vals ys its) (hr : RepL X.K H ys (x :: xs)) (hf : frozenL (x :: xs) = true)
    (hv : its.toArray[i]? = some v) (rd : Reads h' v m bs) (hk : ∀ b o, s.heap.get? b = some o → h'.get? b = some o) (hm : m ∈ x :: xs) : ∃ y, RelV y v ∧ Rep X.K H y m := by
  have hv' : its[i]? = some v := by simpa using hv
  have hlt : i < its.length := (List.getElem?_eq_some_iff.mp hv').1
  have hly : i < ys.length := by rw [rv.length]; exact hlt
  obtain ⟨u, hu, ru⟩ := rv.get (List.getElem?_eq_getElem hly)
  rw [hv'] at hu; cases hu
  obtain ⟨d, hd, rd2⟩ := hr.get (List.getElem?_eq_getElem hly)
  have fd : frozen d = true := frozenL_mem hf (List.mem_of_getElem? hd)
  obtain ⟨as, q⟩ := rd2.reads I ru (frozen_plain fd)
  have q' := PyProof.Rows.Reads.keeps hk q
  have fm : frozen m = true := frozenL_mem hf hm
  have e := SeqAt.plain_unique m d v bs as (frozen_plain fm) rd q'
  subst e
  exact ⟨_, ru, rd2⟩
theorem r_min (hu : X.A.units + 64 < cLine) (hc : X.calm = true) : CallR X (.builtin "min") (rMM X.K W.minD) := by
  intro pins s σ H vs us Q I r h
  obtain ⟨a, ys, x, xs, rfl, hs, hr, ok, q⟩ := h
  simp only [okMM, Bool.and_eq_true, decide_eq_true_eq] at ok
  obtain ⟨⟨⟨h1, h2⟩, h3⟩, h4⟩ := ok
  rw [Vals.ref1 r]
  have hm : W.minD x xs ∈ x :: xs := foldMM (fun a y => W.dataLt y a) xs x
  rcases hs with hs | hs
  · obtain ⟨its, rv, hl, _⟩ := I.list hs
    obtain ⟨as, ra⟩ := hr.reads I rv (frozenL_plain h3)
    refine W.min_list_data (I.ok.hd hc) hl.isList ra (alikeOf h1 h2) (by omega) fun i v h' tk bs hv rd hk => ?_
    obtain ⟨y, ry, rp⟩ := mmEnd I rv hr h3 hv rd hk hm
    exact ⟨y, H, I.kept hk, ry, q y rp⟩
  · obtain ⟨its, rv, hl, _⟩ := I.tuple hs
    obtain ⟨as, ra⟩ := hr.reads I rv (frozenL_plain h3)
    refine W.min_tuple_data (I.ok.hd hc) hl ra (alikeOf h1 h2) (by omega) fun i v h' tk bs hv rd hk => ?_
    obtain ⟨y, ry, rp⟩ := mmEnd I rv hr h3 hv rd hk hm
    exact ⟨y, H, I.kept hk, ry, q y rp⟩
theorem r_max (hu : X.A.units + 64 < cLine) (hc : X.calm = true) : CallR X (.builtin "max") (rMM X.K W.maxD) := by
  intro pins s σ H vs us Q I r h
  obtain ⟨a, ys, x, xs, rfl, hs, hr, ok, q⟩ := h
  simp only [okMM, Bool.and_eq_true, decide_eq_true_eq] at ok
  obtain ⟨⟨⟨h1, h2⟩, h3⟩, h4⟩ := ok
  rw [Vals.ref1 r]
  have hm : W.maxD x xs ∈ x :: xs := foldMM (fun a y => W.dataLt a y) xs x
  rcases hs with hs | hs
  · obtain ⟨its, rv, hl, _⟩ := I.list hs
    obtain ⟨as, ra⟩ := hr.reads I rv (frozenL_plain h3)
    refine W.max_list_data (I.ok.hd hc) hl.isList ra (alikeOf h1 h2) (by omega) fun i v h' tk bs hv rd hk => ?_
    obtain ⟨y, ry, rp⟩ := mmEnd I rv hr h3 hv rd hk hm
    exact ⟨y, H, I.kept hk, ry, q y rp⟩
  · obtain ⟨its, rv, hl, _⟩ := I.tuple hs
    obtain ⟨as, ra⟩ := hr.reads I rv (frozenL_plain h3)
    refine W.max_tuple_data (I.ok.hd hc) hl ra (alikeOf h1 h2) (by omega) fun i v h' tk bs hv rd hk => ?_
    obtain ⟨y, ry, rp⟩ := mmEnd I rv hr h3 hv rd hk hm
    exact ⟨y, H, I.kept hk, ry, q y rp⟩
def rMin2 : List V → Hp → VK → Prop := fun xs H Q => ∃ i j, xs = [.int i, .int j] ∧ Q (.int (if j < i then j else i)) H
def rMax2' : List V → Hp → VK → Prop := fun xs H Q => ∃ i j, xs = [.int i, .int j] ∧ Q (.int (if j > i then j else i)) H
theorem c_min {K : PySem.W.Frag} (hu : X.A.units + 64 < cLine) (hc : X.calm = true := by rfl) (hK : X.K = K := by rfl) : CallP X (.builtin "min") (fun xs H Q => rMM K W.minD xs H Q ∨ rMin2 xs H Q) gMin := by
  subst hK
  refine ⟨CallR.or (r_min hu hc) (call_min2 hc), fun vs ds z H Q r q k => ?_⟩
  unfold gMin at q
  split at q
  · obtain ⟨v, rfl, rv1⟩ := rep1 r
    split at q
    · rename_i ok
      cases q
      have hf := okMM_frz ok
      cases rv1 with
      | lst h r => exact .inl ⟨_, _, _, _, rfl, .inl (SqL.of h), r, ok, fun v rv => k v H (Same.refl H) (New.frz rv (frozenL_mem hf (foldMM (fun a y => W.dataLt y a) _ _)))⟩
    · cases q
  · obtain ⟨v, rfl, rv1⟩ := rep1 r
    split at q
    · rename_i ok
      cases q
      have hf := okMM_frz ok
      cases rv1 with
      | tup h r => exact .inl ⟨_, _, _, _, rfl, .inr h, r, ok, fun v rv => k v H (Same.refl H) (New.frz rv (frozenL_mem hf (foldMM (fun a y => W.dataLt y a) _ _)))⟩
    · cases q
  · obtain ⟨v, u, rfl, r1, r2⟩ := rep2 r
    cases q; cases r1; cases r2
    exact .inr ⟨_, _, rfl, k _ H (Same.refl H) newInt⟩
  · cases q
theorem c_max {K : PySem.W.Frag} (hu : X.A.units + 64 < cLine) (hc : X.calm = true := by rfl) (hK : X.K = K := by rfl) : CallP X (.builtin "max") (fun xs H Q => rMM K W.maxD xs H Q ∨ rMax2' xs H Q) gMax := by
  subst hK
  refine ⟨CallR.or (r_max hu hc) (call_max2 hc), fun vs ds z H Q r q k => ?_⟩
  unfold gMax at q
  split at q
  · obtain ⟨v, rfl, rv1⟩ := rep1 r
    split at q
    · rename_i ok
      cases q
      have hf := okMM_frz ok
      cases rv1 with
      | lst h r => exact .inl ⟨_, _, _, _, rfl, .inl (SqL.of h), r, ok, fun v rv => k v H (Same.refl H) (New.frz rv (frozenL_mem hf (foldMM (fun a y => W.dataLt a y) _ _)))⟩
    · cases q
  · obtain ⟨v, rfl, rv1⟩ := rep1 r
    split at q
    · rename_i ok
      cases q
      have hf := okMM_frz ok
      cases rv1 with
      | tup h r => exact .inl ⟨_, _, _, _, rfl, .inr h, r, ok, fun v rv => k v H (Same.refl H) (New.frz rv (frozenL_mem hf (foldMM (fun a y => W.dataLt a y) _ _)))⟩
    · cases q
  · obtain ⟨v, u, rfl, r1, r2⟩ := rep2 r
    cases q; cases r1; cases r2
    exact .inr ⟨_, _, rfl, k _ H (Same.refl H) newInt⟩
  · cases q
end
end Pd

set_option Elab.async false
set_option linter.all false
set_option maxRecDepth 100000
set_option maxHeartbeats 4000000
/-! Pd4: isinstance, subscripts, slices, ranges as lists, truth, comprehensions, what is walked, calls of defs. -/
namespace Pd
open PySem PySem.Spec PyProof.Rows L2

/-! ### isinstance -/
def tyName : D → String
  | .none => "NoneType"
  | .bool _ => "bool"
  | .int _ => "int"
  | .str _ => "str"
  | .list _ => "list"
  | .tuple _ => "tuple"
  | .dict _ => "dict"
def isaD (T : String) (d : D) : Bool := tyName d == T || (T == "int" && tyName d == "bool")
def isaOk (T : String) : Bool := ["NoneType", "bool", "int", "str", "list", "tuple"].all fun n => kitB n T == some (n == T || (T == "int" && n == "bool"))
def notDict : D → Bool
  | .dict _ => false
  | _ => true
theorem Rep.ty {K : PySem.W.Frag} {H : Hp} {v : V} {d : D} (r : Rep K H v d) (h : notDict d = true) : TyX K H v (.type (tyName d)) := by
  cases r with
  | non => exact .base .non
  | bl b => exact .base (.bl b)
  | int i => exact .base (.int i)
  | str x => exact .base (.str x)
  | lst h1 r => exact .base (.lst h1)
  | tup h1 r =>
    rcases h1 with (h1 | ⟨o, h1⟩) | ⟨o, its, n, h1, hc, _⟩
    · exact .base (.tup h1)
    · exact .fTuple h1
    · exact .kTuple h1 hc
  | dic h1 k r e => simp [notDict] at h
  | scr h1 r => simp [notDict] at h
theorem isa_ok {T : String} (hT : isaOk T = true) {d : D} (h : notDict d = true) : kitB (tyName d) T = some (isaD T d) := by
  unfold isaOk at hT
  rw [List.all_eq_true] at hT
  have mem : tyName d ∈ ["NoneType", "bool", "int", "str", "list", "tuple"] := by cases d <;> simp [tyName, notDict] at *
  exact eq_of_beq (hT _ mem)
def gIsa (T : String) : D → Option D := fun d => if notDict d then some (.bool (isaD T d)) else none
section
variable {X : Cx} {a : Expr} {ta : TE} {fa : FE} {p p2 pos : Pos}
theorem pf_isa {T : String} {Tn : Str} (hm : X.mg "isinstance" = none) (hmT : X.mg Tn = none) (ha : PP X a ta fa) (hT : isaOk T = true := by decide +kernel) (hvT : bootBuiltins Tn = some (.type T) := by decide +kernel) (hg : Gl X "isinstance" := by rfl) (hgT : Gl X Tn := by rfl)
    (hnT : Tn ≠ "__name__" := by decide) (hdT : (Tn == ("__debug__" : Str)) = false := by decide)
    (he : starEach (a :: [.Name Tn p2]) X.env = (false, eval a X.env) :: starEach [.Name Tn p2] X.env := by rfl) (hpl : (backTo pos (starEach [.Name Tn p2] X.env)).any (·.1) = false := by rfl)
    (he2 : starEach [.Name Tn p2] X.env = (false, eval (.Name Tn p2) X.env) :: starEach [] X.env := by rfl) : PF X (.Call (.Name "isinstance" p) [a, .Name Tn p2] [] pos) (tCB (rIsi X.K) (tCons ta (tCons (tC (.ty T)) tNil))) (e1 (gIsa T) fa) := by
  refine ⟨pe_callB call_isi hg hm (by decide +kernel) (pa_cons ha.pe (pa_cons (pe_bltn hgT hmT hvT rfl hnT hdT) pa_nil he2) he) (by decide) (by decide) he hpl, fun ε σ H d Q ok q k => ?_⟩
  obtain ⟨x, q1, q3⟩ := bindSome q
  refine ha.so ε σ H x _ ok q1 fun v H1 s1 r1 => ?_
  unfold gIsa at q3
  split at q3
  · rename_i hd
    cases q3
    exact ⟨v, .ty T, .type (tyName x), .type T, isaD T x, rfl, .ty T, r1.ty hd, kit_ty (isa_ok hT hd), k _ H1 s1 (newBl.back s1)⟩
  · cases q3

/-! ### subscripts -/
def gIx (d i : D) : Option D := match d, i with
  | .list xs, .int i => atI xs i
  | .tuple xs, .int i => atI xs i
  | .str z, .int i => if z.length ≤ cap then (atI z.cps.toList i).map fun c => .str ⟨#[c]⟩ else none
  | _, _ => none
theorem atRep {K : PySem.W.Frag} {H : Hp} {xs : List V} {ds : List D} {i : Int} {d : D} (r : RepL K H xs ds) (h : atI ds i = some d) : ∃ v, atI xs i = some v ∧ Rep K H v d := by
  unfold atI at h ⊢
  rw [← r.length] at h
  obtain ⟨j, e, h⟩ := Option.bind_eq_some_iff.mp h
  obtain ⟨v, hv, q⟩ := r.getD h
  exact ⟨v, by rw [e]; exact hv, q⟩
theorem pp_ix {K : PySem.W.Frag} {b : Expr} {tb : TE} {fb : FE} (ha : PP X a ta fa) (hb : PP X b tb fb) (hs : PlainIx b := by exact fun _ _ => rfl) (hK : X.K = K := by rfl) : PP X (.Subscript a b pos) (tOp (rIx K) ta tb) (e2 gIx fa fb) := by
  subst hK
  refine ⟨pe_ix ix_seq ha.pe hb.pe hs, fun ε σ H d Q ok q k => ?_⟩
  obtain ⟨x, q1, q⟩ := bindSome q
  obtain ⟨y, q2, q3⟩ := bindSome q
  refine ha.so ε σ H x _ ok q1 fun v H1 s1 r1 => ?_
  refine hb.so ε σ H1 y _ (ok.same s1) q2 fun u H2 s2 r2 => ?_
  have r1 := r1.mono (smOf s2)
  unfold gIx at q3
  split at q3
  · cases r2
    cases r1 with
    | lst h r =>
      obtain ⟨w, hw, rw'⟩ := atRep r q3
      exact .inl ⟨_, _, _, w, rfl, rfl, SqL.of h, hw, k w H2 (s1.trans s2) rw'⟩
  · cases r2
    cases r1 with
    | tup h r =>
      obtain ⟨w, hw, rw'⟩ := atRep r q3
      exact .inr (.inl ⟨_, _, _, w, rfl, rfl, h, hw, k w H2 (s1.trans s2) rw'⟩)
  · cases r2
    cases r1
    split at q3
    · rename_i hl
      obtain ⟨c, hc, rfl⟩ := Option.map_eq_some_iff.mp q3
      exact .inr (.inr ⟨_, _, c, rfl, rfl, cap_le hl, hc, k _ H2 (s1.trans s2) (.str _)⟩)
    · cases q3
  · cases q3

/-! ### slices -/
def cutL {α : Type} (xs : List α) (lo hi : Option Int) : List α := (xs.drop (HT.sIx xs.length 0 lo)).take (HT.sIx xs.length xs.length hi - HT.sIx xs.length 0 lo)
theorem RepL.cut {K : PySem.W.Frag} {H : Hp} {xs : List V} {ds : List D} (r : RepL K H xs ds) (lo hi : Option Int) : RepL K H (cutV xs lo hi) (cutL ds lo hi) := by
  unfold cutV cutL
  rw [r.length]
  exact (r.drop _).take _
theorem cutL_mem {α : Type} {xs : List α} {lo hi : Option Int} {x : α} (h : x ∈ cutL xs lo hi) : x ∈ xs := List.mem_of_mem_drop (List.mem_of_mem_take h)
theorem frozenL_of {xs ys : List D} (h : frozenL xs = true) (hs : ∀ d ∈ ys, d ∈ xs) : frozenL ys = true := by
  rw [frozenL_all, List.all_eq_true]
  exact fun d hd => frozenL_mem h (hs d hd)
theorem Rep.script {K : PySem.W.Frag} {H : Hp} {v : V} {ds : List D} (r : Rep K H v (.dict [(.bool true, .list ds)])) : ∃ a xs, v = .ref a ∧ SqL K H a xs ∧ RepL K H xs ds := by
  cases r with
  | scr h r => exact ⟨_, _, rfl, h, r⟩
  | @dic _ _ _ _ es _ h k r e =>
    cases k with
    | k kvs =>
      cases kvs with
      | nil => simp at e
      | cons p kvs =>
        cases es with
        | nil => simp at e
        | cons _ _ =>
          rcases p with ⟨p | p, _⟩ <;> simp [kD] at e
    | t kvs =>
      cases es with
      | nil => simp at e
      | cons _ _ => simp at e
def gSl (d : D) (lo hi : Option Int) : Option D := match d with
  | .dict [(.bool true, .list xs)] => if frozenL xs then some (.list (cutL xs lo hi)) else none
  | .list xs => if frozenL xs then some (.list (cutL xs lo hi)) else none
  | .tuple xs => if frozenL xs then some (.tuple (cutL xs lo hi)) else none
  | .str z => if z.length ≤ cap then some (.str (cutS z lo hi)) else none
  | _ => none
abbrev FO := En → Option (Option Int)
def OSo (K : PySem.W.Frag) (t : TO) (f : FO) : Prop := ∀ (ε : En) (σ : L2.St) (H : Hp) (o : Option Int) (Q : Option Int → Hp → Prop), OkR K ε σ H → f ε = some o → (∀ H', Same H H' → Q o H') → t σ H Q
structure POr (X : Cx) (e : Option Expr) (t : TO) (f : FO) : Prop where
  po : PO X e t
  so : OSo X.K t f
def oNone : FO := fun _ => some none
def toI : D → Option Int
  | .int i => some i
  | _ => none
def oSome (f : FE) : FO := fun ε => (f ε).bind fun d => (toI d).map some
theorem or_none : POr X none tNoPart oNone := ⟨po_none, fun ε σ H o Q ok q k => by cases q; exact k H (Same.refl H)⟩
theorem or_some (ha : PP X a ta fa) : POr X (some a) (tPart ta) (oSome fa) := by
  refine ⟨po_some ha.pe, fun ε σ H o Q ok q k => ?_⟩
  obtain ⟨x, q1, q⟩ := bindSome q
  refine ha.so ε σ H x _ ok q1 fun v H1 s1 r1 => ?_
  cases r1 with
  | int i => cases q; exact ⟨i, rfl, k H1 s1⟩
  | _ => simp [toI] at q
def eSl (f : FE) (lo hi : FO) : FE := fun ε => (f ε).bind fun d => (lo ε).bind fun l => (hi ε).bind fun h => gSl d l h
theorem tupCut {K : PySem.W.Frag} {H H3 : Hp} {a' : Addr} {ys : List V} {ds : List D} {l h : Option Int} {Q : VK} (hx : SqT K H3 a' ys) (r : RepL K H3 ys ds) (hf : frozenL ds = true) (s : Same H H3) (k : ∀ v H', Same H H' → New K H H' v (.tuple (cutL ds l h)) → Q v H') :
    rSlL K (.ref a') l h H3 Q ∨ (rSlA K (.ref a') l h H3 Q ∨ rSlS (.ref a') l h H3 Q) := by
  have fz : frozenL (cutL ds l h) = true := frozenL_of hf fun d hd => cutL_mem hd
  refine .inr (.inl ⟨_, _, rfl, hx, fun hw => ?_, fun _ p hp => k _ _ (s.trans (sameNew hp _)) ((New.tup (H := H3) (NewL.frz (r.cut l h) fz) hp).back s)⟩)
  have e : cutL ds l h = ds := by
    unfold cutL
    rw [← r.length, hw.1, hw.2, List.drop_zero, Nat.sub_zero, r.length, List.take_length]
  rw [e] at k
  exact k _ H3 s (New.frz (.tup hx r) (by simpa [frozen] using hf))
theorem pf_sl {K : PySem.W.Frag} {lo hi : Option Expr} {tl th : TO} {fl fh : FO} {p2 : Pos} (ha : PP X a ta fa) (hl : POr X lo tl fl) (hh : POr X hi th fh) (hK : X.K = K := by rfl) :
    PF X (.Subscript a (.Slice lo hi none p2) pos) (tSl (fun x l h H Q => rSlL K x l h H Q ∨ (rSlA K x l h H Q ∨ rSlS x l h H Q)) ta tl th) (eSl fa fl fh) := by
  subst hK
  refine ⟨pe_slice (SlR.or sl_list (SlR.or sl_tupA sl_str)) ha.pe hl.po hh.po, fun ε σ H d Q ok q k => ?_⟩
  obtain ⟨x, q1, q⟩ := bindSome q
  obtain ⟨l, q2, q⟩ := bindSome q
  obtain ⟨h, q3, q4⟩ := bindSome q
  refine ha.so ε σ H x _ ok q1 fun v H1 s1 r1 => ?_
  refine hl.so ε σ H1 l _ (ok.same s1) q2 fun H2 s2 => ?_
  refine hh.so ε σ H2 h _ (ok.same (s1.trans s2)) q3 fun H3 s3 => ?_
  have s := (s1.trans s2).trans s3
  have r := r1.mono (smOf (s2.trans s3))
  unfold gSl at q4
  split at q4
  · split at q4
    · rename_i hf
      cases q4
      obtain ⟨a, xs, rfl, hx, r⟩ := r.script
      exact .inl ⟨_, _, rfl, hx, fun p hp => k _ _ (s.trans (sameNew hp _)) (New.lst (NewL.frz (r.cut l h) (frozenL_of hf fun d hd => cutL_mem hd)) s hp)⟩
    · cases q4
  · split at q4
    · rename_i hf
      cases q4
      cases r with
      | lst hx r => exact .inl ⟨_, _, rfl, SqL.of hx, fun p hp => k _ _ (s.trans (sameNew hp _)) (New.lst (NewL.frz (r.cut l h) (frozenL_of hf fun d hd => cutL_mem hd)) s hp)⟩
    · cases q4
  · split at q4
    · rename_i hf
      cases q4
      cases r with
      | tup hx r => exact tupCut hx r hf s k
    · cases q4
  · split at q4
    · rename_i hz
      cases q4
      cases r
      exact .inr (.inr ⟨_, rfl, cap_le hz, k _ _ s (newStr.back s)⟩)
    · cases q4
  · cases q4

/-! ### list(range(..)), tuple(range(..)) -/
def rgD (a b : Int) : List D := (List.range (b - a).toNat).map fun i => .int (a + (i : Nat))
theorem rep_rg {K : PySem.W.Frag} {H : Hp} (a b : Int) : RepL K H (rgV a b) (rgD a b) := by
  unfold rgV rgD
  generalize List.range (b - a).toNat = l
  induction l with
  | nil => exact .nil
  | cons x r ih => exact .cons (.int _) ih
theorem frz_rg (a b : Int) : frozenL (rgD a b) = true := by
  unfold rgD
  rw [frozenL_all, List.all_eq_true]
  intro d hd
  obtain ⟨i, _, rfl⟩ := List.mem_map.mp hd
  rfl
/-- small bounds; decided classically, so that no check counts down from a million -/
noncomputable def rgOk (a b : Int) : Bool := @decide (-1000000 ≤ a ∧ a ≤ 1000000 ∧ -1000000 ≤ b ∧ b ≤ 1000000) (Classical.propDecidable _)
theorem rgOk_iff {a b : Int} : rgOk a b = true ↔ -1000000 ≤ a ∧ a ≤ 1000000 ∧ -1000000 ≤ b ∧ b ≤ 1000000 := @decide_eq_true_iff _ (Classical.propDecidable _)
theorem rgOk_of {a b : Int} (h : rgOk a b = true) : RgOk a b := by
  rw [rgOk_iff] at h
  exact ⟨by omega, by omega, by omega, by omega, by omega⟩
abbrev FR := En → Option (Int × Int)
def RSo (K : PySem.W.Frag) (t : L2.St → Hp → (Int → Int → Hp → Prop) → Prop) (f : FR) : Prop := ∀ (ε : En) (σ : L2.St) (H : Hp) (o : Int × Int) (Q : Int → Int → Hp → Prop), OkR K ε σ H → f ε = some o → (∀ H', Same H H' → Q o.1 o.2 H') → t σ H Q
structure PRr (X : Cx) (e : Expr) (t : L2.St → Hp → (Int → Int → Hp → Prop) → Prop) (f : FR) : Prop where
  pr : PRg X e t
  so : RSo X.K t f
def rg1 (f : FE) : FR := fun ε => (f ε).bind fun d => (toI d).bind fun n => some (0, n)
def rg2 (f g : FE) : FR := fun ε => (f ε).bind fun d => (g ε).bind fun e => (toI d).bind fun n => (toI e).bind fun m => some (n, m)
theorem toI_some {d : D} {i : Int} (h : toI d = some i) : d = .int i := by cases d <;> simp [toI] at h; rw [h]
theorem rr_1 (hm : X.mg "range" = none) (ha : PP X a ta fa) (hg : Gl X "range" := by rfl) (na : starEach [a] X.env = (false, eval a X.env) :: starEach [] X.env := by rfl) : PRr X (.Call (.Name "range" p) [a] [] pos) (tRg1 ta) (rg1 fa) := by
  refine ⟨prg_1 hg hm ha.pe na, fun ε σ H o Q ok q k => ?_⟩
  obtain ⟨x, q1, q⟩ := bindSome q
  obtain ⟨n, q2, q⟩ := bindSome q
  cases q
  have := toI_some q2
  subst this
  refine ha.so ε σ H _ _ ok q1 fun v H1 s1 r1 => ?_
  cases r1
  exact ⟨n, rfl, k H1 s1⟩
theorem rr_2 {b : Expr} {tb : TE} {fb : FE} (hm : X.mg "range" = none) (ha : PP X a ta fa) (hb : PP X b tb fb) (hg : Gl X "range" := by rfl) (na : starEach [a, b] X.env = (false, eval a X.env) :: starEach [b] X.env := by rfl) (nb : starEach [b] X.env = (false, eval b X.env) :: starEach [] X.env := by rfl) (hp : (backTo pos (starEach [b] X.env)).any (·.1) = false := by rfl) :
    PRr X (.Call (.Name "range" p) [a, b] [] pos) (tRg2 ta tb) (rg2 fa fb) := by
  refine ⟨prg_2 hg hm ha.pe hb.pe na nb hp, fun ε σ H o Q ok q k => ?_⟩
  obtain ⟨x, q1, q⟩ := bindSome q
  obtain ⟨y, q2, q⟩ := bindSome q
  obtain ⟨n, q3, q⟩ := bindSome q
  obtain ⟨m, q4, q⟩ := bindSome q
  cases q
  have := toI_some q3
  subst this
  have := toI_some q4
  subst this
  refine ha.so ε σ H _ _ ok q1 fun v H1 s1 r1 => ?_
  refine hb.so ε σ H1 _ _ (ok.same s1) q2 fun u H2 s2 r2 => ?_
  cases r1
  cases r2
  exact ⟨n, m, rfl, rfl, k H2 (s1.trans s2)⟩
noncomputable def eLrg (f : FR) : FE := fun ε => (f ε).bind fun o => if rgOk o.1 o.2 then some (.list (rgD o.1 o.2)) else none
noncomputable def eTrg (f : FR) : FE := fun ε => (f ε).bind fun o => if rgOk o.1 o.2 then some (.tuple (rgD o.1 o.2)) else none
variable {t : L2.St → Hp → (Int → Int → Hp → Prop) → Prop} {f : FR}
theorem pf_lrg (hm : X.mg "list" = none) (he : PRr X a t f) (hc : X.calm = true := by rfl) (hg : Gl X "list" := by rfl) (na : starEach [a] X.env = (false, eval a X.env) :: starEach [] X.env := by rfl) : PF X (.Call (.Name "list" p) [a] [] pos) (tLstRg t) (eLrg f) := by
  refine ⟨pe_listRg hc hg hm he.pr na, fun ε σ H d Q ok q k => ?_⟩
  obtain ⟨o, q1, q⟩ := bindSome q
  split at q
  · rename_i h
    cases q
    exact he.so ε σ H o _ ok q1 fun H1 s1 => ⟨rgOk_of h, fun p hp => k _ _ (s1.trans (sameNew hp _)) (New.lst (NewL.frz (rep_rg _ _) (frz_rg _ _)) s1 hp)⟩
  · cases q
theorem pf_trg (hm : X.mg "tuple" = none) (he : PRr X a t f) (hc : X.calm = true := by rfl) (hg : Gl X "tuple" := by rfl) (na : starEach [a] X.env = (false, eval a X.env) :: starEach [] X.env := by rfl) : PF X (.Call (.Name "tuple" p) [a] [] pos) (tTupRg t) (eTrg f) := by
  refine ⟨pe_tupRg hc hg hm he.pr na, fun ε σ H d Q ok q k => ?_⟩
  obtain ⟨o, q1, q⟩ := bindSome q
  split at q
  · rename_i h
    cases q
    exact he.so ε σ H o _ ok q1 fun H1 s1 => ⟨rgOk_of h, fun p hp => k _ _ (s1.trans (sameNew hp _)) ((New.tup (H := H1) (NewL.frz (rep_rg _ _) (frz_rg _ _)) hp).back s1)⟩
  · cases q
end

/-! ### truth values -/
def toB : D → Option Bool
  | .bool b => some b
  | _ => none
def tst (f : FE) : En → Option Bool := fun ε => (f ε).bind toB
theorem toB_some {d : D} {i : Bool} (h : toB d = some i) : d = .bool i := by cases d <;> simp [toB] at h; rw [h]
section
variable {X : Cx} {a b c : Expr} {ta tb tc : TE} {fa fb fc : FE} {p pos : Pos} {tA tB' : TT} {ga gb : En → Option Bool} {rest : List Expr}
theorem so_tB {K : PySem.W.Frag} {t : TE} {f : FE} (h : PSo K t f) : TSo K (tB t) (tst f) := by
  intro ε σ H b Q ok q k
  obtain ⟨x, q1, q⟩ := bindSome q
  have := toB_some q
  subst this
  refine h ε σ H _ _ ok q1 fun v H1 s1 r1 => ?_
  cases r1
  exact ⟨b, rfl, k H1 s1⟩
/-- a name, a call, a subscript as a test (its value True or False) -/
theorem tt_val (ha : PP X a ta fa) (he : ∀ whole, isTrue a X.env whole = (do let v ← whole; standAt a.pos; holding [v] (truthy v)) := by intro _; rfl) : PTt X a (tB ta) (tst fa) :=
  ⟨pt_val ha.pe he, so_tB ha.so⟩
theorem tt_cmp {op : CmpOp} {r : R2} {g : D → D → Option D} (o : OpP X (compareOp op) r g) (ha : PP X a ta fa) (hb : PP X b tb fb) (hm : behindInMarks op b = false := by first | exact nomark _ | rfl) : PTt X (.Compare a [op] [b] pos) (tTest (tOp r ta tb)) (tst (e2 g fa fb)) :=
  ⟨pt_cmpR o.op ha.pe hb.pe hm, fun ε σ H b Q ok q k => so_tB (K := X.K) (t := tOp r ta tb) (f := e2 g fa fb) (fun ε σ H d Q ok q k => so_op o.v ha.so hb.so ε σ H d Q ok q fun v H' s n => k v H' s n.rep) ε σ H b Q ok q k⟩
def bNot (f : En → Option Bool) : En → Option Bool := fun ε => (f ε).map (!·)
def bAnd (f g : En → Option Bool) : En → Option Bool := fun ε => (f ε).bind fun x => if x then g ε else some false
def bOr (f g : En → Option Bool) : En → Option Bool := fun ε => (f ε).bind fun x => if x then some true else g ε
theorem tt_not (ha : PTt X a tA ga) : PTt X (.UnaryOp .Not a pos) (tNot tA) (bNot ga) := by
  refine ⟨pt_not ha.pt, fun ε σ H b Q ok q k => ?_⟩
  obtain ⟨x, q1, rfl⟩ := Option.map_eq_some_iff.mp q
  exact ha.so ε σ H x _ ok q1 fun H1 s1 => k H1 s1
theorem tw_and1 (ha : PTt X a tA ga) : PWt X (.BoolOp .And [a] pos) tA ga := ⟨pw_and1 ha.pt, ha.so⟩
theorem tw_or1 (ha : PTt X a tA ga) : PWt X (.BoolOp .Or [a] pos) tA ga := ⟨pw_or1 ha.pt, ha.so⟩
theorem tw_and (ha : PTt X a tA ga) (hb : PWt X (.BoolOp .And (b :: rest) pos) tB' gb) : PWt X (.BoolOp .And (a :: b :: rest) pos) (tAnd tA tB') (bAnd ga gb) := by
  refine ⟨pw_and ha.pt hb.pw, fun ε σ H c Q ok q k => ?_⟩
  obtain ⟨x, q1, q⟩ := bindSome q
  refine ha.so ε σ H x _ ok q1 fun H1 s1 => ?_
  cases x with
  | true => exact hb.so ε σ H1 c Q (ok.same s1) q fun H2 s2 => k H2 (s1.trans s2)
  | false =>
    cases q
    exact k H1 s1
theorem tw_or (ha : PTt X a tA ga) (hb : PWt X (.BoolOp .Or (b :: rest) pos) tB' gb) : PWt X (.BoolOp .Or (a :: b :: rest) pos) (tOr tA tB') (bOr ga gb) := by
  refine ⟨pw_or ha.pt hb.pw, fun ε σ H c Q ok q k => ?_⟩
  obtain ⟨x, q1, q⟩ := bindSome q
  refine ha.so ε σ H x _ ok q1 fun H1 s1 => ?_
  cases x with
  | false => exact hb.so ε σ H1 c Q (ok.same s1) q fun H2 s2 => k H2 (s1.trans s2)
  | true =>
    cases q
    exact k H1 s1
/-! as values -/
def eAnd (f g : FE) : FE := fun ε => (f ε).bind fun d => (toB d).bind fun x => if x then g ε else some (.bool false)
def eOr (f g : FE) : FE := fun ε => (f ε).bind fun d => (toB d).bind fun x => if x then some (.bool true) else g ε
def eNot (f : FE) : FE := fun ε => (f ε).bind fun d => (toB d).map fun x => .bool (!x)
def eIf (c : En → Option Bool) (f g : FE) : FE := fun ε => (c ε).bind fun x => if x then f ε else g ε
theorem pf_one {op : BoolOp} (ha : PF X a ta fa) : PF X (.BoolOp op [a] pos) ta fa := ⟨pe_one ha.pe, ha.so⟩
theorem pf_and (ha : PP X a ta fa) (hb : PF X (.BoolOp .And (b :: rest) pos) tb fb) : PF X (.BoolOp .And (a :: b :: rest) pos) (tAndV ta tb) (eAnd fa fb) := by
  refine ⟨pe_and ha.pe hb.pe, fun ε σ H d Q ok q k => ?_⟩
  obtain ⟨x, q1, q⟩ := bindSome q
  obtain ⟨c, q2, q⟩ := bindSome q
  have := toB_some q2
  subst this
  refine ha.so ε σ H _ _ ok q1 fun v H1 s1 r1 => ?_
  cases r1
  refine ⟨c, rfl, ?_⟩
  cases c with
  | true => exact hb.so ε σ H1 d Q (ok.same s1) q fun w H2 s2 n => k w H2 (s1.trans s2) (n.back s1)
  | false =>
    cases q
    exact k _ H1 s1 (newBl.back s1)
theorem pf_or (ha : PP X a ta fa) (hb : PF X (.BoolOp .Or (b :: rest) pos) tb fb) : PF X (.BoolOp .Or (a :: b :: rest) pos) (tOrV ta tb) (eOr fa fb) := by
  refine ⟨pe_or ha.pe hb.pe, fun ε σ H d Q ok q k => ?_⟩
  obtain ⟨x, q1, q⟩ := bindSome q
  obtain ⟨c, q2, q⟩ := bindSome q
  have := toB_some q2
  subst this
  refine ha.so ε σ H _ _ ok q1 fun v H1 s1 r1 => ?_
  cases r1
  refine ⟨c, rfl, ?_⟩
  cases c with
  | false => exact hb.so ε σ H1 d Q (ok.same s1) q fun w H2 s2 n => k w H2 (s1.trans s2) (n.back s1)
  | true =>
    cases q
    exact k _ H1 s1 (newBl.back s1)
theorem pf_not (ha : PP X a ta fa) : PF X (.UnaryOp .Not a pos) (tNotV ta) (eNot fa) := by
  refine ⟨pe_not ha.pe, fun ε σ H d Q ok q k => ?_⟩
  obtain ⟨x, q1, q⟩ := bindSome q
  obtain ⟨c, q2, rfl⟩ := Option.map_eq_some_iff.mp q
  have := toB_some q2
  subst this
  refine ha.so ε σ H _ _ ok q1 fun v H1 s1 r1 => ?_
  cases r1
  exact ⟨c, rfl, k _ H1 s1 (newBl.back s1)⟩
theorem pf_if (hc : PTt X c tA ga) (ha : PF X a ta fa) (hb : PF X b tb fb) : PF X (.IfExp c a b pos) (tIf tA ta tb) (eIf ga fa fb) := by
  refine ⟨pe_ifExp hc.pt ha.pe hb.pe, fun ε σ H d Q ok q k => ?_⟩
  obtain ⟨x, q1, q⟩ := bindSome q
  refine hc.so ε σ H x _ ok q1 fun H1 s1 => ?_
  cases x with
  | true => exact ha.so ε σ H1 d Q (ok.same s1) q fun w H2 s2 n => k w H2 (s1.trans s2) (n.back s1)
  | false => exact hb.so ε σ H1 d Q (ok.same s1) q fun w H2 s2 n => k w H2 (s1.trans s2) (n.back s1)
theorem pp_if (hc : PTt X c tA ga) (ha : PP X a ta fa) (hb : PP X b tb fb) : PP X (.IfExp c a b pos) (tIf tA ta tb) (eIf ga fa fb) := by
  refine ⟨pe_ifExp hc.pt ha.pe hb.pe, fun ε σ H d Q ok q k => ?_⟩
  obtain ⟨x, q1, q⟩ := bindSome q
  refine hc.so ε σ H x _ ok q1 fun H1 s1 => ?_
  cases x with
  | true => exact ha.so ε σ H1 d Q (ok.same s1) q fun w H2 s2 n => k w H2 (s1.trans s2) n
  | false => exact hb.so ε σ H1 d Q (ok.same s1) q fun w H2 s2 n => k w H2 (s1.trans s2) n
/-! a < b < c -/
def eChain (g g' : D → D → Option D) (f h l : FE) : FE := fun ε => (f ε).bind fun x => (h ε).bind fun y => (g x y).bind fun z => (toB z).bind fun c => if c then (l ε).bind fun w => g' y w else some (.bool false)
theorem so_chain {K : PySem.W.Frag} {r r' : R2} {g g' : D → D → Option D} (o : OpV K r g) (o' : OpV K r' g') (ha : PSo K ta fa) (hb : PSo K tb fb) (hc : PSo K tc fc) : FSo K (tChain r r' ta tb tc) (eChain g g' fa fb fc) := by
  intro ε σ H d Q ok q k
  obtain ⟨x, q1, q⟩ := bindSome q
  obtain ⟨y, q2, q⟩ := bindSome q
  obtain ⟨z, q3, q⟩ := bindSome q
  obtain ⟨c, q4, qq⟩ := bindSome q
  have := toB_some q4
  subst this
  refine ha ε σ H x _ ok q1 fun v H1 s1 r1 => ?_
  refine hb ε σ H1 y _ (ok.same s1) q2 fun u H2 s2 r2 => ?_
  refine o v u x y _ H2 _ (r1.mono (smOf s2)) r2 q3 fun w H3 s3 n => ?_
  have rn := n.rep
  cases rn
  refine ⟨c, rfl, ?_⟩
  have s := (s1.trans s2).trans s3
  cases c with
  | true =>
    rw [if_pos rfl] at qq
    obtain ⟨w7, q5, q6⟩ := bindSome qq
    refine hc ε σ H3 w7 _ (ok.same s) q5 fun w' H4 s4 r4 => ?_
    exact o' u w' y w7 d H4 Q (r2.mono (smOf (s3.trans s4))) r4 q6 fun v5 H5 s5 n5 => k v5 H5 ((s.trans s4).trans s5) (n5.back (s.trans s4))
  | false =>
    cases qq
    exact k _ H3 s (newBl.back s)
theorem pf_chain {op op' : CmpOp} {r r' : R2} {g g' : D → D → Option D} (o : OpP X (compareOp op) r g) (o' : OpP X (compareOp op') r' g') (ha : PP X a ta fa) (hb : PP X b tb fb) (hc : PP X c tc fc) (hm : lastMarks [op, op'] [b, c] = false := by with_unfolding_all rfl) :
    PF X (.Compare a [op, op'] [b, c] pos) (tChain r r' ta tb tc) (eChain g g' fa fb fc) := ⟨pe_chain o.op o'.op ha.pe hb.pe hc.pe hm, so_chain o.v o'.v ha.so hb.so hc.so⟩
theorem tt_chain {op op' : CmpOp} {r r' : R2} {g g' : D → D → Option D} (o : OpP X (compareOp op) r g) (o' : OpP X (compareOp op') r' g') (ha : PP X a ta fa) (hb : PP X b tb fb) (hc : PP X c tc fc) (hm : lastMarks [op, op'] [b, c] = false := by with_unfolding_all rfl) :
    PTt X (.Compare a [op, op'] [b, c] pos) (tTest (tChain r r' ta tb tc)) (tst (eChain g g' fa fb fc)) :=
  ⟨pt_chain o.op o'.op ha.pe hb.pe hc.pe hm, fun ε σ H b Q ok q k => so_tB (K := X.K) (t := tChain r r' ta tb tc) (f := eChain g g' fa fb fc) (fun ε σ H d Q ok q k => so_chain o.v o'.v ha.so hb.so hc.so ε σ H d Q ok q fun v H' s n => k v H' s n.rep) ε σ H b Q ok q k⟩
end
end Pd

set_option Elab.async false
set_option linter.all false
set_option maxRecDepth 100000
set_option maxHeartbeats 4000000
/-! Pd5: what a for walks: enumerate and zip of lists, tuples, texts in any mix. -/
namespace Pd
open PySem PySem.Spec PyProof.Rows L2

/-! ### a source: a list, a tuple, a text -/
inductive Kd where
  | l (a : Addr)
  | t (a : Addr)
  | s (x : Str)
def Kd.v : Kd → V
  | .l a => .ref a
  | .t a => .ref a
  | .s x => .str x
def strV (x : Str) : List V := x.cps.toList.map fun c => V.str ⟨#[c]⟩
def Kd.items (K : PySem.W.Frag) (H : Hp) : Kd → List V → Prop
  | .l a, xs => SqL K H a xs
  | .t a, xs => SqT K H a xs
  | .s x, xs => xs = strV x
/-- its iterator -/
def Kd.itr : Kd → Tok → Heap → Addr → Nat → Prop
  | .l a, _, h, it, i => h.IsListIter it a i
  | .t a, _, h, it, i => h.IsTupleIter it a i
  | .s x, tk, h, it, i => h.IsStrIter it (strIterType x) x tk i
def Kd.adr : Kd → List Addr
  | .l a => [a]
  | .t a => [a]
  | .s _ => []
theorem Kd.itr_obj {k : Kd} {tk : Tok} {h : Heap} {it : Addr} {i : Nat} (st : k.itr tk h it i) : ∃ o, h.get? it = some o ∧ ∀ v, o.data ≠ .cell v := by
  cases k with
  | l a => obtain ⟨o, e, c, d⟩ := st; exact ⟨o, e, fun v z => by rw [d] at z; cases z⟩
  | t a => obtain ⟨o, e, c, d⟩ := st; exact ⟨o, e, fun v z => by rw [d] at z; cases z⟩
  | s x => obtain ⟨o, e, c, d⟩ := st; exact ⟨o, e, fun v z => by rw [d] at z; cases z⟩
theorem Kd.itr_at {k : Kd} {tk : Tok} {h h' : Heap} {it : Addr} {i : Nat} (st : k.itr tk h it i) (e : ∀ o, h.get? it = some o → h'.get? it = some o) : k.itr tk h' it i := by
  cases k with
  | l a => exact Heap.IsListIter.at st e
  | t a => exact Heap.IsTupleIter.at st e
  | s x => obtain ⟨o, q, c, d⟩ := st; exact ⟨o, e o q, c, d⟩
section
variable {X : Cx} {pins : List (Addr × Obj)} {σ : L2.St} {H : Hp} {s : Shared}
theorem items_inj (I : Inv X pins σ H s) {k : Kd} {xs ys : List V} (h : k.items X.K H xs) (h' : k.items X.K H ys) : xs = ys := by
  cases k with
  | l a => exact I.list_inj h h'
  | t a => exact I.tuple_inj h h'
  | s x => exact (show xs = strV x from h).trans (show ys = strV x from h').symm
theorem strV_get {x : Str} {i : Nat} {c : Nat} (h : x.cps[i]? = some c) : (strV x)[i]? = some (.str ⟨#[c]⟩) := by
  unfold strV
  rw [List.getElem?_map, Array.getElem?_toList, h]; rfl
/-- the library's word for its draws, here and now -/
theorem draws (I : Inv X pins σ H s) (hh : X.A.in1.handled = none) {k : Kd} {xs : List V} (h : k.items X.K H xs) (tk : Tok) (it : Addr) (hne : ∀ a ∈ k.adr, a ≠ it) :
    ∃ (P : Nat → Value → Prop) (St : Nat → Heap → Prop), Draws X.prog X.w X.A.in1 it (it :: k.adr) xs.length P St ∧ (∀ i, k.itr tk s.heap it i → St i s.heap) ∧ (∀ i h', St i h' → k.itr tk h' it i) ∧ ∀ i v, P i v → ∃ x, xs[i]? = some x ∧ RelV x v := by
  cases k with
  | l a =>
    obtain ⟨its, rv, p, _⟩ := I.list h
    have hl := rv.length
    refine ⟨fun i v => its.toArray[i]? = some v, fun i h => h.IsListIter it a i ∧ h.IsList a its.toArray, by rw [hl]; exact Draws.list hh it a (hne a (by simp [Kd.adr])) its.toArray, fun i st => ⟨st, p.isList⟩, fun i h' st => st.1, fun i v hv => ?_⟩
    have hv : its[i]? = some v := by simpa using hv
    have hi : i < xs.length := by rw [hl]; exact (List.getElem?_eq_some_iff.mp hv).1
    obtain ⟨u, hu, ru⟩ := rv.get (List.getElem?_eq_getElem hi)
    rw [hv] at hu; cases hu
    exact ⟨_, List.getElem?_eq_getElem hi, ru⟩
  | t a =>
    obtain ⟨its, rv, p, _⟩ := I.tuple h
    have hl := rv.length
    refine ⟨fun i v => its.toArray[i]? = some v, fun i h => h.IsTupleIter it a i ∧ h.IsTuple a its.toArray, by rw [hl]; exact Draws.tuple hh it a (hne a (by simp [Kd.adr])) its.toArray, fun i st => ⟨st, p⟩, fun i h' st => st.1, fun i v hv => ?_⟩
    have hv : its[i]? = some v := by simpa using hv
    have hi : i < xs.length := by rw [hl]; exact (List.getElem?_eq_some_iff.mp hv).1
    obtain ⟨u, hu, ru⟩ := rv.get (List.getElem?_eq_getElem hi)
    rw [hv] at hu; cases hu
    exact ⟨_, List.getElem?_eq_getElem hi, ru⟩
  | s x =>
    have h : xs = strV x := h
    subst h
    have hl : (strV x).length = x.cps.size := by simp [strV]
    exact ⟨fun i v => ∃ c u, x.cps[i]? = some c ∧ v = .str ⟨#[c]⟩ u, fun i h => h.IsStrIter it (strIterType x) x tk i, by rw [hl]; exact Draws.text hh it x tk, fun i st => st, fun i h' st => st, fun i v ⟨c, u, hc, e⟩ => ⟨_, strV_get hc, by rw [e]; exact ⟨u, rfl⟩⟩⟩
/-- its iterator begins -/
theorem begins (I : Inv X pins σ H s) {k : Kd} {xs : List V} (h : k.items X.K H xs) {v : Value} (r : RelV k.v v) :
    ∃ (o : Obj) (Hp : Heap → Prop) (tk : Tok), Begins v o Hp ∧ Hp s.heap ∧ (∀ (h' : Heap) (it : Addr), h'.get? it = some o → k.itr tk h' it 0) ∧ ∀ a ∈ k.adr, a < s.heap.objs.size := by
  cases k with
  | l a =>
    obtain ⟨its, rv, p, _⟩ := I.list h
    cases r
    exact ⟨_, _, 0, begins_list a its.toArray, p.isList, fun h' it e => ⟨_, e, rfl, rfl⟩, fun b hb => by rw [Kd.adr, List.mem_singleton] at hb; subst hb; exact p.lt⟩
  | t a =>
    obtain ⟨its, rv, p, _⟩ := I.tuple h
    cases r
    obtain ⟨o1, ho1, _⟩ := id p
    exact ⟨_, _, 0, begins_tuple a its.toArray, p, fun h' it e => ⟨_, e, rfl, rfl⟩, fun b hb => by rw [Kd.adr, List.mem_singleton] at hb; subst hb; exact Heap.lt_size ho1⟩
  | s x =>
    obtain ⟨t, rfl⟩ := r
    exact ⟨_, _, t, begins_text x t, trivial, fun h' it e => ⟨_, e, rfl, rfl⟩, fun b hb => by simp [Kd.adr] at hb⟩
end

/-! ### enumerate -/
def IteG (K : PySem.W.Frag) (k : Kd) : It :=
  ⟨fun i H => ∃ (xs : List V) (x : V), k.items K H xs ∧ xs[i]? = some x, fun i H v H' => ∃ T x, v = .ref T ∧ H T = none ∧ H' = upd H T (.tup [.int (i : Nat), x]) ∧ ∀ xs, k.items K H xs → xs[i]? = some x, fun i H => ∃ xs : List V, k.items K H xs ∧ xs.length = i⟩
theorem turn_enumG {P : Program} {w : World} {K : PySem.W.Frag} {elts : List Expr} {kk : Nat} {tpos : Pos} (k : Kd) (tk : Tok) (e it : Addr) (h1 : e ≠ it) (h2 : ∀ a ∈ k.adr, a ≠ e ∧ a ≠ it) :
    Turn P w K (.Tuple elts kk tpos) (IteG K k) [e, it] e (fun i h => (∃ old, IsEnum h e it ((i : Nat) : Int) old) ∧ k.itr tk h it i) where
  mem := by simp
  obj := fun i h st b hb => by
    obtain ⟨⟨old, he⟩, hi⟩ := st
    obtain ⟨o, ho, hd⟩ := Kd.itr_obj hi
    have e' : b = e ∨ b = it := by simpa using hb
    rcases e' with z | z
    · rw [z]; exact ⟨_, he, fun v q => nomatch q⟩
    · rw [z]; exact ⟨o, ho, hd⟩
  keep := fun i h h' st k' => let ⟨⟨old, he⟩, hi⟩ := st; ⟨⟨old, k' e (by simp) _ he⟩, Kd.itr_at hi fun o q => k' it (by simp) o q⟩
  item := by
    intro X hP hw hK hc i pins s σ H E I hf st hg
    subst hP hw hK
    obtain ⟨⟨old, he⟩, hit⟩ := st
    obtain ⟨xs, x, hq, hx⟩ := hg
    obtain ⟨Pq, Sq, Dr, st1, st2, hPq⟩ := draws I (I.ok.hd hc) hq tk it fun a ha => (h2 a ha).2
    have hel : e < s.heap.objs.size := Heap.lt_size he
    have hil : it < s.heap.objs.size := by obtain ⟨_, q, _⟩ := Kd.itr_obj hit; exact Heap.lt_size q
    have hlt : i < xs.length := (List.getElem?_eq_some_iff.mp hx).1
    refine wpAny_pyNext_enum_itemD Dr he (st1 i hit) hlt h1 (by simp only [List.mem_cons, not_or]; exact ⟨h1, fun z => (h2 e z).1 rfl⟩) fun u h' tk' hu ho hit' hT hsz hk => ?_
    obtain ⟨x', hx', ru⟩ := hPq i u hu
    rw [hx] at hx'; cases hx'
    refine ⟨_, rfl, wpAny_letOwnedTupleGo_enum (s := { s with heap := h', toks := tk' + 1 }) ho fun h'' he' sb => ?_⟩
    have hT2 : h''.get? s.heap.objs.size = some { cls := .type "tuple", data := .seq #[.int i tk', u] } := (sb.2 _ (Nat.ne_of_gt hel)).trans hT
    have new : ObjOk X.prog X.w (upd H s.heap.objs.size (.tup [.int (i : Nat), x])) h'' s.heap.objs.size (.tup [.int (i : Nat), x]) :=
      ⟨by show 2 ≤ sizeLine; decide, [.int i tk', u], .cons ⟨_, rfl⟩ (.cons ru .nil), ⟨_, hT2, rfl, _, rfl⟩⟩
    have I1 : Inv X pins σ (upd H s.heap.objs.size (.tup [.int (i : Nat), x])) { s with heap := h'', toks := tk' + 1 } :=
      I.turnedNew (ch := [e, it]) (fun b ob hb q => (sb.2 b (fun z => hb (by simp [z]))).trans (hk b ob (fun z => hb (by simp [z])) (fun z => hb (by simp [z])) q)) hf (Nat.le_refl _) new
    refine ⟨.ref s.heap.objs.size, _, I1, rfl, ⟨_, x, rfl, I.hok.fresh (Nat.le_refl _), rfl, fun ys hy => by rw [items_inj I hy hq]; exact hx⟩, ⟨⟨u, ?_⟩, Kd.itr_at (st2 _ _ hit') fun o q => (sb.2 it (Ne.symm h1)).trans q⟩, fun b hb => ?_⟩
    · have e1 : ((i + 1 : Nat) : Int) = (i : Int) + 1 := by omega
      rw [e1]; exact he'
    · have hb' : b < s.heap.objs.size := by
        have e' : b = e ∨ b = it := by simpa using hb
        rcases e' with z | z
        · rw [z]; exact hel
        · rw [z]; exact hil
      rw [upd_ne (Nat.ne_of_lt hb')]
      exact (hf b hb).1
  done := by
    intro X hP hw hK hc i pins s σ H E I hf st hg
    subst hP hw hK
    obtain ⟨⟨old, he⟩, hit⟩ := st
    obtain ⟨xs, hq, hx⟩ := hg
    obtain ⟨Pq, Sq, Dr, st1, st2, hPq⟩ := draws I (I.ok.hd hc) hq tk it fun a ha => (h2 a ha).2
    obtain ⟨f0, f1, f2, f3, f4, f5⟩ := hf it (by simp)
    exact wpAny_pyNext_enum_endD Dr he (by rw [hx]; exact st1 i hit) fun h' eb => ⟨rfl, I.turned (t' := s.toks) (fun b o hb q => eb b o hb q) f0 f1 f3 f4 f5⟩
  self := fun A i s Q E st h => let ⟨⟨_, he⟩, _⟩ := st; wpAny_pyIter_enum he h
set_option maxHeartbeats 1000000 in
theorem meets_enumerate_new1 {v : Value} {o : Obj} {H : Heap → Prop} (B : Begins v o H) :
    Meets (Builtin.«enumerate.__new__» ⟨[.type "enumerate", v], []⟩) (fun _ R s => H s.heap ∧
      R (.ok (.ret (.ref (s.heap.push o).objs.size))) { s with heap := (s.heap.push o).push { cls := .type "enumerate", data := .fields #[.none, .bool false, .ref s.heap.objs.size, rawInt 0, .none, .none] } }) :=
  .of_wp fun prog w A R s h => by
    obtain ⟨hp, g, d, tk, os⟩ := s; obtain ⟨h1, h⟩ := h
    have hsub := sub_enumerate
    have q1 : ∀ {A' : Around} {E : Value → Shared → Prop} {Q : Value → Shared → Prop}, Q (.ref hp.objs.size) ⟨hp.push o, g, d, tk, os⟩ → wpAny (model prog w) A' (pyIter v) Q E ⟨hp, g, d, tk, os⟩ :=
      fun q => B.iter prog w _ _ ⟨hp, g, d, tk, os⟩ _ h1 q
    wp_walk using q1
    refine wpAny_stack_any fun st => wpAny_pure ?_
    split
    · rename_i c _ _ _ _ _
      cases (c == Value.type "enumerate")
      · wp_walk using q1
        exact ⟨_, rfl, h⟩
      · wp_walk using q1
        exact ⟨_, rfl, h⟩
    · wp_walk using q1
      exact ⟨_, rfl, h⟩
theorem enum_begins1 {prog : Program} {w : World} {A : Around} {E : Value → Shared → Prop} {s : Shared} {v : Value} {o : Obj} {H : Heap → Prop} {Q : Value → Shared → Prop} (B : Begins v o H) (h1 : H s.heap)
    (h : ∀ h', IsEnum h' (s.heap.objs.size + 1) s.heap.objs.size 0 .none → h'.get? s.heap.objs.size = some o → h'.objs.size = s.heap.objs.size + 2 →
      (∀ b o, s.heap.get? b = some o → h'.get? b = some o) → Q (.ref (s.heap.objs.size + 1)) { s with heap := h' }) :
    wpAny (model prog w) A (call (.type "enumerate") [v]) Q E s := by
  refine callType_new F.called_enumerate (by decide) (F.typeCall_enumerate_1 _) (F.newCall_enumerate_1 _) (fun obj => F.args_object_init_2 obj _) F.entry_enumerate_new
    (meets_enumerate_new1 B) ⟨h1, ?_⟩
  have hz : (s.heap.push o).objs.size = s.heap.objs.size + 1 := Heap.size_push ..
  show _ ∧ _
  rw [hz]
  have he : IsEnum ((s.heap.push o).push { cls := .type "enumerate", data := .fields #[.none, .bool false, .ref s.heap.objs.size, rawInt 0, .none, .none] }) (s.heap.objs.size + 1) s.heap.objs.size 0 .none := by
    have := Heap.get?_push_size (s.heap.push o) (o := { cls := .type "enumerate", data := .fields #[.none, .bool false, .ref s.heap.objs.size, rawInt 0, .none, .none] }) rfl
    rw [hz] at this; exact this
  refine ⟨⟨_, he, rfl⟩, h _ he (Heap.get?_push_of_some _ (Heap.get?_push_size _ B.free)) (by rw [Heap.size_push, hz]) fun b o x => Heap.get?_push_of_some _ (Heap.get?_push_of_some _ x)⟩
def iEnumG (K : PySem.W.Frag) (ta : TA) : TI := fun σ H R => ta σ H fun vs H1 => ∃ (k : Kd) (xs : List V), vs = [k.v] ∧ k.items K H1 xs ∧ R (IteG K k) H1
theorem pi_enumG {X : Cx} {e : Expr} {ta : TA} {p pos tpos : Pos} {elts : List Expr} {kk : Nat} (hg : Gl X "enumerate") (hm : X.mg "enumerate" = none) (ha : PA X [e] ta) (hs : starEach [e] X.env = [(false, eval e X.env)] := by rfl) :
    PI X (.Tuple elts kk tpos) (.Call (.Name "enumerate" p) [e] [] pos) (iEnumG X.K ta) := by
  refine ⟨fun pins s σ H R I h => ?_⟩
  refine Call_ (ld_blt I hg hm boot_enumerate (PyProof.Rows.callWith_type1 (thn (ha.run pos pins s σ H _ I h) fun us s1 ⟨vs, H1, I1, r1, q1⟩ => ?_) hs rfl))
  obtain ⟨k, xs, ex, hq, q⟩ := q1
  subst ex
  cases r1 with
  | cons r rr =>
    cases rr
    obtain ⟨o, Hp', tk, B, hB, hst, hlt⟩ := begins I1 hq r
    refine enum_begins1 B hB fun h' he hit hsz hk => wpAny_pyIter_enum he ?_
    have I2 : Inv X pins σ H1 { s1 with heap := h' } := I1.kept (t' := s1.toks) hk
    have ne1 : ∀ a ∈ k.adr, a ≠ s1.heap.objs.size + 1 ∧ a ≠ s1.heap.objs.size := fun a ha => ⟨Nat.ne_of_lt (Nat.lt_succ_of_lt (hlt a ha)), Nat.ne_of_lt (hlt a ha)⟩
    refine ⟨s1.heap.objs.size + 1, [s1.heap.objs.size + 1, s1.heap.objs.size], _, _, H1, rfl, I2, turn_enumG k tk (s1.heap.objs.size + 1) s1.heap.objs.size (Nat.succ_ne_self _) ne1, ⟨⟨.none, he⟩, hst _ _ hit⟩, fun b hb => ?_, q⟩
    have e' : b = s1.heap.objs.size + 1 ∨ b = s1.heap.objs.size := by simpa using hb
    have hle : s1.heap.objs.size ≤ b := by
      rcases e' with z | z
      · rw [z]; exact Nat.le_add_right _ _
      · rw [z]; exact Nat.le_refl _
    exact I1.fpOk hle (I1.hok.fresh hle)

/-! ### zip of two -/
def ItzG (K : PySem.W.Frag) (k l : Kd) : It :=
  ⟨fun i H => ∃ (xs ys : List V) (x y : V), k.items K H xs ∧ l.items K H ys ∧ xs[i]? = some x ∧ ys[i]? = some y,
    fun i H v H' => ∃ T x y, v = .ref T ∧ H T = none ∧ H' = upd H T (.tup [x, y]) ∧ (∀ xs, k.items K H xs → xs[i]? = some x) ∧ ∀ ys, l.items K H ys → ys[i]? = some y,
    fun i H => ∃ xs ys : List V, k.items K H xs ∧ l.items K H ys ∧ min xs.length ys.length = i⟩
theorem turn_zipG {P : Program} {w : World} {K : PySem.W.Frag} {elts : List Expr} {kk : Nat} {tpos : Pos} {k l : Kd} {tk1 tk2 : Tok} {z TI TO i1 i2 : Addr} (S : ZipSep2 z TI TO i1 i2 (i1 :: k.adr) (i2 :: l.adr)) (n1 : ∀ a ∈ k.adr, a ≠ i1) (n2 : ∀ a ∈ l.adr, a ≠ i2) :
    Turn P w K (.Tuple elts kk tpos) (ItzG K k l) [z, TI, TO, i1, i2] z (fun i h => IsZip h z TI TO .none ∧ IsTupOf2 h TI (.ref i1) (.ref i2) ∧ (∃ x y, IsTupOf2 h TO x y) ∧ k.itr tk1 h i1 i ∧ l.itr tk2 h i2 i) where
  mem := by simp
  obj := fun i h st c hc => by
    obtain ⟨hz, hTI, ⟨x, y, hTO⟩, h1, h2⟩ := st
    obtain ⟨o1, e1, d1⟩ := Kd.itr_obj h1
    obtain ⟨o2, e2, d2⟩ := Kd.itr_obj h2
    have e' : c = z ∨ c = TI ∨ c = TO ∨ c = i1 ∨ c = i2 := by simpa using hc
    rcases e' with q | q | q | q | q
    · rw [q]; exact ⟨_, hz, fun v q => nomatch q⟩
    · rw [q]; exact ⟨_, hTI, fun v q => nomatch q⟩
    · rw [q]; exact ⟨_, hTO, fun v q => nomatch q⟩
    · rw [q]; exact ⟨o1, e1, d1⟩
    · rw [q]; exact ⟨o2, e2, d2⟩
  keep := fun i h h' st k' => by
    obtain ⟨hz, hTI, ⟨x, y, hTO⟩, h1, h2⟩ := st
    exact ⟨k' z (by simp) _ hz, k' TI (by simp) _ hTI, ⟨x, y, k' TO (by simp) _ hTO⟩, Kd.itr_at h1 fun o q => k' i1 (by simp) o q, Kd.itr_at h2 fun o q => k' i2 (by simp) o q⟩
  item := by
    intro X hP hw hK hc i pins s σ H E I hf st hg
    subst hP hw hK
    obtain ⟨hz, hTI, ⟨x0, y0, hTO⟩, h1, h2⟩ := st
    obtain ⟨xs, ys, x, y, hqx, hqy, hx, hy⟩ := hg
    obtain ⟨P1, S1, D1, st1, sb1, hP1⟩ := draws I (I.ok.hd hc) hqx tk1 i1 n1
    obtain ⟨P2, S2, D2, st2, sb2, hP2⟩ := draws I (I.ok.hd hc) hqy tk2 i2 n2
    have hzl : z < s.heap.objs.size := Heap.lt_size hz
    refine wpAny_pyNext_zipD2_item S D1 D2 hz hTI hTO (st1 i h1) (st2 i h2) (List.getElem?_eq_some_iff.mp hx).1 (List.getElem?_eq_some_iff.mp hy).1 fun u u2 h' tk hu hu2 z' TO' h1' h2' hT hsz hk => ?_
    obtain ⟨x', hx', ru⟩ := hP1 i u hu
    obtain ⟨y', hy', ru2⟩ := hP2 i u2 hu2
    rw [hx] at hx'; cases hx'
    rw [hy] at hy'; cases hy'
    refine ⟨_, rfl, wpAny_letOwnedTupleGo_zip (s := { s with heap := h', toks := tk }) z' fun h'' z'' sb => ?_⟩
    have hT2 : h''.get? s.heap.objs.size = some { cls := .type "tuple", data := .seq #[u, u2] } := (sb.2 _ (Nat.ne_of_gt hzl)).trans hT
    have new : ObjOk X.prog X.w (upd H s.heap.objs.size (.tup [x, y])) h'' s.heap.objs.size (.tup [x, y]) :=
      ⟨by show 2 ≤ sizeLine; decide, [u, u2], .cons ru (.cons ru2 .nil), ⟨_, hT2, rfl, _, rfl⟩⟩
    have I1 : Inv X pins σ (upd H s.heap.objs.size (.tup [x, y])) { s with heap := h'', toks := tk } :=
      I.turnedNew (t' := tk) (ch := [z, TI, TO, i1, i2]) (fun c o hb q => (sb.2 c (fun q' => hb (by simp [q']))).trans (hk c o (fun q' => hb (by simp [q'])) (fun q' => hb (by simp [q'])) (fun q' => hb (by simp [q'])) (fun q' => hb (by simp [q'])) q)) hf (Nat.le_refl _) new
    refine ⟨.ref s.heap.objs.size, _, I1, rfl, ⟨_, x, y, rfl, I.hok.fresh (Nat.le_refl _), rfl, fun l' hl => by rw [items_inj I hl hqx]; exact hx, fun l' hl => by rw [items_inj I hl hqy]; exact hy⟩, ⟨z'', ?_, ⟨u, u2, ?_⟩, ?_, ?_⟩, fun c hcm => ?_⟩
    · refine (sb.2 _ S.TIz).trans (hk _ _ S.TIz S.TITO S.TIi1 S.TIi2 hTI)
    · exact (sb.2 _ S.TOz).trans TO'
    · exact Kd.itr_at (sb1 _ _ h1') fun o q => (sb.2 _ (Ne.symm S.zi1)).trans q
    · exact Kd.itr_at (sb2 _ _ h2') fun o q => (sb.2 _ (Ne.symm S.zi2)).trans q
    · have hlt : c < s.heap.objs.size := by
        have e' : c = z ∨ c = TI ∨ c = TO ∨ c = i1 ∨ c = i2 := by simpa using hcm
        rcases e' with q | q | q | q | q
        · rw [q]; exact hzl
        · rw [q]; exact Heap.lt_size hTI
        · rw [q]; exact Heap.lt_size hTO
        · rw [q]; obtain ⟨_, e1, _⟩ := Kd.itr_obj h1; exact Heap.lt_size e1
        · rw [q]; obtain ⟨_, e2, _⟩ := Kd.itr_obj h2; exact Heap.lt_size e2
      rw [upd_ne (Nat.ne_of_lt hlt)]
      exact (hf c hcm).1
  done := by
    intro X hP hw hK hc i pins s σ H E I hf st hg
    subst hP hw hK
    obtain ⟨hz, hTI, ⟨x0, y0, hTO⟩, h1, h2⟩ := st
    obtain ⟨xs, ys, hqx, hqy, hend⟩ := hg
    obtain ⟨P1, S1, D1, st1, sb1, hP1⟩ := draws I (I.ok.hd hc) hqx tk1 i1 n1
    obtain ⟨P2, S2, D2, st2, sb2, hP2⟩ := draws I (I.ok.hd hc) hqy tk2 i2 n2
    refine wpAny_pyNext_zipD2_end S D1 D2 hz hTI hTO (st1 i h1) (st2 i h2) (by omega) (by omega) (by omega) fun h' tk hk => ⟨rfl, I.turnedL (t' := tk) (ch := [z, TI, TO, i1, i2]) (fun c o hb q =>
      hk c o (fun q' => hb (by simp [q'])) (fun q' => hb (by simp [q'])) (fun q' => hb (by simp [q'])) (fun q' => hb (by simp [q'])) q) hf⟩
  self := fun A i s Q E st h => wpAny_pyIter_zip st.1 h
def iZipG (K : PySem.W.Frag) (ta : TA) : TI := fun σ H R => ta σ H fun vs H1 => ∃ (k l : Kd) (xs ys : List V), vs = [k.v, l.v] ∧ k.items K H1 xs ∧ l.items K H1 ys ∧ R (ItzG K k l) H1
theorem pi_zipG {X : Cx} {e e2 : Expr} {ta : TA} {p pos tpos : Pos} {elts : List Expr} {kk : Nat} (hg : Gl X "zip") (hm : X.mg "zip" = none) (ha : PA X [e, e2] ta)
    (hs : starEach [e, e2] X.env = (false, eval e X.env) :: starEach [e2] X.env := by rfl) (hpl : (backTo pos (starEach [e2] X.env)).any (·.1) = false := by rfl) :
    PI X (.Tuple elts kk tpos) (.Call (.Name "zip" p) [e, e2] [] pos) (iZipG X.K ta) := by
  refine ⟨fun pins s σ H R I h => ?_⟩
  refine Call_ (ld_blt I hg hm PyProof.Rows.boot_zip (PyProof.Rows.callWith_type1 (thn (ha.run pos pins s σ H _ I h) fun us s1 ⟨vs, H1, I1, r1, q1⟩ => ?_) hs hpl))
  obtain ⟨k, l, xs, ys, ex, hqx, hqy, q⟩ := q1
  subst ex
  cases r1 with
  | cons r rr =>
    cases rr with
    | cons r' rr =>
      cases rr
      obtain ⟨o1, Hp1, tk1, B1, hB1, hst1, hlt1⟩ := begins I1 hqx r
      obtain ⟨o2, Hp2, tk2, B2, hB2, hst2, hlt2⟩ := begins I1 hqy r'
      refine zip_begins2 B1 B2 hB1 hB2 fun h' hz hTI hTO g1 g2 hsz hk => wpAny_pyIter_zip hz ?_
      have I2 : Inv X pins σ H1 { s1 with heap := h' } := I1.kept (t' := s1.toks) hk
      refine ⟨s1.heap.objs.size + 4, [s1.heap.objs.size + 4, s1.heap.objs.size + 2, s1.heap.objs.size + 3, s1.heap.objs.size, s1.heap.objs.size + 1], _, _, H1, rfl, I2,
        turn_zipG (zip_sep2 hlt1 hlt2) (fun a ha => Nat.ne_of_lt (hlt1 a ha)) (fun a ha => Nat.ne_of_lt (Nat.lt_succ_of_lt (hlt2 a ha))), ⟨hz, hTI, ⟨_, _, hTO⟩, hst1 _ _ g1, hst2 _ _ g2⟩, fun c hcm => ?_, q⟩
      have e' : c = s1.heap.objs.size + 4 ∨ c = s1.heap.objs.size + 2 ∨ c = s1.heap.objs.size + 3 ∨ c = s1.heap.objs.size ∨ c = s1.heap.objs.size + 1 := by simpa using hcm
      have hle : s1.heap.objs.size ≤ c := by
        rcases e' with z | z | z | z | z
        · rw [z]; exact Nat.le_add_right _ _
        · rw [z]; exact Nat.le_add_right _ _
        · rw [z]; exact Nat.le_add_right _ _
        · rw [z]; exact Nat.le_refl _
        · rw [z]; exact Nat.le_add_right _ _
      exact I1.fpOk hle (I1.hok.fresh hle)

/-! ### as Walks -/
theorem kd_mono {K : PySem.W.Frag} {H H' : Hp} (hr : ∀ a u, Rd H a u → Rd H' a u) {k : Kd} {xs : List V} (h : k.items K H xs) : k.items K H' xs := by
  cases k with
  | l a => rcases h with h | h
           · exact .inl (hr _ _ h)
           · exact .inr h
  | t a => rcases h with h | h
           · exact .inl (hr _ _ h)
           · exact .inr h
  | s x => exact h
theorem walk_enumG {K : PySem.W.Frag} {k : Kd} {xs : List V} : Walk (IteG K k) xs.length (fun H => k.items K H xs) (YPair (fun i => some (.int (i : Nat))) (fun i => xs[i]?)) := by
  refine ⟨fun i _ hi q => ⟨xs, xs[i], q, by simp [hi]⟩, fun _ q => ⟨xs, q, rfl⟩, fun i H v H' _ q y => ?_⟩
  obtain ⟨T, x, h1, h2, h3, h4⟩ := y
  exact ⟨T, .int (i : Nat), x, h1, h2, h3, rfl, h4 xs q⟩
theorem walk_zipG {K : PySem.W.Frag} {k l : Kd} {xs ys : List V} {n : Nat} (hn : n = min xs.length ys.length) : Walk (ItzG K k l) n (fun H => k.items K H xs ∧ l.items K H ys) (YPair (fun i => xs[i]?) (fun i => ys[i]?)) := by
  subst hn
  refine ⟨fun i _ hi q => ?_, fun _ q => ⟨xs, ys, q.1, q.2, rfl⟩, fun i H v H' _ q y => ?_⟩
  · have h1 : i < xs.length := by omega
    have h2 : i < ys.length := by omega
    exact ⟨xs, ys, xs[i], ys[i], q.1, q.2, by simp [h1], by simp [h2]⟩
  · obtain ⟨T, x, z, h1, h2, h3, h4, h5⟩ := y
    exact ⟨T, x, z, h1, h2, h3, h4 xs q.1, h5 ys q.2⟩
end Pd

set_option Elab.async false
set_option linter.all false
set_option maxRecDepth 100000
set_option maxHeartbeats 4000000
/-! Pd6: what is walked as data, targets, list comprehensions, calls of defs that change nothing. -/
namespace Pd
open PySem PySem.Spec PyProof.Rows L2

/-! ### a heap, and the tuples of a later one -/
def isTup : Option HO → Bool
  | some (.tup _) => true
  | some (.frz _ (.tup _)) => true
  | _ => false
def tov (B H : Hp) : Hp := fun a => match B a with
  | some o => some o
  | none => if isTup (H a) then H a else none
theorem tov_in {B H : Hp} {a : Addr} {o : HO} (h : B a = some o) : tov B H a = some o := by unfold tov; rw [h]
theorem tov_ge {B H : Hp} : Same B (tov B H) := fun a o h => tov_in h
theorem tov_le {B H : Hp} (e : Sm B H) : Sm (tov B H) H := by
  refine ⟨fun a u r => ?_, fun a xs r => ?_⟩
  · unfold Rd tov at r
    cases q : B a with
    | none =>
      rw [q] at r
      simp only at r
      rcases r with r | ⟨o, r⟩
      · split at r
        · exact .inl r
        · cases r
      · split at r
        · exact .inr ⟨o, r⟩
        · cases r
    | some o =>
      rw [q] at r
      exact e.rd a u (by unfold Rd; rw [q]; exact r)
  · unfold tov at r
    cases q : B a with
    | none =>
      rw [q] at r
      simp only at r
      split at r
      · exact r
      · cases r
    | some o =>
      rw [q] at r
      exact e.ls a xs (by rw [q]; exact r)
theorem tov_none {B H : Hp} {a : Addr} (h : B a = none) (h2 : isTup (H a) = false) : tov B H a = none := by unfold tov; rw [h, h2]; rfl
theorem tov_mono {B H H' : Hp} (e : Same H H') : Same (tov B H) (tov B H') := fun a o h => by
  unfold tov at h ⊢
  cases q : B a with
  | none =>
    rw [q] at h
    simp only at h ⊢
    split at h
    · rename_i z
      rw [e a o h]
      rw [h] at z
      rw [if_pos z]
    · cases h
  | some u => rw [q] at h; exact h

/-! ### walks over data -/
def WD (K : PySem.W.Frag) (B : Hp) (J : It) (ds : List D) : Prop :=
  ∃ (G : Hp → Prop) (Y : Nat → Hp → V → Hp → Prop), Walk J ds.length G Y ∧ (∀ H, Sm B H → G H) ∧ ∀ i H x H', Sm B H → Y i H x H' → Same H H' ∧ ∃ d, ds[i]? = some d ∧ Rep K (tov B H') x d
def strD (x : Str) : List D := x.cps.toList.map fun c => .str ⟨#[c]⟩
def itemsS : D → Option (List D)
  | .list xs => some xs
  | .tuple xs => some xs
  | .str x => some (strD x)
  | _ => none
theorem rep_str {K : PySem.W.Frag} {H : Hp} (x : Str) : RepL K H (strV x) (strD x) := by
  unfold strV strD
  generalize x.cps.toList = l
  induction l with
  | nil => exact .nil
  | cons c r ih => exact .cons (.str _) ih
theorem kdOf {K : PySem.W.Frag} {B : Hp} {v : V} {d : D} {xs : List D} (r : Rep K B v d) (h : itemsS d = some xs) : ∃ (k : Kd) (ys : List V), v = k.v ∧ k.items K B ys ∧ RepL K B ys xs := by
  cases r with
  | lst h1 r => cases h; exact ⟨.l _, _, rfl, SqL.of h1, r⟩
  | tup h1 r => cases h; exact ⟨.t _, _, rfl, h1, r⟩
  | str x => cases h; exact ⟨.s x, _, rfl, rfl, rep_str x⟩
  | _ => simp [itemsS] at h
def ItK (K : PySem.W.Frag) : Kd → It
  | .l a => Itl K a
  | .t a => Itt K a
  | .s x => Its x
theorem walk_K {K : PySem.W.Frag} {k : Kd} {xs : List V} (hx : ∀ x, k = .s x → xs = strV x) : Walk (ItK K k) xs.length (fun H => k.items K H xs) (YAt xs) := by
  cases k with
  | l a => exact walk_list
  | t a => exact walk_tup
  | s x =>
    have := hx x rfl
    subst this
    have e : (strV x).length = x.cps.size := by simp [strV]
    rw [e]
    refine (walk_str (z := x)).mono (fun _ _ => trivial) fun i H v H' hi _ ⟨h1, c, h2, h3⟩ => ⟨h1, ?_⟩
    rw [h3]; exact strV_get h2
theorem items_str {K : PySem.W.Frag} {H : Hp} {k : Kd} {xs : List V} (h : k.items K H xs) : ∀ x, k = .s x → xs = strV x := fun x e => by subst e; exact h
theorem wd_any {K : PySem.W.Frag} {B : Hp} {k : Kd} {ys : List V} {xs : List D} (h : k.items K B ys) (r : RepL K B ys xs) : WD K B (ItK K k) xs := by
  refine ⟨fun H => k.items K H ys, YAt ys, by rw [← r.length]; exact walk_K (items_str h), fun H e => kd_mono e.rd h, fun i H x H' e ⟨y1, y2⟩ => ?_⟩
  subst y1
  obtain ⟨d, hd, q⟩ := r.get y2
  exact ⟨Same.refl _, d, hd, q.mono (smOf tov_ge)⟩
def enumD : Nat → List D → List D
  | _, [] => []
  | i, d :: r => .tuple [.int i, d] :: enumD (i + 1) r
theorem enumD_len (xs : List D) : ∀ i, (enumD i xs).length = xs.length := by
  induction xs with
  | nil => intro i; rfl
  | cons d r ih => intro i; simp [enumD, ih]
theorem enumD_get (xs : List D) : ∀ (i j : Nat) (d : D), xs[j]? = some d → (enumD i xs)[j]? = some (.tuple [.int ((i + j : Nat) : Int), d]) := by
  induction xs with
  | nil => intro i j d h; simp at h
  | cons a r ih =>
    intro i j d h
    cases j with
    | zero => simp at h; subst h; simp [enumD]
    | succ j =>
      have := ih (i + 1) j d (by simpa using h)
      simp only [enumD, List.getElem?_cons_succ, this]
      congr 4
      omega
theorem repPair {K : PySem.W.Frag} {B H : Hp} {T : Addr} {x y : V} {d e : D} (hb : B T = none) (r1 : Rep K B x d) (r2 : Rep K B y e) : Rep K (tov B (upd H T (.tup [x, y]))) (.ref T) (.tuple [d, e]) := by
  have q : tov B (upd H T (.tup [x, y])) T = some (.tup [x, y]) := by unfold tov; rw [hb, upd_same]; rfl
  exact .tup (SqT.of q) (.cons (r1.mono (smOf tov_ge)) (.cons (r2.mono (smOf tov_ge)) .nil))
theorem wd_enum {K : PySem.W.Frag} {B : Hp} {k : Kd} {ys : List V} {xs : List D} (h : k.items K B ys) (r : RepL K B ys xs) : WD K B (IteG K k) (enumD 0 xs) := by
  refine ⟨fun H => k.items K H ys, YPair (fun i => some (.int (i : Nat))) (fun i => ys[i]?), by rw [enumD_len, ← r.length]; exact walk_enumG, fun H e => kd_mono e.rd h, fun i H x H' e ⟨T, a, b, h1, h2, h3, h4, h5⟩ => ?_⟩
  subst h1 h3
  cases h4
  obtain ⟨d, hd, q⟩ := r.get h5
  exact ⟨sameNew h2 _, _, by rw [enumD_get xs 0 i d hd, Nat.zero_add], repPair (e.dom h2) (.int _) q⟩
def zipD : List D → List D → List D
  | a :: r, b :: s => .tuple [a, b] :: zipD r s
  | _, _ => []
theorem zipD_len : ∀ (xs ys : List D), (zipD xs ys).length = min xs.length ys.length
  | [], _ => by simp [zipD]
  | _ :: _, [] => by simp [zipD]
  | a :: r, b :: s => by simp only [zipD, List.length_cons, zipD_len r s]; omega
theorem zipD_get : ∀ (xs ys : List D) (j : Nat) (d e : D), xs[j]? = some d → ys[j]? = some e → (zipD xs ys)[j]? = some (.tuple [d, e])
  | [], _, _, _, _, h, _ => by simp at h
  | _ :: _, [], _, _, _, _, h => by simp at h
  | a :: r, b :: s, 0, d, e, h1, h2 => by simp at h1 h2; subst h1 h2; simp [zipD]
  | a :: r, b :: s, j + 1, d, e, h1, h2 => by simpa [zipD] using zipD_get r s j d e (by simpa using h1) (by simpa using h2)
theorem wd_zip {K : PySem.W.Frag} {B : Hp} {k l : Kd} {ys zs : List V} {xs ws : List D} (h : k.items K B ys) (h' : l.items K B zs) (r : RepL K B ys xs) (r' : RepL K B zs ws) : WD K B (ItzG K k l) (zipD xs ws) := by
  refine ⟨fun H => k.items K H ys ∧ l.items K H zs, YPair (fun i => ys[i]?) (fun i => zs[i]?), by rw [zipD_len, ← r.length, ← r'.length]; exact walk_zipG rfl, fun H e => ⟨kd_mono e.rd h, kd_mono e.rd h'⟩, fun i H x H' e ⟨T, a, b, h1, h2, h3, h4, h5⟩ => ?_⟩
  subst h1 h3
  obtain ⟨d, hd, q⟩ := r.get h4
  obtain ⟨d', hd', q'⟩ := r'.get h5
  exact ⟨sameNew h2 _, _, zipD_get xs ws i d d' hd hd', repPair (e.dom h2) q q'⟩
theorem rgD_get {a b : Int} {i : Nat} (h : i < (b - a).toNat) : (rgD a b)[i]? = some (.int (a + (i : Nat))) := by
  unfold rgD
  rw [List.getElem?_map, List.getElem?_range h]; rfl
theorem rgD_len (a b : Int) : (rgD a b).length = (b - a).toNat := by unfold rgD; rw [List.length_map, List.length_range]
theorem wd_rng {K : PySem.W.Frag} {B : Hp} (a b : Int) : WD K B (Itr a (b - a).toNat) (rgD a b) := by
  refine ⟨fun _ => True, fun i H x H' => i < (b - a).toNat ∧ H' = H ∧ x = .int (a + (i : Nat)), ?_, fun _ _ => trivial, fun i H x H' e ⟨y0, y1, y2⟩ => ?_⟩
  · rw [rgD_len]
    exact walk_range.mono (fun _ _ => trivial) fun i H x H' hi _ y => ⟨hi, y.1, y.2⟩
  · subst y1 y2
    exact ⟨Same.refl _, _, rgD_get y0, .int _⟩
def rgC (a c : Int) (n : Nat) : List D := (List.range n).map fun i => .int (a + (i : Nat) * c)
theorem wd_rng3 {K : PySem.W.Frag} {B : Hp} (a c : Int) (n : Nat) : WD K B (Itc a c n) (rgC a c n) := by
  have hl : (rgC a c n).length = n := by unfold rgC; rw [List.length_map, List.length_range]
  refine ⟨fun _ => True, fun i H x H' => i < n ∧ H' = H ∧ x = .int (a + (i : Nat) * c), ?_, fun _ _ => trivial, fun i H x H' e ⟨y0, y1, y2⟩ => ?_⟩
  · rw [hl]
    exact walk_rangeC.mono (fun _ _ => trivial) fun i H x H' hi _ y => ⟨hi, y.1, y.2⟩
  · subst y1 y2
    exact ⟨Same.refl _, _, by unfold rgC; rw [List.getElem?_map, List.getElem?_range y0]; rfl, .int _⟩

/-! ### what is walked, by the values of its parts -/
def IterV (K : PySem.W.Frag) (ri : List V → Hp → (It → Hp → Prop) → Prop) (gi : List D → Option (List D)) : Prop :=
  ∀ (vs : List V) (ds out : List D) (B H : Hp) (R : It → Hp → Prop), RepL K B vs ds → Sm B H → gi ds = some out → (∀ J, WD K B J out → R J H) → ri vs H R
/-- a walked thing whose parts are es -/
structure PItV (X : Cx) (tg e : Expr) (es : List Expr) (ri : List V → Hp → (It → Hp → Prop) → Prop) (gi : List D → Option (List D)) : Prop where
  pi : ∀ {t : TA}, PA X es t → PI X tg e (fun σ H R => t σ H fun vs H1 => ri vs H1 R)
  v : IterV X.K ri gi
section
variable {X : Cx} {tg a b c : Expr} {p pos tpos : Pos} {elts : List Expr} {kk : Nat}
def riAny (K : PySem.W.Frag) : List V → Hp → (It → Hp → Prop) → Prop := fun vs H R => ∃ (k : Kd) (xs : List V), vs = [k.v] ∧ k.items K H xs ∧ R (ItK K k) H
def giAny : List D → Option (List D)
  | [d] => itemsS d
  | _ => none
theorem iv_any {K : PySem.W.Frag} : IterV K (riAny K) giAny := by
  intro vs ds out B H R r e q k
  unfold giAny at q
  split at q
  · obtain ⟨v, rfl, r1⟩ := rep1 r
    obtain ⟨kd, ys, rfl, h1, h2⟩ := kdOf r1 q
    exact ⟨kd, ys, rfl, kd_mono e.rd h1, k _ (wd_any h1 h2)⟩
  · cases q
theorem pi_anyK {te : TE} (he : PE X a te) : PI X tg a (fun σ H R => te σ H fun x H1 => ∃ (k : Kd) (xs : List V), x = k.v ∧ k.items X.K H1 xs ∧ R (ItK X.K k) H1) := by
  refine ⟨fun pins s σ H R I h => ?_⟩
  refine thn (he.run pins s σ H _ I h) fun v s1 ⟨x, H1, I1, r1, k, xs, e, hq, q⟩ => ?_
  subst e
  cases k with
  | l a' =>
    cases r1
    obtain ⟨its, rv, p', hz⟩ := I1.list hq
    refine wpAny_pyIter_list p'.isList ?_
    refine ⟨s1.heap.objs.size, [s1.heap.objs.size], _, _, H1, rfl, I1.kept (t' := s1.toks) fun b o e => Heap.get?_push_of_some _ e, turn_list a' _, ⟨_, Heap.get?_push_size _ rfl, rfl, rfl⟩, fun b hb => ?_, q⟩
    have e : b = s1.heap.objs.size := by simpa using hb
    subst e
    exact I1.fpOk (Nat.le_refl _) (I1.hok.fresh (Nat.le_refl _))
  | t a' =>
    cases r1
    obtain ⟨its, rv, p', hz⟩ := I1.tuple hq
    refine wpAny_pyIter_tuple (show s1.heap.IsTuple a' its.toArray from p') ?_
    refine ⟨s1.heap.objs.size, [s1.heap.objs.size], _, _, H1, rfl, I1.kept (t' := s1.toks) fun b o e => Heap.get?_push_of_some _ e, turn_tuple a' _, ⟨_, Heap.get?_push_size _ rfl, rfl, rfl⟩, fun b hb => ?_, q⟩
    have e : b = s1.heap.objs.size := by simpa using hb
    subst e
    exact I1.fpOk (Nat.le_refl _) (I1.hok.fresh (Nat.le_refl _))
  | s x =>
    obtain ⟨t, rfl⟩ := r1
    refine wpAny_pyIter_strU ?_
    have hty : strIterType x = "str_ascii_iterator" ∨ strIterType x = "str_iterator" := by unfold strIterType; split <;> simp
    refine ⟨s1.heap.objs.size, [s1.heap.objs.size], _, _, H1, rfl, I1.kept (t' := s1.toks) fun b o e => Heap.get?_push_of_some _ e, turn_str _ x t (strIterType x) hty, ⟨_, Heap.get?_push_size _ rfl, rfl, rfl⟩, fun b hb => ?_, q⟩
    have e : b = s1.heap.objs.size := by simpa using hb
    subst e
    exact I1.fpOk (Nat.le_refl _) (I1.hok.fresh (Nat.le_refl _))
def riEnum (K : PySem.W.Frag) : List V → Hp → (It → Hp → Prop) → Prop := fun vs H R => ∃ (k : Kd) (xs : List V), vs = [k.v] ∧ k.items K H xs ∧ R (IteG K k) H
def giEnum : List D → Option (List D)
  | [d] => (itemsS d).map (enumD 0)
  | _ => none
theorem it_enum {K : PySem.W.Frag} (hm : X.mg "enumerate" = none) (hg : Gl X "enumerate" := by rfl) (hs : starEach [a] X.env = [(false, eval a X.env)] := by rfl) (hK : X.K = K := by rfl) : PItV X (.Tuple elts kk tpos) (.Call (.Name "enumerate" p) [a] [] pos) [a] (riEnum K) giEnum := by
  subst hK
  refine ⟨fun ha => pi_enumG hg hm ha hs, fun vs ds out B H R r e q k => ?_⟩
  unfold giEnum at q
  split at q
  · obtain ⟨v, rfl, r1⟩ := rep1 r
    obtain ⟨xs, qx, rfl⟩ := Option.map_eq_some_iff.mp q
    obtain ⟨kd, ys, rfl, h1, h2⟩ := kdOf r1 qx
    exact ⟨kd, ys, rfl, kd_mono e.rd h1, k _ (wd_enum h1 h2)⟩
  · cases q
def riZip (K : PySem.W.Frag) : List V → Hp → (It → Hp → Prop) → Prop := fun vs H R => ∃ (k l : Kd) (xs ys : List V), vs = [k.v, l.v] ∧ k.items K H xs ∧ l.items K H ys ∧ R (ItzG K k l) H
def giZip : List D → Option (List D)
  | [d, e] => (itemsS d).bind fun xs => (itemsS e).map (zipD xs)
  | _ => none
theorem it_zip {K : PySem.W.Frag} (hm : X.mg "zip" = none) (hg : Gl X "zip" := by rfl) (hs : starEach [a, b] X.env = (false, eval a X.env) :: starEach [b] X.env := by rfl) (hpl : (backTo pos (starEach [b] X.env)).any (·.1) = false := by rfl) (hK : X.K = K := by rfl) :
    PItV X (.Tuple elts kk tpos) (.Call (.Name "zip" p) [a, b] [] pos) [a, b] (riZip K) giZip := by
  subst hK
  refine ⟨fun ha => pi_zipG hg hm ha hs hpl, fun vs ds out B H R r e q k => ?_⟩
  unfold giZip at q
  split at q
  · obtain ⟨v, u, rfl, r1, r2⟩ := rep2 r
    obtain ⟨xs, q1, q⟩ := bindSome q
    obtain ⟨ys, q2, rfl⟩ := Option.map_eq_some_iff.mp q
    obtain ⟨kd, zs, rfl, h1, h2⟩ := kdOf r1 q1
    obtain ⟨ld, ws, rfl, h3, h4⟩ := kdOf r2 q2
    exact ⟨kd, ld, _, _, rfl, kd_mono e.rd h1, kd_mono e.rd h3, k _ (wd_zip h1 h3 h2 h4)⟩
  · cases q
def riRg1 : List V → Hp → (It → Hp → Prop) → Prop := fun vs H R => ∃ j : Int, vs = [.int j] ∧ -(2 ^ 62) ≤ j ∧ j < 2 ^ 62 ∧ R (Itr 0 j.toNat) H
noncomputable def giRg1 : List D → Option (List D)
  | [.int n] => if rgOk 0 n then some (rgD 0 n) else none
  | _ => none
theorem it_rg1 (hm : X.mg "range" = none) (hg : Gl X "range" := by rfl) (hs : starEach [a] X.env = [(false, eval a X.env)] := by rfl) : PItV X tg (.Call (.Name "range" p) [a] [] pos) [a] riRg1 giRg1 := by
  refine ⟨fun ha => pi_range1 hg hm ha hs, fun vs ds out B H R r e q k => ?_⟩
  unfold giRg1 at q
  split at q
  · obtain ⟨v, rfl, r1⟩ := rep1 r
    split at q
    · rename_i hc
      cases q
      cases r1
      have := rgOk_of hc
      have z := wd_rng (K := X.K) (B := B) 0
      exact ⟨_, rfl, this.2.2.1, this.2.2.2.1, k _ (by have := z ‹Int›; rwa [Int.sub_zero] at this)⟩
    · cases q
  · cases q
def riRg2 : List V → Hp → (It → Hp → Prop) → Prop := fun vs H R => ∃ i j : Int, vs = [.int i, .int j] ∧ (-(2 ^ 62) ≤ i ∧ i < 2 ^ 62 ∧ -(2 ^ 62) ≤ j ∧ j < 2 ^ 62) ∧ R (Itr i (j - i).toNat) H
noncomputable def giRg2 : List D → Option (List D)
  | [.int m, .int n] => if rgOk m n then some (rgD m n) else none
  | _ => none
theorem it_rg2 (hm : X.mg "range" = none) (hg : Gl X "range" := by rfl) (hs : starEach [a, b] X.env = [(false, eval a X.env), (false, eval b X.env)] := by rfl) (hs2 : starEach [b] X.env = [(false, eval b X.env)] := by rfl) : PItV X tg (.Call (.Name "range" p) [a, b] [] pos) [a, b] riRg2 giRg2 := by
  refine ⟨fun ha => pi_range2 hg hm ha hs hs2, fun vs ds out B H R r e q k => ?_⟩
  unfold giRg2 at q
  split at q
  · obtain ⟨v, u, rfl, r1, r2⟩ := rep2 r
    split at q
    · rename_i hc
      cases q
      cases r1
      cases r2
      have := rgOk_of hc
      exact ⟨_, _, rfl, ⟨this.1, this.2.1, this.2.2.1, this.2.2.2.1⟩, k _ (wd_rng _ _)⟩
    · cases q
  · cases q
/-- range(i, j, c): how many -/
def rgN (i j c : Int) : Nat := if 0 < c then ((j - i + c - 1) / c).toNat else ((i - j + (-c) - 1) / (-c)).toNat
noncomputable def rg3Ok (i j c : Int) : Bool := rgOk i j && decide (c ≠ 0) && decide (-1000000 ≤ c) && decide (c ≤ 1000000) && decide (Builtin.Range.small i j c = true) && decide (Builtin.Range.rangeSize i j c = ((Builtin.Range.rangeSize i j c).toNat : Int))
def riRg3 : List V → Hp → (It → Hp → Prop) → Prop := fun vs H R => ∃ (i j c : Int) (n : Nat), vs = [.int i, .int j, .int c] ∧ RgC i j c n ∧ R (Itc i c n) H
noncomputable def giRg3 : List D → Option (List D)
  | [.int i, .int j, .int c] => if rg3Ok i j c then some (rgC i c (Builtin.Range.rangeSize i j c).toNat) else none
  | _ => none
theorem it_rg3 (hm : X.mg "range" = none) {t : TA} (hg : Gl X "range" := by rfl) (hpi : ∀ {t : TA}, PA X [a, b, c] t → PI X tg (.Call (.Name "range" p) [a, b, c] [] pos) (iRng3 t) := by exact fun ha => pi_range3 (by rfl) (by assumption) ha) :
    PItV X tg (.Call (.Name "range" p) [a, b, c] [] pos) [a, b, c] riRg3 giRg3 := by
  refine ⟨fun ha => hpi ha, fun vs ds out B H R r e q k => ?_⟩
  unfold giRg3 at q
  split at q
  · cases r with
    | cons r1 r =>
      obtain ⟨v, u, rfl, r2, r3⟩ := rep2 r
      split at q
      · rename_i hc
        cases q
        cases r1
        cases r2
        cases r3
        simp only [rg3Ok, Bool.and_eq_true, decide_eq_true_eq] at hc
        obtain ⟨⟨⟨⟨⟨h0, h1⟩, h2⟩, h3⟩, h4⟩, h5⟩ := hc
        exact ⟨_, _, _, _, rfl, ⟨h1, by omega, h4, h5⟩, k _ (wd_rng3 _ _ _)⟩
      · cases q
  · cases q
end

/-! ### P: a walked thing of an expression that changes nothing -/
def ISo (K : PySem.W.Frag) (wi : TI) (f : En → Option (List D)) : Prop := ∀ (ε : En) (σ : L2.St) (H : Hp) (ds : List D) (R : It → Hp → Prop), OkR K ε σ H → f ε = some ds → (∀ J H', Same H H' → WD K H' J ds → R J H') → wi σ H R
structure PIt (X : Cx) (tg e : Expr) (wi : TI) (f : En → Option (List D)) : Prop where
  pi : PI X tg e wi
  so : ISo X.K wi f
def iOf (gi : List D → Option (List D)) (fs : En → Option (List D)) : En → Option (List D) := fun ε => (fs ε).bind gi
section
variable {X : Cx} {tg a e : Expr} {es : List Expr} {ri : List V → Hp → (It → Hp → Prop) → Prop} {gi : List D → Option (List D)} {t : TA} {fs : En → Option (List D)} {ta : TE} {fa : FE}
theorem pi_of (v : PItV X tg e es ri gi) (ha : PAr X es t fs) : PIt X tg e (fun σ H R => t σ H fun vs H1 => ri vs H1 R) (iOf gi fs) := by
  refine ⟨v.pi ha.pa, fun ε σ H ds R ok q k => ?_⟩
  obtain ⟨xs, q1, q⟩ := bindSome q
  exact ha.so ε σ H xs _ ok q1 fun vs H1 s1 r1 => v.v vs xs ds H1 H1 R r1 (Sm.refl H1) q fun J w => k J H1 s1 w
def iAnyK (K : PySem.W.Frag) (te : TE) : TI := fun σ H R => te σ H fun x H1 => ∃ (k : Kd) (xs : List V), x = k.v ∧ k.items K H1 xs ∧ R (ItK K k) H1
def iSelf (f : FE) : En → Option (List D) := fun ε => (f ε).bind itemsS
theorem pi_self {K : PySem.W.Frag} (ha : PP X a ta fa) (hK : X.K = K := by rfl) : PIt X tg a (iAnyK K ta) (iSelf fa) := by
  subst hK
  refine ⟨pi_anyK ha.pe, fun ε σ H ds R ok q k => ?_⟩
  obtain ⟨x, q1, q⟩ := bindSome q
  refine ha.so ε σ H x _ ok q1 fun v H1 s1 r1 => ?_
  obtain ⟨kd, ys, rfl, h1, h2⟩ := kdOf r1 q
  exact ⟨kd, ys, rfl, h1, k _ H1 s1 (wd_any h1 h2)⟩
end

/-! ### targets, reading -/
abbrev Bd := D → En → Option En
def GSo (K : PySem.W.Frag) (g : TG) (vs : List Nat) (b : Bd) : Prop := ∀ (d : D) (ε ε' : En) (σ : L2.St) (H : Hp) (v : V) (Q : L2.St → Hp → Prop), OkR K ε σ H → Rep K H v d → b d ε = some ε' →
  (∀ σ', OkR K ε' σ' H → σ'.length = σ.length → (∀ j, j ∉ vs → σ'[j]? = σ[j]?) → Q σ' H) → g v σ H Q
structure PGt (X : Cx) (tg : Expr) (g : TG) (vs : List Nat) (b : Bd) : Prop where
  pg : PG X tg g
  so : GSo X.K g vs b
def bName (i : Nat) : Bd := fun d ε => some (ε.set i (.bo d))
theorem get_set {ε : En} {i j : Nat} {s : Slot} : get (ε.set i s) j = if i = j ∧ i < ε.length then s.val else get ε j := by
  unfold get
  rw [List.getElem?_set]
  by_cases h : i = j
  · subst h
    by_cases hl : i < ε.length
    · simp [hl]
    · simp only [hl, and_false, if_false, if_true]
      rw [List.getElem?_eq_none (by omega)]
  · simp [h]
theorem OkR.set {K : PySem.W.Frag} {ε : En} {σ : L2.St} {H : Hp} (o : OkR K ε σ H) {v : V} {d : D} {s : Slot} (hs : s.val = some d) (r : Rep K H v d) (i : Nat) : OkR K (ε.set i s) (σ.set i (some v)) H := by
  refine ⟨by simp [o.len], fun j e h => ?_⟩
  rw [get_set] at h
  split at h
  · rename_i hc
    obtain ⟨rfl, hl⟩ := hc
    rw [hs] at h; cases h
    exact ⟨v, by rw [List.getElem?_set_self (by rw [← o.len]; exact hl)], r⟩
  · rename_i hc
    obtain ⟨u, hu, q⟩ := o.at_ j e h
    refine ⟨u, ?_, q⟩
    by_cases hij : i = j
    · subst hij
      have hl : ¬ i < ε.length := fun z => hc ⟨rfl, z⟩
      rw [List.getElem?_eq_none (by rw [← o.len]; omega)] at hu
      cases hu
    · rw [List.getElem?_set_ne hij]; exact hu
section
variable {X : Cx} {tg : Expr} {pos : Pos}
theorem gt_name (i : Nat) {x : Str} (hN : X.N.Nodup) (hi : X.N[i]? = some x := by rfl) (hx : Loc X.env.scope x := by first | exact Or.inl rfl | exact Or.inr rfl) (hf : X.fn x = true ∨ X.env.scope.names.lookup x = some .local := by first | exact .inl rfl | exact .inr rfl | assumption) :
    PGt X (.Name x pos) (gName i) [i] (bName i) := by
  refine ⟨pg_name hN hi hx hf, fun d ε ε' σ H v Q ok r q k => ?_⟩
  cases q
  exact k _ (ok.set (s := .bo d) rfl r i) (by simp) fun j hj => List.getElem?_set_ne (fun e => hj (by simp [e]))
abbrev Bds := List D → En → Option En
def GsSo (K : PySem.W.Frag) (g : TGs) (vs : List Nat) (b : Bds) : Prop := ∀ (ds : List D) (ε ε' : En) (σ : L2.St) (H : Hp) (us : List V) (Q : L2.St → Hp → Prop), OkR K ε σ H → RepL K H us ds → b ds ε = some ε' →
  (∀ σ', OkR K ε' σ' H → σ'.length = σ.length → (∀ j, j ∉ vs → σ'[j]? = σ[j]?) → Q σ' H) → g us σ H Q
structure PGs' (X : Cx) (ts : List Expr) (g : TGs) (vs : List Nat) (b : Bds) : Prop where
  pg : PGs X ts g
  so : GsSo X.K g vs b
def bNil : Bds := fun ds ε => match ds with
  | [] => some ε
  | _ => none
def bCons (b : Bd) (r : Bds) : Bds := fun ds ε => match ds with
  | d :: ds => (b d ε).bind (r ds)
  | _ => none
theorem gs_nil : PGs' X [] gNil [] bNil := by
  refine ⟨pgs_nil, fun ds ε ε' σ H us Q ok r q k => ?_⟩
  cases r with
  | nil => cases q; exact ⟨rfl, k σ ok rfl fun _ _ => rfl⟩
  | cons _ _ => cases q
theorem gs_cons {ts : List Expr} {g : TG} {gs : TGs} {vs ws : List Nat} {b : Bd} {bs : Bds} (h1 : PGt X tg g vs b) (h2 : PGs' X ts gs ws bs) (hs : (assignEach (tg :: ts) X.env).map (·.2) = assign tg X.env :: (assignEach ts X.env).map (·.2) := by rfl) :
    PGs' X (tg :: ts) (gCons g gs) (vs ++ ws) (bCons b bs) := by
  refine ⟨pgs_cons h1.pg h2.pg hs, fun ds ε ε' σ H us Q ok r q k => ?_⟩
  cases r with
  | nil => cases q
  | cons r rr =>
    obtain ⟨ε1, q1, q⟩ := bindSome q
    refine ⟨_, _, rfl, h1.so _ ε ε1 σ H _ _ ok r q1 fun σ1 ok1 l1 f1 => ?_⟩
    refine h2.so _ ε1 ε' σ1 H _ _ ok1 rr q fun σ2 ok2 l2 f2 => k σ2 ok2 (l2.trans l1) fun j hj => ?_
    simp only [List.mem_append, not_or] at hj
    rw [f2 j hj.2, f1 j hj.1]
def bTup (bs : Bds) : Bd := fun d ε => match d with
  | .tuple ds => bs ds ε
  | _ => none
theorem gt_tup {K : PySem.W.Frag} {es : List Expr} {k : Nat} {g : TGs} {n : Nat} {vs : List Nat} {bs : Bds} (h : PGs' X es g vs bs) (hl : ∀ (ds : List D) (ε ε' : En), bs ds ε = some ε' → ds.length = n) (hc : X.calm = true := by rfl)
    (hn : (assignEach es X.env).length = n := by rfl) (hst : (assignEach es X.env).findIdx? (·.1) = none := by rfl) (hK : X.K = K := by rfl) : PGt X (.Tuple es k pos) (gTup K n g) vs (bTup bs) := by
  subst hK
  refine ⟨pg_tup hc h.pg hn hst, fun d ε ε' σ H v Q ok r q k => ?_⟩
  cases r with
  | tup h1 r =>
    exact ⟨_, _, rfl, h1, by rw [r.length]; exact hl _ _ _ q, h.so _ ε ε' σ H _ Q ok r q k⟩
  | _ => cases q
end
theorem bl_nil : ∀ (ds : List D) (ε ε' : En), bNil ds ε = some ε' → ds.length = 0 := fun ds ε ε' h => by
  cases ds with
  | nil => rfl
  | cons _ _ => cases h
theorem bl_cons {b : Bd} {bs : Bds} {n : Nat} (h : ∀ (ds : List D) (ε ε' : En), bs ds ε = some ε' → ds.length = n) : ∀ (ds : List D) (ε ε' : En), bCons b bs ds ε = some ε' → ds.length = n + 1 := fun ds ε ε' q => by
  cases ds with
  | nil => cases q
  | cons d r =>
    obtain ⟨ε1, q1, q⟩ := bindSome q
    rw [List.length_cons, h _ _ _ q]

/-! ### [elt for target in iter if test] -/
def wipeE (ε : En) : List Nat → En
  | [] => ε
  | v :: vs => (wipeE ε vs).set v .no
theorem OkR.wiped {K : PySem.W.Frag} {ε : En} {σ : L2.St} {H : Hp} (o : OkR K ε σ H) : ∀ vs : List Nat, OkR K (wipeE ε vs) (wipe σ vs) H
  | [] => o
  | v :: vs => by
    have ih := o.wiped vs
    refine ⟨by simp [wipeE, wipe, ih.len], fun j e h => ?_⟩
    unfold wipeE at h
    rw [get_set] at h
    split at h
    · cases h
    · rename_i hc
      obtain ⟨u, hu, q⟩ := ih.at_ j e h
      refine ⟨u, ?_, q⟩
      unfold wipe
      by_cases hij : v = j
      · subst hij
        have hl : ¬ v < (wipeE ε vs).length := fun z => hc ⟨rfl, z⟩
        rw [List.getElem?_eq_none (by rw [← ih.len]; omega)] at hu
        cases hu
      · rw [List.getElem?_set_ne hij]; exact hu
theorem wipe_get {σ : L2.St} {j : Nat} : ∀ {vs : List Nat}, j ∉ vs → (wipe σ vs)[j]? = σ[j]?
  | [], _ => rfl
  | v :: vs, h => by
    simp only [List.mem_cons, not_or] at h
    unfold wipe
    rw [List.getElem?_set_ne (fun e => h.1 e.symm), wipe_get h.2]
theorem wipe_in {σ : L2.St} {j : Nat} : ∀ {vs : List Nat}, j ∈ vs → j < σ.length → (wipe σ vs)[j]? = some none
  | v :: vs, h, hl => by
    unfold wipe
    by_cases e : v = j
    · subst e
      rw [List.getElem?_set_self (by rw [wipe_length]; exact hl)]
    · rw [List.getElem?_set_ne e]
      exact wipe_in ((List.mem_cons.mp h).resolve_left (fun z => e z.symm)) hl
theorem wipe_same {σ σ' : L2.St} {vs : List Nat} (hl : σ'.length = σ.length) (h : ∀ j, j ∉ vs → σ'[j]? = (wipe σ vs)[j]?) : wipe σ' vs = wipe σ vs := by
  refine List.ext_getElem? fun j => ?_
  by_cases hj : j ∈ vs
  · by_cases hlt : j < σ.length
    · rw [wipe_in hj hlt, wipe_in hj (by rw [hl]; exact hlt)]
    · rw [List.getElem?_eq_none (by rw [wipe_length]; omega), List.getElem?_eq_none (by rw [wipe_length]; omega)]
  · rw [wipe_get hj, h j hj]
def compL (b : Bd) (tt : En → Option Bool) (el : FE) (ε : En) : List D → Option (List D)
  | [] => some []
  | d :: ds => (b d ε).bind fun ε1 => (tt ε1).bind fun c => if c then (el ε1).bind fun y => (compL b tt el ε ds).map (y :: ·) else compL b tt el ε ds
def eLc (vs : List Nat) (it : En → Option (List D)) (b : Bd) (tt : En → Option Bool) (el : FE) : FE := fun ε => (it ε).bind fun ds => if ds.length ≤ cap then (compL b tt el (wipeE ε vs) ds).map .list else none
/-- the test of a clause -/
structure PTs' (X : Cx) (ifs : List Expr) (t : TT) (f : En → Option Bool) : Prop where
  pt : PTs X ifs t
  so : TSo X.K t f
def bTrue : En → Option Bool := fun _ => some true
theorem ts_nil {X : Cx} : PTs' X [] tYes bTrue := ⟨pts_nil, fun ε σ H b Q ok q k => by cases q; exact k H (Same.refl H)⟩
theorem ts_one {X : Cx} {c : Expr} {t : TT} {f : En → Option Bool} (h : PTt X c t f) : PTs' X [c] t f := ⟨pts_one h.pt, h.so⟩
theorem so_lc {K : PySem.W.Frag} {wi : TI} {g : TG} {tt : TT} {te : TE} {vs : List Nat} {it : En → Option (List D)} {b : Bd} {ft : En → Option Bool} {fe : FE} (hi : ISo K wi it) (hg : GSo K g vs b) (ht : TSo K tt ft) (he : FSo K te fe) :
    FSo K (tLc wi g tt te vs) (eLc vs it b ft fe) := by
  intro ε σ H d Q ok q k
  obtain ⟨ds, q1, q⟩ := bindSome q
  split at q
  · rename_i hcap
    obtain ⟨out, q2, rfl⟩ := Option.map_eq_some_iff.mp q
    refine hi ε σ H ds _ ok q1 fun J H1 s1 ⟨G, Y, w, hG, hY⟩ => ?_
    intro Dd hD
    refine lc_it w (fun i H2 => ∃ (acc : List V) (done rest : List D), H2 Dd = some (.lst acc) ∧ acc.length ≤ i ∧ Same H1 H2 ∧ compL b ft fe (wipeE ε vs) (ds.drop i) = some rest ∧ out = done ++ rest ∧
        ∃ fp, RpL K H2 acc done fp ∧ fp.Nodup ∧ ∀ a ∈ fp, H1 a = none ∧ a ≠ Dd) ?_ (fun i H2 _ ⟨acc, done, rest, h1, h2, h3, h4⟩ => hG H2 (smOf h3)) ?_ ?_
    · exact ⟨[], [], out, upd_same, Nat.le_refl _, sameNew hD _, by simpa using q2, rfl, [], .nil, .nil, fun _ z => nomatch z⟩
    · rintro i x H2 H3 hi ⟨acc, done, rest, hacc, hlen, s2, hrest, hout, fp, rfp, nfp, ffp⟩ y
      obtain ⟨s3, d, hd, rd⟩ := hY i H2 x H3 (smOf s2) y
      have hdrop : ds.drop i = d :: ds.drop (i + 1) := by
        have h1 : i < ds.length := hi
        rw [List.drop_eq_getElem_cons h1]
        rw [List.getElem?_eq_getElem h1] at hd
        cases hd; rfl
      rw [hdrop] at hrest
      obtain ⟨ε1, qb, hrest⟩ := bindSome hrest
      obtain ⟨c, qt, hrest⟩ := bindSome hrest
      have okw : OkR K (wipeE ε vs) (wipe σ vs) H3 := (ok.same ((s1.trans s2).trans s3)).wiped vs
      refine hg d (wipeE ε vs) ε1 (wipe σ vs) H3 x _ okw (rd.mono (tov_le (smOf (s2.trans s3)))) qb fun σ2 ok2 l2 f2 => ?_
      refine ⟨wipe_same (l2.trans (wipe_length σ vs)) f2, ?_⟩
      refine ht ε1 σ2 H3 c _ ok2 qt fun H4 s4 => ?_
      have s24 := s3.trans s4
      cases c with
      | true =>
        rw [if_pos rfl] at hrest ⊢
        obtain ⟨yv, qe, hrest⟩ := bindSome hrest
        obtain ⟨rest', hrest', rfl⟩ := Option.map_eq_some_iff.mp hrest
        refine he ε1 σ2 H4 yv _ (ok2.same s4) qe fun u H5 s5 ⟨fq, rq, nq, fqn⟩ => ?_
        have s25 := s24.trans s5
        refine ⟨acc, s25 _ _ hacc, Nat.lt_of_le_of_lt hlen (Nat.lt_of_lt_of_le hi (Nat.le_trans hcap (by unfold cap; decide))), ?_⟩
        have hDn : H1 Dd = none := hD
        have dq : ∀ a ∈ fq, a ≠ Dd := fun a ha e => by
          have := fqn a ha
          rw [e, s24 _ _ hacc] at this
          cases this
        have tk : ∀ a xs, SqT K H5 a xs → SqT K (upd H5 Dd (.lst (acc ++ [u]))) a xs := fun a xs hx => by
          rcases hx with hx | hx
          · have na : a ≠ Dd := by
              rintro rfl
              have e5 := s25 _ _ hacc
              rcases hx with hx | ⟨o, hx⟩ <;> (rw [e5] at hx; cases hx)
            refine .inl ?_
            rcases hx with hx | ⟨o, hx⟩
            · exact .inl (by rw [upd_ne na]; exact hx)
            · exact .inr ⟨o, by rw [upd_ne na]; exact hx⟩
          · exact .inr hx
        refine ⟨acc ++ [u], done ++ [yv], rest', upd_same, by rw [List.length_append]; simp; omega, fun bb o e => ?_, hrest', by rw [hout, List.append_assoc]; rfl, fp ++ fq, ?_, ?_, ?_⟩
        · have nb : bb ≠ Dd := ne_of_none e hDn
          rw [upd_ne nb]
          exact s25 _ _ (s2 _ _ e)
        · have r1 : RpL K H5 acc done fp := rfp.same s25
          have r2 : RpL K H5 [u] [yv] fq := by simpa using RpL.cons rq .nil
          refine (r1.append r2).keep tk fun a ha => ?_
          have na : a ≠ Dd := by
            rcases List.mem_append.mp ha with ha | ha
            · exact (ffp a ha).2
            · exact dq a ha
          exact upd_ne na
        · refine List.nodup_append.mpr ⟨nfp, nq, fun a ha b' hb e => ?_⟩
          subst e
          have t1 := rfp.there a ha
          have t2 := fqn a hb
          cases z : H2 a with
          | none => exact t1 z
          | some o => rw [s24 _ _ z] at t2; cases t2
        · intro a ha
          rcases List.mem_append.mp ha with ha | ha
          · exact ffp a ha
          · exact ⟨Sm.free (s2.trans s24) (fqn a ha), dq a ha⟩
      | false =>
        rw [if_neg Bool.false_ne_true] at hrest ⊢
        exact ⟨acc, done, rest, s24 _ _ hacc, by omega, s2.trans s24, hrest, hout, fp, rfp.same s24, nfp, ffp⟩
    · rintro H2 ⟨acc, done, rest, hacc, hlen, s2, hrest, hout, fp, rfp, nfp, ffp⟩
      rw [List.drop_length] at hrest
      cases hrest
      rw [List.append_nil] at hout
      subst hout
      refine k _ H2 (s1.trans s2) ⟨Dd :: fp, .lst hacc rfp, List.nodup_cons.mpr ⟨fun z => (ffp _ z).2 rfl, nfp⟩, fun a ha => ?_⟩
      rcases List.mem_cons.mp ha with rfl | ha
      · exact Sm.free s1 hD
      · exact Sm.free s1 (ffp a ha).1
  · cases q
section
variable {X : Cx} {elt tg iter : Expr} {ifs : List Expr} {scope : Scope} {own : List (Str × Nat)} {pos : Pos} {wi : TI} {g : TG} {tt : TT} {te : TE} {it : En → Option (List D)} {b : Bd} {ft : En → Option Bool} {fe : FE}
theorem pf_lc {own : List (Str × Nat)} (hN : X.N.Nodup) (hi : PIt X tg iter wi it) (ok : BlkOk X.N X.env.scope scope own)
    (hg : ∀ (s : Shared) (H : Hp) (C : Addr) (cl : List (Str × Addr)) (fp : List Addr), PGt (X.blk s H scope (compEnvC scope cl C X.env) fp) tg g (own.map (·.2)) b)
    (ht : ∀ (s : Shared) (H : Hp) (C : Addr) (cl : List (Str × Addr)) (fp : List Addr), PTs' (X.blk s H scope (compEnvC scope cl C X.env) fp) ifs tt ft)
    (he : ∀ (s : Shared) (H : Hp) (C : Addr) (cl : List (Str × Addr)) (fp : List Addr), PF (X.blk s H scope (compEnvC scope cl C X.env) fp) elt te fe)
    (hc : X.calm = true := by rfl) (hs : ∀ x, foldedSetIterable iter X.env x = pure x := by intro _; rfl) :
    PF X (.ListComp elt [⟨tg, iter, ifs, 0⟩] scope pos) (tLc wi g tt te (own.map (·.2))) (eLc (own.map (·.2)) it b ft fe) := by
  refine ⟨pe_lc hc hN hi.pi ok (fun s H C cl fp => (hg s H C cl fp).pg) (fun s H C cl fp => (ht s H C cl fp).pt) (fun s H C cl fp => (he s H C cl fp).pe) hs, ?_⟩
  exact so_lc hi.so (hg {} (fun _ => none) (0 : Nat) [] []).so (ht {} (fun _ => none) (0 : Nat) [] []).so (he {} (fun _ => none) (0 : Nat) [] []).so
end
end Pd

set_option Elab.async false
set_option linter.all false
set_option maxRecDepth 100000
set_option maxHeartbeats 4000000
/-! Pd7: who owns which lists: the state of a def's body; expressions that may change it. -/
namespace Pd
open PySem PySem.Spec PyProof.Rows L2

theorem tov_le' {B H : Hp} (e : Same B H) : Same (tov B H) H := fun a o h => by
  unfold tov at h
  cases q : B a with
  | none =>
    rw [q] at h
    simp only at h
    split at h
    · exact h
    · cases h
  | some u => rw [q] at h; cases h; exact e a o q

/-! ### things owned: their lists and dicts lie apart, and apart from the base -/
inductive RpP (K : PySem.W.Frag) (H : Hp) : List (V × D) → List Addr → Prop
  | nil : RpP K H [] []
  | cons {v : V} {d : D} {L : List (V × D)} {f g : List Addr} : Rp K H v d f → RpP K H L g → RpP K H ((v, d) :: L) (f ++ g)
def Owns (K : PySem.W.Frag) (H B : Hp) (L : List (V × D)) : Prop := ∃ fp, RpP K H L fp ∧ fp.Nodup ∧ ∀ a ∈ fp, B a = none
section
variable {K : PySem.W.Frag} {H H' B B' : Hp}
mutual
theorem Rp.cell : ∀ {v : V} {d : D} {fp : List Addr}, Rp K H v d fp → ∀ a ∈ fp, (∃ xs, H a = some (.lst xs)) ∨ ∃ u ks xs, H a = some u ∧ DicV u ks xs
  | _, _, _, .non, _, z => nomatch z
  | _, _, _, .bl b, _, z => nomatch z
  | _, _, _, .int i, _, z => nomatch z
  | _, _, _, .str x, _, z => nomatch z
  | _, _, _, .lst h r, a, z => by
    rcases List.mem_cons.mp z with rfl | z
    · exact .inl ⟨_, h⟩
    · exact RpL.cell r a z
  | _, _, _, .tup h r, a, z => RpL.cell r a z
  | _, _, _, .dic h q r e, a, z => by
    rcases List.mem_cons.mp z with rfl | z
    · exact .inr ⟨_, _, _, h, q⟩
    · exact RpL.cell r a z
theorem RpL.cell : ∀ {vs : List V} {ds : List D} {fp : List Addr}, RpL K H vs ds fp → ∀ a ∈ fp, (∃ xs, H a = some (.lst xs)) ∨ ∃ u ks xs, H a = some u ∧ DicV u ks xs
  | _, _, _, .nil, _, z => nomatch z
  | _, _, _, .cons r t, a, z => by
    rcases List.mem_append.mp z with z | z
    · exact Rp.cell r a z
    · exact RpL.cell t a z
end
theorem cell_notTup {a : Addr} (h : (∃ xs, H a = some (.lst xs)) ∨ ∃ u ks xs, H a = some u ∧ DicV u ks xs) : isTup (H a) = false := by
  rcases h with ⟨xs, h⟩ | ⟨u, ks, xs, h, q⟩
  · rw [h]; rfl
  · rw [h]; cases q <;> rfl
theorem RpP.there {L : List (V × D)} {fp : List Addr} (r : RpP K H L fp) : ∀ a ∈ fp, H a ≠ none := by
  induction r with
  | nil => intro a z; cases z
  | cons r t ih =>
    intro a z
    rcases List.mem_append.mp z with z | z
    · exact r.there a z
    · exact ih a z
theorem RpP.cell {L : List (V × D)} {fp : List Addr} (r : RpP K H L fp) : ∀ a ∈ fp, isTup (H a) = false := by
  induction r with
  | nil => intro a z; cases z
  | cons r t ih =>
    intro a z
    rcases List.mem_append.mp z with z | z
    · exact cell_notTup (r.cell a z)
    · exact ih a z
theorem RpP.keep (ht : ∀ a xs, SqT K H a xs → SqT K H' a xs) {L : List (V × D)} {fp : List Addr} (r : RpP K H L fp) : (∀ a ∈ fp, H' a = H a) → RpP K H' L fp := by
  induction r with
  | nil => intro _; exact .nil
  | cons r t ih => intro k; exact .cons (r.keep ht fun a ha => k a (List.mem_append_left _ ha)) (ih fun a ha => k a (List.mem_append_right _ ha))
theorem RpP.same (e : Same H H') {L : List (V × D)} {fp : List Addr} (r : RpP K H L fp) : RpP K H' L fp := by
  refine r.keep (fun _ _ h => (smOf e).sqt h) fun a ha => ?_
  have := r.there a ha
  cases q : H a with
  | none => exact absurd q this
  | some o => exact e _ _ q
theorem RpP.perm {L L' : List (V × D)} (p : L.Perm L') : ∀ {fp : List Addr}, RpP K H L fp → ∃ fp', RpP K H L' fp' ∧ fp'.Perm fp := by
  induction p with
  | nil => intro fp r; exact ⟨fp, r, .refl _⟩
  | cons x _ ih =>
    intro fp r
    cases r with
    | cons r t =>
      obtain ⟨g', r', p'⟩ := ih t
      exact ⟨_, .cons r r', p'.append_left _⟩
  | swap x y l =>
    intro fp r
    cases r with
    | cons r t =>
      cases t with
      | @cons v d L f g r2 t =>
        refine ⟨_, .cons r2 (.cons r t), ?_⟩
        rw [← List.append_assoc, ← List.append_assoc]
        exact List.perm_append_comm.append_right _
  | trans _ _ ih1 ih2 =>
    intro fp r
    obtain ⟨f1, r1, p1⟩ := ih1 r
    obtain ⟨f2, r2, p2⟩ := ih2 r1
    exact ⟨f2, r2, p2.trans p1⟩
theorem RpP.sub {L L' : List (V × D)} (p : L'.Sublist L) : ∀ {fp : List Addr}, RpP K H L fp → ∃ fp', RpP K H L' fp' ∧ fp'.Sublist fp := by
  induction p with
  | slnil => intro fp r; exact ⟨fp, r, .refl _⟩
  | cons x _ ih =>
    intro fp r
    cases r with
    | cons r t =>
      obtain ⟨g', r', p'⟩ := ih t
      exact ⟨g', r', p'.trans (List.sublist_append_right _ _)⟩
  | cons_cons x _ ih =>
    intro fp r
    cases r with
    | cons r t =>
      obtain ⟨g', r', p'⟩ := ih t
      exact ⟨_, .cons r r', p'.append_left _⟩
theorem RpP.rep {L : List (V × D)} {fp : List Addr} (r : RpP K H L fp) : ∀ {v : V} {d : D}, (v, d) ∈ L → Rep K H v d := by
  induction r with
  | nil => intro v d h; cases h
  | cons r t ih =>
    intro v d h
    rcases List.mem_cons.mp h with h | h
    · cases h; exact r.rep
    · exact ih h
theorem Owns.perm {L L' : List (V × D)} (o : Owns K H B L) (p : L.Perm L') : Owns K H B L' := by
  obtain ⟨fp, r, nd, f⟩ := o
  obtain ⟨fp', r', p'⟩ := r.perm p
  exact ⟨fp', r', p'.nodup_iff.mpr nd, fun a ha => f a (p'.mem_iff.mp ha)⟩
theorem Owns.sub {L L' : List (V × D)} (o : Owns K H B L) (p : L'.Sublist L) : Owns K H B L' := by
  obtain ⟨fp, r, nd, f⟩ := o
  obtain ⟨fp', r', p'⟩ := r.sub p
  exact ⟨fp', r', nd.sublist p', fun a ha => f a (p'.subset ha)⟩
theorem Owns.rep {L : List (V × D)} (o : Owns K H B L) {v : V} {d : D} (h : (v, d) ∈ L) : Rep K H v d := let ⟨_, r, _⟩ := o; r.rep h
theorem Owns.nil : Owns K H B [] := ⟨[], .nil, .nil, fun _ z => nomatch z⟩
/-- a frozen thing more -/
theorem Owns.frz {L : List (V × D)} (o : Owns K H B L) {v : V} {d : D} (r : Rep K H v d) (h : frozen d = true) : Owns K H B ((v, d) :: L) := by
  obtain ⟨fp, r', nd, f⟩ := o
  exact ⟨[] ++ fp, .cons (r.frz h) r', by simpa using nd, by simpa using f⟩
/-- a new thing more -/
theorem Owns.new {L : List (V × D)} (o : Owns K H B L) (sm : Same B H) (e : Same H H') {v : V} {d : D} (n : New K H H' v d) : Owns K H' B ((v, d) :: L) := by
  obtain ⟨fp, r, nd, f⟩ := o
  obtain ⟨fq, rq, nq, g⟩ := n
  refine ⟨fq ++ fp, .cons rq (r.same e), List.nodup_append.mpr ⟨nq, nd, fun a ha b hb z => ?_⟩, fun a ha => ?_⟩
  · subst z
    exact r.there a hb (g a ha)
  · rcases List.mem_append.mp ha with ha | ha
    · exact Sm.free sm (g a ha)
    · exact f a ha
theorem Owns.same {L : List (V × D)} (o : Owns K H B L) (e : Same H H') : Owns K H' B L := by
  obtain ⟨fp, r, nd, f⟩ := o
  exact ⟨fp, r.same e, nd, f⟩
/-- a smaller base -/
theorem Owns.base {L : List (V × D)} (o : Owns K H B' L) (e : Same B B') : Owns K H B L := by
  obtain ⟨fp, r, nd, f⟩ := o
  exact ⟨fp, r, nd, fun a ha => Sm.free e (f a ha)⟩
/-- what was owned is put to the base: it stays for good -/
theorem Owns.pin {L : List (V × D)} {v : V} {d : D} (sm : Same B H) (o : Owns K H B ((v, d) :: L)) : ∃ B', Same B B' ∧ Same B' H ∧ Rep K B' v d ∧ Owns K H B' L := by
  obtain ⟨fp, r, nd, f⟩ := o
  cases r with
  | @cons _ _ _ fv g rv rl =>
    obtain ⟨n1, n2, n3⟩ := List.nodup_append.mp nd
    have hB : ∀ a, (fun a => if a ∈ fv then H a else tov B H a : Hp) a = if a ∈ fv then H a else tov B H a := fun _ => rfl
    refine ⟨fun a => if a ∈ fv then H a else tov B H a, fun a o q => ?_, fun a o q => ?_, ?_, g, rl, n2, fun a ha => ?_⟩
    · have na : a ∉ fv := fun z => by rw [f a (List.mem_append_left _ z)] at q; cases q
      show (if a ∈ fv then H a else tov B H a) = some o
      rw [if_neg na]; exact tov_in q
    · have q : (if a ∈ fv then H a else tov B H a) = some o := q
      split at q
      · exact q
      · exact tov_le' sm a o q
    · refine (rv.keep (H' := fun a => if a ∈ fv then H a else tov B H a) (fun a xs hx => ?_) fun a ha => by show (if a ∈ fv then H a else tov B H a) = H a; rw [if_pos ha]).rep
      rcases hx with hx | hx
      · have na : a ∉ fv := fun z => by
          have := cell_notTup (rv.cell a z)
          rcases hx with hx | ⟨o, hx⟩ <;> (rw [hx] at this; cases this)
        refine .inl ?_
        have key : ∀ u, H a = some u → isTup (some u) = true → (if a ∈ fv then H a else tov B H a) = some u := fun u hu ht => by
          rw [if_neg na]
          unfold tov
          cases q : B a with
          | none => simp only; rw [hu, if_pos ht]
          | some o => rw [sm a o q] at hu; exact hu
        rcases hx with hx | ⟨o, hx⟩
        · exact .inl (key _ hx rfl)
        · exact .inr ⟨o, key _ hx rfl⟩
      · exact .inr hx
    · show (if a ∈ fv then H a else tov B H a) = none
      rw [if_neg fun z => n3 a z a ha rfl]
      exact tov_none (f a (List.mem_append_right _ ha)) (rl.cell a ha)
end

/-! ### the state of a def's body -/
def Slot.mine : Slot → Option D
  | .ow d => some d
  | .io d => some d
  | _ => none
def slotsL : En → L2.St → List (V × D)
  | s :: ε, o :: σ => (match s.mine, o with
    | some d, some v => [(v, d)]
    | _, _ => []) ++ slotsL ε σ
  | _, _ => []
structure Ok (K : PySem.W.Frag) (io : Option (Nat × V)) (B : Hp) (ps : List (V × D)) (ε : En) (σ : L2.St) (H : Hp) : Prop where
  len : ε.length = σ.length
  sm : Same B H
  own : Owns K H B (ps ++ slotsL ε σ)
  has : ∀ (i : Nat) (s : Slot) (d : D), ε[i]? = some s → s.mine = some d → ∃ v, σ[i]? = some (some v)
  bo : ∀ (i : Nat) (d : D), ε[i]? = some (.bo d) → ∃ v, σ[i]? = some (some v) ∧ Rep K B v d
  io1 : ∀ (i : Nat) (d : D), ε[i]? = some (.io d) → ∃ v, io = some (i, v)
  io2 : ∀ (i : Nat) (v : V), io = some (i, v) → σ[i]? = some (some v) ∧ ∃ d, ε[i]? = some (.io d)
section
variable {K : PySem.W.Frag} {io : Option (Nat × V)} {B B' H H' : Hp} {ps : List (V × D)} {ε ε' : En} {σ : L2.St}
theorem slots_mem : ∀ {ε : En} {σ : L2.St} {i : Nat} {s : Slot} {d : D} {v : V}, ε[i]? = some s → s.mine = some d → σ[i]? = some (some v) → (v, d) ∈ slotsL ε σ
  | [], _, _, _, _, _, h, _, _ => by simp at h
  | _ :: _, [], _, _, _, _, _, _, h => by simp at h
  | s :: ε, o :: σ, 0, _, d, v, h, hm, h2 => by
    simp at h h2
    subst h h2
    simp [slotsL, hm]
  | s :: ε, o :: σ, i + 1, s', d, v, h, hm, h2 => by
    unfold slotsL
    exact List.mem_append_right _ (slots_mem (i := i) (by simpa using h) hm (by simpa using h2))
theorem Ok.okR (o : Ok K io B ps ε σ H) : OkR K ε σ H := by
  refine ⟨o.len, fun i d h => ?_⟩
  unfold get at h
  obtain ⟨s, hs, hv⟩ := bindSome h
  cases s with
  | no => cases hv
  | ow e =>
    cases hv
    obtain ⟨v, hv⟩ := o.has i _ _ hs rfl
    exact ⟨v, hv, o.own.rep (List.mem_append_right _ (slots_mem hs rfl hv))⟩
  | io e =>
    cases hv
    obtain ⟨v, hv⟩ := o.has i _ _ hs rfl
    exact ⟨v, hv, o.own.rep (List.mem_append_right _ (slots_mem hs rfl hv))⟩
  | bo e =>
    cases hv
    obtain ⟨v, hv, r⟩ := o.bo i _ hs
    exact ⟨v, hv, r.mono (smOf o.sm)⟩
/-- a slot taken out -/
theorem slots_out : ∀ {ε : En} {σ : L2.St} {i : Nat} {s : Slot} {d : D} {v : V} {s' : Slot}, ε[i]? = some s → s.mine = some d → σ[i]? = some (some v) → s'.mine = none → ((v, d) :: slotsL (ε.set i s') σ).Perm (slotsL ε σ)
  | [], _, _, _, _, _, _, h, _, _, _ => by simp at h
  | _ :: _, [], _, _, _, _, _, _, _, h, _ => by simp at h
  | s :: ε, o :: σ, 0, _, d, v, s', h, hm, h2, hm' => by
    simp at h h2
    subst h h2
    simp [slotsL, hm, hm']
  | s :: ε, o :: σ, i + 1, s1, d, v, s', h, hm, h2, hm' => by
    have ih := slots_out (ε := ε) (σ := σ) (i := i) (s' := s') (by simpa using h) hm (by simpa using h2) hm'
    simp only [List.set_cons_succ, slotsL]
    exact (List.perm_middle.symm).trans (ih.append_left _)
/-- a slot put in its place -/
theorem slots_put : ∀ {ε : En} {σ : L2.St} {i : Nat} {d : D} {v : V} {s' : Slot}, i < ε.length → ε.length = σ.length → s'.mine = some d → (slotsL (ε.set i s') (σ.set i (some v))).Perm ((v, d) :: slotsL (ε.set i .no) σ)
  | [], _, _, _, _, _, h, _, _ => by simp at h
  | _ :: _, [], _, _, _, _, _, h, _ => by simp at h
  | s :: ε, o :: σ, 0, d, v, s', h, hl, hm => by
    cases o <;> (simp only [List.set_cons_zero, slotsL, hm, show Slot.mine .no = none from rfl]; simp)
  | s :: ε, o :: σ, i + 1, d, v, s', h, hl, hm => by
    have ih := slots_put (ε := ε) (σ := σ) (i := i) (v := v) (by simpa using h) (by simpa using hl) hm
    simp only [List.set_cons_succ, slotsL]
    exact (ih.append_left _).trans List.perm_middle
theorem slots_del : ∀ {ε : En} {σ : L2.St} {i : Nat} {s' : Slot}, s'.mine = none → (slotsL (ε.set i s') σ).Sublist (slotsL ε σ)
  | [], _, _, _, _ => by simp [slotsL]
  | _ :: _, [], i, _, _ => by cases i <;> simp [slotsL]
  | s :: ε, o :: σ, 0, s', hm => by simp [slotsL, hm]
  | s :: ε, o :: σ, i + 1, s', hm => by
    simp only [List.set_cons_succ, slotsL]
    exact (slots_del hm).append_left _
theorem slots_no {ε : En} {σ : L2.St} {i : Nat} {s' : Slot} (hm : s'.mine = none) : slotsL (ε.set i s') σ = slotsL (ε.set i .no) σ := by
  induction ε generalizing σ i with
  | nil => rfl
  | cons s ε ih =>
    cases σ with
    | nil => cases i <;> simp [slotsL]
    | cons o σ =>
      cases i with
      | zero => simp only [List.set_cons_zero, slotsL, hm, show Slot.mine .no = none from rfl]
      | succ i => simp only [List.set_cons_succ, slotsL, ih]
/-- a new value behind an expression that changes nothing -/
theorem Ok.new (o : Ok K io B ps ε σ H) (e : Same H H') {v : V} {d : D} (n : New K H H' v d) : Ok K io B ((v, d) :: ps) ε σ H' :=
  ⟨o.len, o.sm.trans e, o.own.new o.sm e n, o.has, o.bo, o.io1, o.io2⟩
theorem Ok.same (o : Ok K io B ps ε σ H) (e : Same H H') : Ok K io B ps ε σ H' := ⟨o.len, o.sm.trans e, o.own.same e, o.has, o.bo, o.io1, o.io2⟩
theorem Ok.drop {v : V} {d : D} (o : Ok K io B ((v, d) :: ps) ε σ H) : Ok K io B ps ε σ H := ⟨o.len, o.sm, o.own.sub (List.sublist_cons_self _ _), o.has, o.bo, o.io1, o.io2⟩
theorem Ok.pin {v : V} {d : D} (o : Ok K io B ((v, d) :: ps) ε σ H) : ∃ B', Same B B' ∧ Rep K B' v d ∧ Ok K io B' ps ε σ H := by
  obtain ⟨B', s1, s2, r, ow⟩ := Owns.pin o.sm o.own
  exact ⟨B', s1, r, o.len, s2, ow, o.has, fun i e h => let ⟨v, hv, q⟩ := o.bo i e h; ⟨v, hv, q.mono (smOf s1)⟩, o.io1, o.io2⟩
theorem Ok.tups (o : Ok K io B ps ε σ H) : Ok K io (tov B H) ps ε σ H := by
  obtain ⟨fp, r, nd, f⟩ := o.own
  exact ⟨o.len, tov_le' o.sm, ⟨fp, r, nd, fun a ha => tov_none (f a ha) (r.cell a ha)⟩, o.has, fun i e h => let ⟨v, hv, q⟩ := o.bo i e h; ⟨v, hv, q.mono (smOf tov_ge)⟩, o.io1, o.io2⟩
theorem set_get {ε : En} {i j : Nat} {s t : Slot} (h : (ε.set i s)[j]? = some t) : (i = j ∧ s = t) ∨ (i ≠ j ∧ ε[j]? = some t) := by
  rw [List.getElem?_set] at h
  split at h
  · rename_i e
    split at h
    · cases h; exact .inl ⟨e, rfl⟩
    · cases h
  · rename_i e
    exact .inr ⟨e, h⟩
/-- a slot's thing is taken out -/
theorem Ok.move (o : Ok K io B ps ε σ H) {i : Nat} {d : D} {v : V} (h : ε[i]? = some (.ow d)) (hv : σ[i]? = some (some v)) : Ok K io B ((v, d) :: ps) (ε.set i .no) σ H := by
  refine ⟨by simpa using o.len, o.sm, o.own.perm ?_, fun j s e q hm => ?_, fun j e q => ?_, fun j e q => ?_, fun j u q => ?_⟩
  · exact ((slots_out h rfl hv rfl).symm.append_left ps).trans List.perm_middle
  · rcases set_get q with ⟨_, rfl⟩ | ⟨_, q⟩
    · cases hm
    · exact o.has j s e q hm
  · rcases set_get q with ⟨_, z⟩ | ⟨_, q⟩
    · cases z
    · exact o.bo j e q
  · rcases set_get q with ⟨_, z⟩ | ⟨_, q⟩
    · cases z
    · exact o.io1 j e q
  · obtain ⟨h1, d', h2⟩ := o.io2 j u q
    refine ⟨h1, d', ?_⟩
    have : i ≠ j := fun z => by subst z; rw [h] at h2; cases h2
    rw [List.getElem?_set_ne this]; exact h2
def notIo : Option Slot → Bool
  | some (.io _) => false
  | some _ => true
  | none => false
/-- name = value -/
theorem Ok.put {v : V} {d : D} (o : Ok K io B ((v, d) :: ps) ε σ H) {i : Nat} (h : notIo ε[i]? = true) : Ok K io B ps (ε.set i (.ow d)) (σ.set i (some v)) H := by
  have hl : i < ε.length := by
    cases q : ε[i]? with
    | none => rw [q] at h; cases h
    | some s => exact (List.getElem?_eq_some_iff.mp q).1
  have nio : ∀ j e, ε[j]? = some (.io e) → i ≠ j := fun j e q z => by subst z; rw [q] at h; cases h
  refine ⟨by simpa using o.len, o.sm, ?_, fun j s e q hm => ?_, fun j e q => ?_, fun j e q => ?_, fun j u q => ?_⟩
  · refine (o.own.sub (L' := (v, d) :: (ps ++ slotsL (ε.set i .no) σ)) ?_).perm ?_
    · exact ((slots_del rfl).append_left ps).cons_cons _
    · exact List.perm_middle.symm.trans ((slots_put hl o.len rfl).symm.append_left ps)
  · rcases set_get q with ⟨rfl, rfl⟩ | ⟨ne, q⟩
    · exact ⟨v, List.getElem?_set_self (by rw [← o.len]; exact hl)⟩
    · obtain ⟨u, hu⟩ := o.has j s e q hm
      exact ⟨u, by rw [List.getElem?_set_ne ne]; exact hu⟩
  · rcases set_get q with ⟨_, z⟩ | ⟨ne, q⟩
    · cases z
    · obtain ⟨u, hu, r⟩ := o.bo j e q
      exact ⟨u, by rw [List.getElem?_set_ne ne]; exact hu, r⟩
  · rcases set_get q with ⟨_, z⟩ | ⟨_, q⟩
    · cases z
    · exact o.io1 j e q
  · obtain ⟨h1, d', h2⟩ := o.io2 j u q
    have ne := nio j d' h2
    exact ⟨by rw [List.getElem?_set_ne ne]; exact h1, d', by rw [List.getElem?_set_ne ne]; exact h2⟩
/-- name = a thing of the base -/
theorem Ok.putB {v : V} {d : D} (o : Ok K io B ps ε σ H) (r : Rep K B v d) {i : Nat} (h : notIo ε[i]? = true) : Ok K io B ps (ε.set i (.bo d)) (σ.set i (some v)) H := by
  have hl : i < ε.length := by
    cases q : ε[i]? with
    | none => rw [q] at h; cases h
    | some s => exact (List.getElem?_eq_some_iff.mp q).1
  have nio : ∀ j e, ε[j]? = some (.io e) → i ≠ j := fun j e q z => by subst z; rw [q] at h; cases h
  have hs : slotsL (ε.set i (.bo d)) (σ.set i (some v)) = slotsL (ε.set i .no) σ := by
    have go : ∀ (ε : En) (σ : L2.St) (i : Nat), slotsL (ε.set i (.bo d)) (σ.set i (some v)) = slotsL (ε.set i .no) σ := by
      intro ε
      induction ε with
      | nil => intro σ i; rfl
      | cons s ε ih =>
        intro σ i
        cases σ with
        | nil => cases i <;> simp [slotsL]
        | cons o σ =>
          cases i with
          | zero => simp [slotsL, Slot.mine]
          | succ i => simp only [List.set_cons_succ, slotsL, ih]
    exact go ε σ i
  refine ⟨by simpa using o.len, o.sm, ?_, fun j s e q hm => ?_, fun j e q => ?_, fun j e q => ?_, fun j u q => ?_⟩
  · rw [hs]
    exact o.own.sub ((slots_del rfl).append_left ps)
  · rcases set_get q with ⟨rfl, rfl⟩ | ⟨ne, q⟩
    · cases hm
    · obtain ⟨u, hu⟩ := o.has j s e q hm
      exact ⟨u, by rw [List.getElem?_set_ne ne]; exact hu⟩
  · rcases set_get q with ⟨rfl, z⟩ | ⟨ne, q⟩
    · cases z
      exact ⟨v, List.getElem?_set_self (by rw [← o.len]; exact hl), r⟩
    · obtain ⟨u, hu, r⟩ := o.bo j e q
      exact ⟨u, by rw [List.getElem?_set_ne ne]; exact hu, r⟩
  · rcases set_get q with ⟨_, z⟩ | ⟨_, q⟩
    · cases z
    · exact o.io1 j e q
  · obtain ⟨h1, d', h2⟩ := o.io2 j u q
    have ne := nio j d' h2
    exact ⟨by rw [List.getElem?_set_ne ne]; exact h1, d', by rw [List.getElem?_set_ne ne]; exact h2⟩
/-- an own slot is put to the base -/
theorem Ok.lend (o : Ok K io B ps ε σ H) {i : Nat} {d : D} {v : V} (h : ε[i]? = some (.ow d)) (hv : σ[i]? = some (some v)) : ∃ B', Same B B' ∧ Rep K B' v d ∧ Ok K io B' ps (ε.set i (.bo d)) σ H := by
  obtain ⟨B', s1, r, o'⟩ := (o.move h hv).pin
  refine ⟨B', s1, r, ?_⟩
  have q := o'.putB r (i := i) (by rw [List.getElem?_set_self (List.getElem?_eq_some_iff.mp h).1]; rfl)
  rw [List.set_set] at q
  have e : σ.set i (some v) = σ := by
    refine List.ext_getElem? fun j => ?_
    by_cases hj : i = j
    · subst hj
      rw [List.getElem?_set_self (List.getElem?_eq_some_iff.mp hv).1, hv]
    · rw [List.getElem?_set_ne hj]
  rw [e] at q
  exact q
end

/-! ### expressions that may change the state: MM (the value is owned), MV (the value stands in the base) -/
abbrev FM := En → Option (D × En)
def MMo (K : PySem.W.Frag) (t : TE) (f : FM) : Prop := ∀ (io : Option (Nat × V)) (B : Hp) (ps : List (V × D)) (ε ε' : En) (σ : L2.St) (H : Hp) (d : D) (Q : VK), Ok K io B ps ε σ H → f ε = some (d, ε') →
  (∀ v B' H', Same B B' → Ok K io B' ((v, d) :: ps) ε' σ H' → Q v H') → t σ H Q
def MVo (K : PySem.W.Frag) (t : TE) (f : FM) : Prop := ∀ (io : Option (Nat × V)) (B : Hp) (ps : List (V × D)) (ε ε' : En) (σ : L2.St) (H : Hp) (d : D) (Q : VK), Ok K io B ps ε σ H → f ε = some (d, ε') →
  (∀ v B' H', Same B B' → Ok K io B' ps ε' σ H' → Rep K B' v d → Q v H') → t σ H Q
def MTo (K : PySem.W.Frag) (t : TT) (f : En → Option (Bool × En)) : Prop := ∀ (io : Option (Nat × V)) (B : Hp) (ps : List (V × D)) (ε ε' : En) (σ : L2.St) (H : Hp) (b : Bool) (Q : Bool → Hp → Prop), Ok K io B ps ε σ H → f ε = some (b, ε') →
  (∀ B' H', Same B B' → Ok K io B' ps ε' σ H' → Q b H') → t σ H Q
def MAo (K : PySem.W.Frag) (t : TA) (f : En → Option (List D × En)) : Prop := ∀ (io : Option (Nat × V)) (B : Hp) (ps : List (V × D)) (ε ε' : En) (σ : L2.St) (H : Hp) (ds : List D) (Q : List V → Hp → Prop), Ok K io B ps ε σ H → f ε = some (ds, ε') →
  (∀ vs B' H', Same B B' → Ok K io B' ps ε' σ H' → RepL K B' vs ds → Q vs H') → t σ H Q
structure MM (X : Cx) (e : Expr) (t : TE) (f : FM) : Prop where
  pe : PE X e t
  so : MMo X.K t f
structure MV (X : Cx) (e : Expr) (t : TE) (f : FM) : Prop where
  pe : PE X e t
  so : MVo X.K t f
structure MT (X : Cx) (e : Expr) (t : TT) (f : En → Option (Bool × En)) : Prop where
  pt : PT X e t
  so : MTo X.K t f
structure MW (X : Cx) (e : Expr) (t : TT) (f : En → Option (Bool × En)) : Prop where
  pw : PW X e t
  so : MTo X.K t f
structure MA (X : Cx) (es : List Expr) (t : TA) (f : En → Option (List D × En)) : Prop where
  pa : PA X es t
  so : MAo X.K t f
def mP (f : FE) : FM := fun ε => (f ε).map fun d => (d, ε)
def mT (f : En → Option Bool) : En → Option (Bool × En) := fun ε => (f ε).map fun d => (d, ε)
section
variable {X : Cx} {a b c e : Expr} {ta tb tc : TE} {fa fb fc : FE} {ma mb mc : FM} {pos p : Pos} {es : List Expr} {t : TA} {ms : En → Option (List D × En)} {x : Str} {tA tB' : TT} {ga gb : En → Option (Bool × En)} {rest : List Expr}
theorem mm_pf (h : PF X a ta fa) : MM X a ta (mP fa) := by
  refine ⟨h.pe, fun io B ps ε ε' σ H d Q o q k => ?_⟩
  obtain ⟨z, q1, q2⟩ := Option.map_eq_some_iff.mp q
  cases q2
  exact h.so ε σ H d Q o.okR q1 fun v H' s n => k v B H' (Same.refl B) (o.new s n)
theorem mv_mm (h : MM X a ta ma) : MV X a ta ma := by
  refine ⟨h.pe, fun io B ps ε ε' σ H d Q o q k => ?_⟩
  refine h.so io B ps ε ε' σ H d Q o q fun v B' H' s o' => ?_
  obtain ⟨B2, s1, r, o2⟩ := o'.pin
  exact k v B2 H' (s.trans s1) o2 r
theorem mv_pf (h : PF X a ta fa) : MV X a ta (mP fa) := mv_mm (mm_pf h)
/-- a name's thing as an argument: it is lent, for good -/
def mLend (i : Nat) : FM := fun ε => match ε[i]? with
  | some (.ow d) => some (d, ε.set i (if frozen d then .ow d else .bo d))
  | some (.bo d) => some (d, ε)
  | _ => none
theorem mv_var (i : Nat) {x : Str} (hN : X.N[i]? = some x := by rfl) (hv : Vis X.env.scope x := by first | exact Or.inl rfl | exact Or.inr (Or.inl rfl) | exact Or.inr (Or.inr rfl)) (hd : (x == ("__debug__" : Str)) = false := by decide)
    (hcd : (x == ("__classdict__" : Str)) = false := by decide) : MV X (.Name x pos) (tVar i) (mLend i) := by
  refine ⟨pe_var hN hv hd hcd, fun io B ps ε ε' σ H d Q o q k => ?_⟩
  unfold mLend at q
  split at q
  · rename_i d' hs
    obtain ⟨v, hv⟩ := o.has i _ d' hs rfl
    have r : Rep X.K H v d' := o.own.rep (List.mem_append_right _ (slots_mem hs rfl hv))
    by_cases hf : frozen d' = true
    · simp only [hf, if_true, Option.some.injEq, Prod.mk.injEq] at q
      obtain ⟨rfl, rfl⟩ := q
      have e : ε.set i (.ow d') = ε := by
        refine List.ext_getElem? fun j => ?_
        by_cases hj : i = j
        · subst hj
          rw [List.getElem?_set_self (List.getElem?_eq_some_iff.mp hs).1, hs]
        · rw [List.getElem?_set_ne hj]
      rw [e] at k
      obtain ⟨B2, s1, r2, o2⟩ := (show Ok X.K io B ((v, d') :: ps) ε σ H from ⟨o.len, o.sm, o.own.frz r hf, o.has, o.bo, o.io1, o.io2⟩).pin
      exact ⟨v, hv, k v B2 H s1 o2 r2⟩
    · rw [if_neg hf] at q
      simp only [Option.some.injEq, Prod.mk.injEq] at q
      obtain ⟨rfl, rfl⟩ := q
      obtain ⟨B', s1, r', o'⟩ := o.lend hs hv
      exact ⟨v, hv, k v B' H s1 o' r'⟩
  · rename_i d' hs
    cases q
    obtain ⟨v, hv, r⟩ := o.bo i _ hs
    exact ⟨v, hv, k v B H (Same.refl B) o r⟩
  · cases q
/-- a name's thing given away -/
def mMove (i : Nat) : FM := fun ε => match ε[i]? with
  | some (.ow d) => some (d, ε.set i (if frozen d then .ow d else .no))
  | _ => none
theorem mm_move (i : Nat) {x : Str} (hN : X.N[i]? = some x := by rfl) (hv : Vis X.env.scope x := by first | exact Or.inl rfl | exact Or.inr (Or.inl rfl) | exact Or.inr (Or.inr rfl)) (hd : (x == ("__debug__" : Str)) = false := by decide)
    (hcd : (x == ("__classdict__" : Str)) = false := by decide) : MM X (.Name x pos) (tVar i) (mMove i) := by
  refine ⟨pe_var hN hv hd hcd, fun io B ps ε ε' σ H d Q o q k => ?_⟩
  unfold mMove at q
  split at q
  · rename_i d' hs
    obtain ⟨v, hv⟩ := o.has i _ d' hs rfl
    have r : Rep X.K H v d' := o.own.rep (List.mem_append_right _ (slots_mem hs rfl hv))
    by_cases hf : frozen d' = true
    · simp only [hf, if_true, Option.some.injEq, Prod.mk.injEq] at q
      obtain ⟨rfl, rfl⟩ := q
      have e : ε.set i (.ow d') = ε := by
        refine List.ext_getElem? fun j => ?_
        by_cases hj : i = j
        · subst hj
          rw [List.getElem?_set_self (List.getElem?_eq_some_iff.mp hs).1, hs]
        · rw [List.getElem?_set_ne hj]
      rw [e] at k
      exact ⟨v, hv, k v B H (Same.refl B) ⟨o.len, o.sm, o.own.frz r hf, o.has, o.bo, o.io1, o.io2⟩⟩
    · rw [if_neg hf] at q
      simp only [Option.some.injEq, Prod.mk.injEq] at q
      obtain ⟨rfl, rfl⟩ := q
      exact ⟨v, hv, k v B H (Same.refl B) (o.move hs hv)⟩
  · cases q
def m2 (g : D → D → Option D) (f h : FM) : FM := fun ε => (f ε).bind fun x => (h x.2).bind fun y => (g x.1 y.1).map fun z => (z, y.2)
theorem so_m2 {K : PySem.W.Frag} {r : R2} {g : D → D → Option D} (o : OpV K r g) (ha : MVo K ta ma) (hb : MVo K tb mb) : MMo K (tOp r ta tb) (m2 g ma mb) := by
  intro io B ps ε ε' σ H d Q ok q k
  obtain ⟨⟨x, ε1⟩, q1, q⟩ := bindSome q
  obtain ⟨⟨y, ε2⟩, q2, q⟩ := bindSome q
  obtain ⟨z, q3, q4⟩ := Option.map_eq_some_iff.mp q
  cases q4
  refine ha io B ps ε ε1 σ H x _ ok q1 fun v B1 H1 s1 o1 r1 => ?_
  refine hb io B1 ps ε1 _ σ H1 y _ o1 q2 fun u B2 H2 s2 o2 r2 => ?_
  exact o v u x y _ H2 Q ((r1.mono (smOf s2)).mono (smOf o2.sm)) (r2.mono (smOf o2.sm)) q3 fun w H3 s3 n => k w B2 H3 (s1.trans s2) (o2.new s3 n)
theorem mm_op {op : Operator} {r : R2} {g : D → D → Option D} (o : OpP X (binaryOp op) r g) (ha : MV X a ta ma) (hb : MV X b tb mb) : MM X (.BinOp a op b pos) (tOp r ta tb) (m2 g ma mb) := ⟨pe_op o.op ha.pe hb.pe, so_m2 o.v ha.so hb.so⟩
theorem mm_cmp {op : CmpOp} {r : R2} {g : D → D → Option D} (o : OpP X (compareOp op) r g) (ha : MV X a ta ma) (hb : MV X b tb mb) (hm : behindInMarks op b = false := by first | exact nomark _ | rfl) : MM X (.Compare a [op] [b] pos) (tOp r ta tb) (m2 g ma mb) :=
  ⟨pe_cmpR o.op ha.pe hb.pe hm, so_m2 o.v ha.so hb.so⟩
def m1 (g : D → Option D) (f : FM) : FM := fun ε => (f ε).bind fun x => (g x.1).map fun z => (z, x.2)
theorem mm_un {op : UnaryOp} {r : V → Hp → VK → Prop} {g : D → Option D} (o : UnP X (unaryOp op) r g) (ha : MV X a ta ma) : MM X (.UnaryOp op a pos) (tUn r ta) (m1 g ma) := by
  refine ⟨pe_un o.op ha.pe, fun io B ps ε ε' σ H d Q ok q k => ?_⟩
  obtain ⟨⟨x, ε1⟩, q1, q⟩ := bindSome q
  obtain ⟨z, q3, q4⟩ := Option.map_eq_some_iff.mp q
  cases q4
  refine ha.so io B ps ε _ σ H x _ ok q1 fun v B1 H1 s1 o1 r1 => ?_
  exact o.v v x _ H1 Q (r1.mono (smOf o1.sm)) q3 fun w H3 s3 n => k w B1 H3 s1 (o1.new s3 n)
def maNil : En → Option (List D × En) := fun ε => some ([], ε)
def maCons (f : FM) (g : En → Option (List D × En)) : En → Option (List D × En) := fun ε => (f ε).bind fun x => (g x.2).bind fun xs => some (x.1 :: xs.1, xs.2)
theorem ma_nil : MA X [] tNil maNil := ⟨pa_nil, fun io B ps ε ε' σ H d Q o q k => by cases q; exact k [] B H (Same.refl B) o .nil⟩
theorem ma_cons (ha : MV X a ta ma) (hr : MA X es t ms) (hs : starEach (a :: es) X.env = (false, eval a X.env) :: starEach es X.env := by rfl) : MA X (a :: es) (tCons ta t) (maCons ma ms) := by
  refine ⟨pa_cons ha.pe hr.pa hs, fun io B ps ε ε' σ H d Q ok q k => ?_⟩
  obtain ⟨⟨x, ε1⟩, q1, q⟩ := bindSome q
  obtain ⟨⟨xs, ε2⟩, q2, q⟩ := bindSome q
  cases q
  refine ha.so io B ps ε ε1 σ H x _ ok q1 fun v B1 H1 s1 o1 r1 => ?_
  exact hr.so io B1 ps ε1 _ σ H1 xs _ o1 q2 fun vs B2 H2 s2 o2 r2 => k _ B2 H2 (s1.trans s2) o2 (.cons (r1.mono (smOf s2)) r2)
def mCall (g : List D → Option D) (fs : En → Option (List D × En)) : FM := fun ε => (fs ε).bind fun x => (g x.1).map fun z => (z, x.2)
theorem so_mcall {K : PySem.W.Frag} {r : List V → Hp → VK → Prop} {g : List D → Option D} (o : CallV K r g) (ha : MAo K t ms) : MMo K (tCB r t) (mCall g ms) := by
  intro io B ps ε ε' σ H d Q ok q k
  obtain ⟨⟨x, ε1⟩, q1, q⟩ := bindSome q
  obtain ⟨z, q3, q4⟩ := Option.map_eq_some_iff.mp q
  cases q4
  refine ha io B ps ε _ σ H x _ ok q1 fun vs B1 H1 s1 o1 r1 => ?_
  exact o vs x _ H1 Q (r1.mono (smOf o1.sm)) q3 fun w H3 s3 n => k w B1 H3 s1 (o1.new s3 n)
theorem mm_cb {id : String} {r : List V → Hp → VK → Prop} {g : List D → Option D} (o : CallP X (.builtin id) r g) (hm : X.mg x = none) (ha : MA X (e :: es) t ms) (hg : Gl X x := by rfl) (hv : bootBuiltins x = some (.builtin id) := by decide +kernel) (hn : x ≠ "__name__" := by decide) (hdb : (x == ("__debug__" : Str)) = false := by decide)
    (he : starEach (e :: es) X.env = (false, eval e X.env) :: starEach es X.env := by rfl) (hpl : (backTo pos (starEach es X.env)).any (·.1) = false := by rfl) : MM X (.Call (.Name x p) (e :: es) [] pos) (tCB r t) (mCall g ms) :=
  ⟨pe_callB o.op hg hm hv ha.pa hn hdb he hpl, so_mcall o.v ha.so⟩
theorem mm_ct {T : String} {r : List V → Hp → VK → Prop} {g : List D → Option D} (o : CallP X (.type T) r g) (hm : X.mg x = none) (ha : MA X (e :: es) t ms) (hg : Gl X x := by rfl) (hv : bootBuiltins x = some (.type T) := by decide +kernel) (hn : x ≠ "__name__" := by decide) (hdb : (x == ("__debug__" : Str)) = false := by decide)
    (he : starEach (e :: es) X.env = (false, eval e X.env) :: starEach es X.env := by rfl) (hpl : (backTo pos (starEach es X.env)).any (·.1) = false := by rfl) : MM X (.Call (.Name x p) (e :: es) [] pos) (tCB r t) (mCall g ms) :=
  ⟨pe_callTy o.op hg hm hv ha.pa hn hdb he hpl, so_mcall o.v ha.so⟩
/-! tests -/
theorem mt_pt {f : En → Option Bool} (h : PTt X a tA f) : MT X a tA (mT f) := by
  refine ⟨h.pt, fun io B ps ε ε' σ H b Q o q k => ?_⟩
  obtain ⟨z, q1, q2⟩ := Option.map_eq_some_iff.mp q
  cases q2
  exact h.so ε σ H b Q o.okR q1 fun H' s => k B H' (Same.refl B) (o.same s)
def mTst (f : FM) : En → Option (Bool × En) := fun ε => (f ε).bind fun x => (toB x.1).map fun z => (z, x.2)
theorem so_mB {K : PySem.W.Frag} (h : MMo K ta ma) : MTo K (tB ta) (mTst ma) := by
  intro io B ps ε ε' σ H b Q o q k
  obtain ⟨⟨x, ε1⟩, q1, q⟩ := bindSome q
  obtain ⟨z, q3, q4⟩ := Option.map_eq_some_iff.mp q
  cases q4
  have := toB_some q3
  have this : x = .bool b := this
  subst this
  refine h io B ps ε _ σ H _ _ o q1 fun v B1 H1 s1 o1 => ?_
  have r := o1.own.rep (List.mem_cons_self)
  cases r
  exact ⟨b, rfl, k B1 H1 s1 o1.drop⟩
theorem mt_val (ha : MM X a ta ma) (he : ∀ whole, isTrue a X.env whole = (do let v ← whole; standAt a.pos; holding [v] (truthy v)) := by intro _; rfl) : MT X a (tB ta) (mTst ma) := ⟨pt_val ha.pe he, so_mB ha.so⟩
theorem mt_cmp {op : CmpOp} {r : R2} {g : D → D → Option D} (o : OpP X (compareOp op) r g) (ha : MV X a ta ma) (hb : MV X b tb mb) (hm : behindInMarks op b = false := by first | exact nomark _ | rfl) : MT X (.Compare a [op] [b] pos) (tTest (tOp r ta tb)) (mTst (m2 g ma mb)) :=
  ⟨pt_cmpR o.op ha.pe hb.pe hm, so_mB (ta := tOp r ta tb) (so_m2 o.v ha.so hb.so)⟩
def mNot (f : En → Option (Bool × En)) : En → Option (Bool × En) := fun ε => (f ε).map fun x => (!x.1, x.2)
def mAnd (f g : En → Option (Bool × En)) : En → Option (Bool × En) := fun ε => (f ε).bind fun x => if x.1 then g x.2 else some (false, x.2)
def mOr (f g : En → Option (Bool × En)) : En → Option (Bool × En) := fun ε => (f ε).bind fun x => if x.1 then some (true, x.2) else g x.2
theorem mt_not (ha : MT X a tA ga) : MT X (.UnaryOp .Not a pos) (tNot tA) (mNot ga) := by
  refine ⟨pt_not ha.pt, fun io B ps ε ε' σ H b Q o q k => ?_⟩
  obtain ⟨⟨x, ε1⟩, q1, q2⟩ := Option.map_eq_some_iff.mp q
  cases q2
  exact ha.so io B ps ε _ σ H x _ o q1 fun B1 H1 s1 o1 => k B1 H1 s1 o1
theorem MW.mt {f : En → Option (Bool × En)} (h : MW X a tA f) : MT X a tA f := ⟨h.pw.pt, h.so⟩
theorem mw_and1 (ha : MT X a tA ga) : MW X (.BoolOp .And [a] pos) tA ga := ⟨pw_and1 ha.pt, ha.so⟩
theorem mw_or1 (ha : MT X a tA ga) : MW X (.BoolOp .Or [a] pos) tA ga := ⟨pw_or1 ha.pt, ha.so⟩
theorem mw_and (ha : MT X a tA ga) (hb : MW X (.BoolOp .And (b :: rest) pos) tB' gb) : MW X (.BoolOp .And (a :: b :: rest) pos) (tAnd tA tB') (mAnd ga gb) := by
  refine ⟨pw_and ha.pt hb.pw, fun io B ps ε ε' σ H c Q o q k => ?_⟩
  obtain ⟨⟨x, ε1⟩, q1, q2⟩ := bindSome q
  refine ha.so io B ps ε ε1 σ H x _ o q1 fun B1 H1 s1 o1 => ?_
  cases x with
  | true => exact hb.so io B1 ps ε1 ε' σ H1 c Q o1 q2 fun B2 H2 s2 o2 => k B2 H2 (s1.trans s2) o2
  | false =>
    cases q2
    exact k B1 H1 s1 o1
theorem mw_or (ha : MT X a tA ga) (hb : MW X (.BoolOp .Or (b :: rest) pos) tB' gb) : MW X (.BoolOp .Or (a :: b :: rest) pos) (tOr tA tB') (mOr ga gb) := by
  refine ⟨pw_or ha.pt hb.pw, fun io B ps ε ε' σ H c Q o q k => ?_⟩
  obtain ⟨⟨x, ε1⟩, q1, q2⟩ := bindSome q
  refine ha.so io B ps ε ε1 σ H x _ o q1 fun B1 H1 s1 o1 => ?_
  cases x with
  | false => exact hb.so io B1 ps ε1 ε' σ H1 c Q o1 q2 fun B2 H2 s2 o2 => k B2 H2 (s1.trans s2) o2
  | true =>
    cases q2
    exact k B1 H1 s1 o1
/-! as values -/
def mAndV (f g : FM) : FM := fun ε => (f ε).bind fun x => (toB x.1).bind fun c => if c then g x.2 else some (.bool false, x.2)
def mOrV (f g : FM) : FM := fun ε => (f ε).bind fun x => (toB x.1).bind fun c => if c then some (.bool true, x.2) else g x.2
def mIf (c : En → Option (Bool × En)) (f g : FM) : FM := fun ε => (c ε).bind fun x => if x.1 then f x.2 else g x.2
theorem mm_one {op : BoolOp} (ha : MM X a ta ma) : MM X (.BoolOp op [a] pos) ta ma := ⟨pe_one ha.pe, ha.so⟩
theorem mm_and (ha : MM X a ta ma) (hb : MM X (.BoolOp .And (b :: rest) pos) tb mb) : MM X (.BoolOp .And (a :: b :: rest) pos) (tAndV ta tb) (mAndV ma mb) := by
  refine ⟨pe_and ha.pe hb.pe, fun io B ps ε ε' σ H d Q o q k => ?_⟩
  obtain ⟨⟨x, ε1⟩, q1, q⟩ := bindSome q
  obtain ⟨c, q2, qq⟩ := bindSome q
  have this : x = .bool c := toB_some q2
  subst this
  refine ha.so io B ps ε ε1 σ H _ _ o q1 fun v B1 H1 s1 o1 => ?_
  have r := o1.own.rep (List.mem_cons_self)
  cases r
  refine ⟨c, rfl, ?_⟩
  cases c with
  | true => exact hb.so io B1 ps ε1 ε' σ H1 d Q o1.drop qq fun w B2 H2 s2 o2 => k w B2 H2 (s1.trans s2) o2
  | false =>
    cases qq
    exact k _ B1 H1 s1 (o1.drop.new (Same.refl H1) newBl)
theorem mm_or (ha : MM X a ta ma) (hb : MM X (.BoolOp .Or (b :: rest) pos) tb mb) : MM X (.BoolOp .Or (a :: b :: rest) pos) (tOrV ta tb) (mOrV ma mb) := by
  refine ⟨pe_or ha.pe hb.pe, fun io B ps ε ε' σ H d Q o q k => ?_⟩
  obtain ⟨⟨x, ε1⟩, q1, q⟩ := bindSome q
  obtain ⟨c, q2, qq⟩ := bindSome q
  have this : x = .bool c := toB_some q2
  subst this
  refine ha.so io B ps ε ε1 σ H _ _ o q1 fun v B1 H1 s1 o1 => ?_
  have r := o1.own.rep (List.mem_cons_self)
  cases r
  refine ⟨c, rfl, ?_⟩
  cases c with
  | false => exact hb.so io B1 ps ε1 ε' σ H1 d Q o1.drop qq fun w B2 H2 s2 o2 => k w B2 H2 (s1.trans s2) o2
  | true =>
    cases qq
    exact k _ B1 H1 s1 (o1.drop.new (Same.refl H1) newBl)
theorem mm_if (hc : MT X c tA ga) (ha : MM X a ta ma) (hb : MM X b tb mb) : MM X (.IfExp c a b pos) (tIf tA ta tb) (mIf ga ma mb) := by
  refine ⟨pe_ifExp hc.pt ha.pe hb.pe, fun io B ps ε ε' σ H d Q o q k => ?_⟩
  obtain ⟨⟨x, ε1⟩, q1, q2⟩ := bindSome q
  refine hc.so io B ps ε ε1 σ H x _ o q1 fun B1 H1 s1 o1 => ?_
  cases x with
  | true => exact ha.so io B1 ps ε1 ε' σ H1 d Q o1 q2 fun w B2 H2 s2 o2 => k w B2 H2 (s1.trans s2) o2
  | false => exact hb.so io B1 ps ε1 ε' σ H1 d Q o1 q2 fun w B2 H2 s2 o2 => k w B2 H2 (s1.trans s2) o2
/-! subscripts: a value without lists -/
def gFrz (g : D → D → Option D) : D → D → Option D := fun x y => (g x y).bind fun d => if frozen d then some d else none
theorem mm_ix {K : PySem.W.Frag} (ha : MV X a ta ma) (hb : MV X b tb mb) (hs : PlainIx b := by exact fun _ _ => rfl) (hK : X.K = K := by rfl) : MM X (.Subscript a b pos) (tOp (rIx K) ta tb) (m2 (gFrz gIx) ma mb) := by
  subst hK
  refine ⟨pe_ix ix_seq ha.pe hb.pe hs, fun io B ps ε ε' σ H d Q o q k => ?_⟩
  obtain ⟨⟨x, ε1⟩, q1, q⟩ := bindSome q
  obtain ⟨⟨y, ε2⟩, q2, q⟩ := bindSome q
  obtain ⟨z, q3, q4⟩ := Option.map_eq_some_iff.mp q
  cases q4
  obtain ⟨d', q5, q6⟩ := bindSome q3
  split at q6
  · rename_i hf
    cases q6
    refine ha.so io B ps ε ε1 σ H x _ o q1 fun v B1 H1 s1 o1 r1 => ?_
    refine hb.so io B1 ps ε1 _ σ H1 y _ o1 q2 fun u B2 H2 s2 o2 r2 => ?_
    have r1 := (r1.mono (smOf s2)).mono (smOf o2.sm)
    have fin : ∀ w, Rep X.K H2 w d → Q w H2 := fun w rw' => k w B2 H2 (s1.trans s2) (o2.new (Same.refl H2) (New.frz rw' hf))
    have q5 : gIx x y = some d := q5
    unfold gIx at q5
    split at q5
    · cases r2
      cases r1 with
      | lst h r =>
        obtain ⟨w, hw, rw'⟩ := atRep r q5
        exact .inl ⟨_, _, _, w, rfl, rfl, SqL.of h, hw, fin w rw'⟩
    · cases r2
      cases r1 with
      | tup h r =>
        obtain ⟨w, hw, rw'⟩ := atRep r q5
        exact .inr (.inl ⟨_, _, _, w, rfl, rfl, h, hw, fin w rw'⟩)
    · cases r2
      cases r1
      split at q5
      · rename_i hl
        obtain ⟨c, hc, rfl⟩ := Option.map_eq_some_iff.mp q5
        exact .inr (.inr ⟨_, _, c, rfl, rfl, cap_le hl, hc, fin _ (.str _)⟩)
      · cases q5
    · cases q5
  · cases q6
end
end Pd

set_option Elab.async false
set_option linter.all false
set_option maxRecDepth 100000
set_option maxHeartbeats 4000000
/-! Pd8: statements, calls of defs, bodies. -/
namespace Pd
open PySem PySem.Spec PyProof.Rows L2

def onSome {α : Type} (o : Option α) (P : α → Prop) : Prop := match o with
  | some a => P a
  | none => False
theorem onSome_some {α : Type} {a : α} {P : α → Prop} : onSome (some a) P = P a := rfl
theorem onSome_none {α : Type} {P : α → Prop} : onSome none P = False := rfl
theorem onSome_of {α : Type} {o : Option α} {P : α → Prop} (h : onSome o P) : ∃ a, o = some a ∧ P a := by
  cases o with
  | none => exact h.elim
  | some a => exact ⟨a, rfl, h⟩

/-! ### what is wanted behind a statement -/
structure SE where
  nx : En → Prop
  rt : D → En → Prop
  bk : En → Prop
  ct : En → Prop
abbrev FS := SE → En → Prop
structure RelE (K : PySem.W.Frag) (io : Option (Nat × V)) (B : Hp) (S : SE) (D' : Ends) : Prop where
  nx : ∀ (B' : Hp) (ε : En) (σ : L2.St) (H : Hp), Same B B' → Ok K io B' [] ε σ H → S.nx ε → D'.nx σ H
  rt : ∀ (B' : Hp) (v : V) (d : D) (ε : En) (σ : L2.St) (H : Hp), Same B B' → Ok K io B' [(v, d)] ε σ H → S.rt d ε → D'.rt v H
  bk : ∀ (B' : Hp) (ε : En) (σ : L2.St) (H : Hp), Same B B' → Ok K io B' [] ε σ H → S.bk ε → D'.bk σ H
  ct : ∀ (B' : Hp) (ε : En) (σ : L2.St) (H : Hp), Same B B' → Ok K io B' [] ε σ H → S.ct ε → D'.ct σ H
theorem RelE.mono {K : PySem.W.Frag} {io : Option (Nat × V)} {B B' : Hp} {S : SE} {D' : Ends} (r : RelE K io B S D') (e : Same B B') : RelE K io B' S D' :=
  ⟨fun B2 ε σ H s => r.nx B2 ε σ H (e.trans s), fun B2 v d ε σ H s => r.rt B2 v d ε σ H (e.trans s), fun B2 ε σ H s => r.bk B2 ε σ H (e.trans s), fun B2 ε σ H s => r.ct B2 ε σ H (e.trans s)⟩
def SSo (K : PySem.W.Frag) (t : TS) (s : FS) : Prop := ∀ (io : Option (Nat × V)) (B : Hp) (ε : En) (σ : L2.St) (H : Hp) (S : SE) (D' : Ends), Ok K io B [] ε σ H → RelE K io B S D' → s S ε → t D' σ H
structure SS (X : Cx) (st : Stmt) (t : TS) (s : FS) : Prop where
  ps : PS X st t
  so : SSo X.K t s
structure SSs (X : Cx) (st : List Stmt) (t : TS) (s : FS) : Prop where
  ps : PSs X st t
  so : SSo X.K t s
section
variable {X : Cx} {st : Stmt} {rest : List Stmt} {t u : TS} {s r : FS} {e : Expr} {te : TE} {m : FM} {pos pos' : Pos}
def sNext : FS := fun S ε => S.nx ε
def sSeq (s r : FS) : FS := fun S ε => s { S with nx := r S } ε
theorem ss_nil : SSs X [] tNext sNext := ⟨pss_nil, fun io B ε σ H S D' o re h => re.nx B ε σ H (Same.refl B) o h⟩
theorem ss_cons (h1 : SS X st t s) (h2 : SSs X rest u r) : SSs X (st :: rest) (tSeq t u) (sSeq s r) := by
  refine ⟨pss_cons h1.ps h2.ps, fun io B ε σ H S D' o re h => ?_⟩
  exact h1.so io B ε σ H { S with nx := r S } { D' with nx := u D' } o ⟨fun B' ε' σ' H' sm o' q => h2.so io B' ε' σ' H' S D' o' (re.mono sm) q, re.rt, re.bk, re.ct⟩ h
theorem ss_one (h1 : SS X st t s) : SSs X [st] t s := ⟨pss_one h1.ps, h1.so⟩
theorem ss_pass : SS X (.Pass pos) tNext sNext := ⟨ps_pass, fun io B ε σ H S D' o re h => re.nx B ε σ H (Same.refl B) o h⟩
def sBreak : FS := fun S ε => S.bk ε
def sCont : FS := fun S ε => S.ct ε
def sNever : FS := fun _ _ => False
theorem ss_break : SS X (.Break pos) tBreak sBreak := ⟨ps_break, fun io B ε σ H S D' o re h => re.bk B ε σ H (Same.refl B) o h⟩
theorem ss_continue : SS X (.Continue pos) tCont sCont := ⟨ps_continue, fun io B ε σ H S D' o re h => re.ct B ε σ H (Same.refl B) o h⟩
theorem ss_never : SS X st tNever sNever := ⟨ps_never, fun io B ε σ H S D' o re h => h⟩
theorem ss_doc {x j} : SS X (.Expr (.Constant (.str x) j pos) pos') tNext sNext := ⟨ps_doc, fun io B ε σ H S D' o re h => re.nx B ε σ H (Same.refl B) o h⟩
def sExpr (m : FM) : FS := fun S ε => onSome (m ε) fun x => S.nx x.2
theorem ss_expr (he : MM X e te m) (hs : swapsWith e none pos.line X.env = pure false := by rfl) : SS X (.Expr e pos) (tDrop te) (sExpr m) := by
  refine ⟨ps_expr he.pe hs, fun io B ε σ H S D' o re h => ?_⟩
  obtain ⟨⟨d, ε1⟩, q, h⟩ := onSome_of h
  exact he.so io B [] ε ε1 σ H d _ o q fun v B1 H1 s1 o1 => re.nx B1 ε1 σ H1 s1 o1.drop h
def sRet (m : FM) : FS := fun S ε => onSome (m ε) fun x => S.rt x.1 x.2
theorem ss_ret (he : MM X e te m) : SS X (.Return (some e) pos) (tRet te) (sRet m) := by
  refine ⟨ps_ret he.pe, fun io B ε σ H S D' o re h => ?_⟩
  obtain ⟨⟨d, ε1⟩, q, h⟩ := onSome_of h
  exact he.so io B [] ε ε1 σ H d _ o q fun v B1 H1 s1 o1 => re.rt B1 v d ε1 σ H1 s1 o1 h
def sRetN : FS := fun S ε => S.rt .none ε
theorem ss_retN : SS X (.Return none pos) tRetN sRetN := ⟨ps_retN, fun io B ε σ H S D' o re h => re.rt B .non .none ε σ H (Same.refl B) (o.new (Same.refl H) newNon) h⟩
def sIf (c : En → Option (Bool × En)) (a b : FS) : FS := fun S ε => onSome (c ε) fun x => if x.1 then a S x.2 else b S x.2
theorem ss_if {c : Expr} {a b : List Stmt} {tc : TT} {mc : En → Option (Bool × En)} (hc : MT X c tc mc) (ha : SSs X a t s) (hb : SSs X b u r) : SS X (.If c a b pos) (tIfS tc t u) (sIf mc s r) := by
  refine ⟨ps_if hc.pt ha.ps hb.ps, fun io B ε σ H S D' o re h => ?_⟩
  obtain ⟨⟨c, ε1⟩, q, h⟩ := onSome_of h
  refine hc.so io B [] ε ε1 σ H c _ o q fun B1 H1 s1 o1 => ?_
  cases c with
  | true => exact ha.so io B1 ε1 σ H1 S D' o1 (re.mono s1) h
  | false => exact hb.so io B1 ε1 σ H1 S D' o1 (re.mono s1) h
def sSet (i : Nat) (m : FM) : FS := fun S ε => onSome (m ε) fun x => notIo x.2[i]? = true ∧ S.nx (x.2.set i (.ow x.1))
theorem so_set {K : PySem.W.Frag} {i : Nat} (he : MMo K te m) : SSo K (tAsg te (gName i)) (sSet i m) := by
  intro io B ε σ H S D' o re h
  obtain ⟨⟨d, ε1⟩, q, hn, h⟩ := onSome_of h
  exact he io B [] ε ε1 σ H d _ o q fun v B1 H1 s1 o1 => re.nx B1 _ _ H1 s1 (o1.put hn) h
theorem ss_set {i : Nat} {x : Str} (hN : X.N.Nodup) (he : MM X e te m) (hi : X.N[i]? = some x := by rfl) (hx : Loc X.env.scope x := by first | exact Or.inl rfl | exact Or.inr rfl) (hs : swapsWith e (some (.Name x pos')) pos.line X.env = pure false := by rfl) (hf : X.fn x = true ∨ X.env.scope.names.lookup x = some .local := by first | exact .inl rfl | exact .inr rfl | assumption) :
    SS X (.Assign [.Name x pos'] e pos) (tAsg te (gName i)) (sSet i m) := ⟨ps_set hN hi hx he.pe hs hf, so_set he.so⟩
/-! y = [..] on one line, y a local -/
theorem ss_setLc {i : Nat} {y : Str} {py spos : Pos} {elt tg iter : Expr} {ifs : List Expr} {scope : Scope} {own : List (Str × Nat)} {wi : TI} {g : TG} {tt : TT} {tee : TE} {it : En → Option (List D)} {b : Bd} {ft : En → Option Bool} {fe : FE} (hN : X.N.Nodup) (hi : PIt X tg iter wi it) (ok : BlkOk X.N X.env.scope scope own)
    (hg : ∀ (s : Shared) (H : Hp) (C : Addr) (cl : List (Str × Addr)) (fp : List Addr), PGt (X.blk s H scope (compEnvC scope cl C X.env) fp) tg g (own.map (·.2)) b)
    (ht : ∀ (s : Shared) (H : Hp) (C : Addr) (cl : List (Str × Addr)) (fp : List Addr), PTs' (X.blk s H scope (compEnvC scope cl C X.env) fp) ifs tt ft)
    (he : ∀ (s : Shared) (H : Hp) (C : Addr) (cl : List (Str × Addr)) (fp : List Addr), PF (X.blk s H scope (compEnvC scope cl C X.env) fp) elt tee fe)
    (hsw : swapsWith (.ListComp elt [⟨tg, iter, ifs, 0⟩] scope pos) (some (.Name y py)) spos.line X.env = pure true) (hy : X.N[i]? = some y := by rfl) (hyl : X.env.scope.names.lookup y = some .local := by rfl) (hc : X.calm = true := by rfl) (hs : ∀ x, foldedSetIterable iter X.env x = pure x := by intro _; rfl) :
    SS X (.Assign [.Name y py] (.ListComp elt [⟨tg, iter, ifs, 0⟩] scope pos) spos) (tAsg (tLc wi g tt tee (own.map (·.2))) (gName i)) (sSet i (mP (eLc (own.map (·.2)) it b ft fe))) := by
  refine ⟨ps_setLc hc hN hy hyl hsw hi.pi ok (fun s H C cl fp => (hg s H C cl fp).pg) (fun s H C cl fp => (ht s H C cl fp).pt) (fun s H C cl fp => (he s H C cl fp).pe) hs, so_set ?_⟩
  have q := so_lc hi.so (hg {} (fun _ => none) (0 : Nat) [] []).so (ht {} (fun _ => none) (0 : Nat) [] []).so (he {} (fun _ => none) (0 : Nat) [] []).so
  intro io B ps ε ε' σ H d Q o h k
  obtain ⟨z, q1, q2⟩ := Option.map_eq_some_iff.mp h
  cases q2
  exact q ε σ H d Q o.okR q1 fun v H' s n => k v B H' (Same.refl B) (o.new s n)

/-! a, b = e1, e2 with plain local names -/
def sPar (i j : Nat) (f g : FM) : FS := fun S ε => onSome (f ε) fun x => onSome (g x.2) fun y => notIo y.2[j]? = true ∧ notIo (y.2.set j (.ow y.1))[i]? = true ∧ S.nx ((y.2.set j (.ow y.1)).set i (.ow x.1))
theorem ss_par {i j : Nat} {x y : Str} {a b : Expr} {ta tb : TE} {ma mb : FM} {px py pt : Pos} {kt k2 pt2} (hN : X.N.Nodup) (ha : MM X a ta ma) (hb : MM X b tb mb) (hij : i ≠ j := by decide) (hi : X.N[i]? = some x := by rfl) (hj : X.N[j]? = some y := by rfl) (hc : X.calm = true := by rfl)
    (hx : X.env.scope.names.lookup x = some .local := by rfl) (hy : X.env.scope.names.lookup y = some .local := by rfl) (hs1 : starEach [a, b] X.env = (false, eval a X.env) :: starEach [b] X.env := by rfl) (hs2 : starEach [b] X.env = (false, eval b X.env) :: starEach [] X.env := by rfl)
    (hw : swappedStores [.Tuple [.Name x px, .Name y py] kt pt] (.Tuple [a, b] k2 pt2) X.env = pure (some [x, y]) := by rfl)
    (hs : swapsWithSole [.Tuple [.Name x px, .Name y py] kt pt] (.Tuple [a, b] k2 pt2) pos.line X.env = pure false := by rfl) :
    SS X (.Assign [.Tuple [.Name x px, .Name y py] kt pt] (.Tuple [a, b] k2 pt2) pos) (tPar i j (tCons ta (tCons tb tNil))) (sPar i j ma mb) := by
  refine ⟨ps_par hc hN hi hj hij hx hy (pa_cons ha.pe (pa_cons hb.pe pa_nil hs2) hs1) hw hs, fun io B ε σ H S D' o re h => ?_⟩
  obtain ⟨⟨d, ε1⟩, q, h⟩ := onSome_of h
  obtain ⟨⟨d2, ε2⟩, q2, n1, n2, h⟩ := onSome_of h
  refine ha.so io B [] ε ε1 σ H d _ o q fun v B1 H1 s1 o1 => ?_
  refine hb.so io B1 _ ε1 ε2 σ H1 d2 _ o1 q2 fun w B2 H2 s2 o2 => ?_
  refine ⟨v, w, rfl, ?_⟩
  rw [List.set_comm _ _ hij]
  exact re.nx B2 _ _ H2 (s1.trans s2) ((o2.put n1).put n2) h

/-! targets that are owned; targets of the base -/
def MGo (K : PySem.W.Frag) (g : TG) (b : Bd) : Prop := ∀ (io : Option (Nat × V)) (B : Hp) (ps : List (V × D)) (ε ε' : En) (σ : L2.St) (H : Hp) (v : V) (d : D) (Q : L2.St → Hp → Prop), Ok K io B ((v, d) :: ps) ε σ H → b d ε = some ε' → (∀ σ' H', Ok K io B ps ε' σ' H' → Q σ' H') → g v σ H Q
structure MG (X : Cx) (tg : Expr) (g : TG) (b : Bd) : Prop where
  pg : PG X tg g
  so : MGo X.K g b
def mbName (i : Nat) : Bd := fun d ε => if notIo ε[i]? then some (ε.set i (.ow d)) else none
theorem mg_name (i : Nat) {x : Str} (hN : X.N.Nodup) (hi : X.N[i]? = some x := by rfl) (hx : Loc X.env.scope x := by first | exact Or.inl rfl | exact Or.inr rfl) (hf : X.fn x = true ∨ X.env.scope.names.lookup x = some .local := by first | exact .inl rfl | exact .inr rfl | assumption) :
    MG X (.Name x pos) (gName i) (mbName i) := by
  refine ⟨pg_name hN hi hx hf, fun io B ps ε ε' σ H v d Q o q k => ?_⟩
  unfold mbName at q
  split at q
  · rename_i hn
    cases q
    exact k _ _ (o.put hn)
  · cases q
def MGso (K : PySem.W.Frag) (g : TGs) (b : Bds) : Prop := ∀ (io : Option (Nat × V)) (B : Hp) (ps : List (V × D)) (ε ε' : En) (σ : L2.St) (H : Hp) (vs : List V) (ds : List D) (Q : L2.St → Hp → Prop), vs.length = ds.length → Ok K io B (vs.zip ds ++ ps) ε σ H → b ds ε = some ε' → (∀ σ' H', Ok K io B ps ε' σ' H' → Q σ' H') → g vs σ H Q
structure MGs (X : Cx) (ts : List Expr) (g : TGs) (b : Bds) : Prop where
  pg : PGs X ts g
  so : MGso X.K g b
theorem mgs_nil : MGs X [] gNil bNil := by
  refine ⟨pgs_nil, fun io B ps ε ε' σ H vs ds Q hl o q k => ?_⟩
  cases ds with
  | nil =>
    cases q
    have : vs = [] := List.eq_nil_of_length_eq_zero (by simpa using hl)
    subst this
    exact ⟨rfl, k σ H o⟩
  | cons _ _ => cases q
theorem mgs_cons {tg : Expr} {ts : List Expr} {g : TG} {gs : TGs} {b : Bd} {bs : Bds} (h1 : MG X tg g b) (h2 : MGs X ts gs bs) (hs : (assignEach (tg :: ts) X.env).map (·.2) = assign tg X.env :: (assignEach ts X.env).map (·.2) := by rfl) : MGs X (tg :: ts) (gCons g gs) (bCons b bs) := by
  refine ⟨pgs_cons h1.pg h2.pg hs, fun io B ps ε ε' σ H vs ds Q hl o q k => ?_⟩
  cases ds with
  | nil => cases q
  | cons d ds =>
    cases vs with
    | nil => simp at hl
    | cons v vs =>
      obtain ⟨ε1, q1, q⟩ := bindSome q
      exact ⟨v, vs, rfl, h1.so io B _ ε ε1 σ H v d _ o q1 fun σ1 H1 o1 => h2.so io B ps ε1 ε' σ1 H1 vs ds Q (by simpa using hl) o1 q k⟩
theorem RpL.toP {K : PySem.W.Frag} {H : Hp} : ∀ {vs : List V} {ds : List D} {fp : List Addr}, RpL K H vs ds fp → RpP K H (vs.zip ds) fp
  | _, _, _, .nil => .nil
  | _, _, _, .cons r t => .cons r t.toP
theorem RpP.append {K : PySem.W.Frag} {H : Hp} {L L' : List (V × D)} {f g : List Addr} (a : RpP K H L f) (b : RpP K H L' g) : RpP K H (L ++ L') (f ++ g) := by
  induction a with
  | nil => exact b
  | cons r t ih => rw [List.append_assoc]; exact .cons r ih
theorem Owns.open_ {K : PySem.W.Frag} {H B : Hp} {L : List (V × D)} {v : V} {ds : List D} (o : Owns K H B ((v, .tuple ds) :: L)) : ∃ a xs, v = .ref a ∧ SqT K H a xs ∧ xs.length = ds.length ∧ Owns K H B (xs.zip ds ++ L) := by
  obtain ⟨fp, r, nd, f⟩ := o
  cases r with
  | cons r t =>
    cases r with
    | tup h1 r => exact ⟨_, _, rfl, h1, r.length, _, r.toP.append t, nd, f⟩
theorem Ok.open_ {K : PySem.W.Frag} {io : Option (Nat × V)} {B H : Hp} {ps : List (V × D)} {ε : En} {σ : L2.St} {v : V} {ds : List D} (o : Ok K io B ((v, .tuple ds) :: ps) ε σ H) : ∃ a xs, v = .ref a ∧ SqT K H a xs ∧ xs.length = ds.length ∧ Ok K io B (xs.zip ds ++ ps) ε σ H := by
  obtain ⟨a, xs, h1, h2, h3, h4⟩ := Owns.open_ o.own
  exact ⟨a, xs, h1, h2, h3, o.len, o.sm, by rw [List.append_assoc]; exact h4, o.has, o.bo, o.io1, o.io2⟩
theorem mg_tup {K : PySem.W.Frag} {es : List Expr} {k : Nat} {g : TGs} {n : Nat} {bs : Bds} (h : MGs X es g bs) (hl : ∀ (ds : List D) (ε ε' : En), bs ds ε = some ε' → ds.length = n) (hc : X.calm = true := by rfl)
    (hn : (assignEach es X.env).length = n := by rfl) (hst : (assignEach es X.env).findIdx? (·.1) = none := by rfl) (hK : X.K = K := by rfl) : MG X (.Tuple es k pos) (gTup K n g) (bTup bs) := by
  subst hK
  refine ⟨pg_tup hc h.pg hn hst, fun io B ps ε ε' σ H v d Q o q k => ?_⟩
  cases d with
  | tuple ds =>
    obtain ⟨a, xs, rfl, h2, h3, o'⟩ := o.open_
    exact ⟨a, xs, rfl, h2, by rw [h3]; exact hl _ _ _ q, h.so io B ps ε ε' σ H xs ds Q h3 o' q k⟩
  | _ => cases q
def sAsg (b : Bd) (m : FM) : FS := fun S ε => onSome (m ε) fun x => onSome (b x.1 x.2) fun ε' => S.nx ε'
theorem ss_asg {tg : Expr} {g : TG} {b : Bd} (he : MM X e te m) (hg : MG X tg g b) (hs : swapsWithSole [tg] e pos.line X.env = pure false := by rfl) (hw : swappedStores [tg] e X.env = pure none := by rfl)
    (h1 : (assignEach [tg] X.env).map (·.2) = [assign tg X.env] := by rfl) : SS X (.Assign [tg] e pos) (tAsg te g) (sAsg b m) := by
  refine ⟨ps_asg he.pe hg.pg hs hw h1, fun io B ε σ H S D' o re h => ?_⟩
  obtain ⟨⟨d, ε1⟩, q, h⟩ := onSome_of h
  obtain ⟨ε2, q2, h⟩ := onSome_of h
  exact he.so io B [] ε ε1 σ H d _ o q fun v B1 H1 s1 o1 => hg.so io B1 [] ε1 ε2 σ H1 v d _ o1 q2 fun σ' H2 o2 => re.nx B1 ε2 σ' H2 s1 o2 h
/-! name op= int -/
def gAddI : D → D → Option D := gI2 (fun _ _ => true) fun i j => i + j
structure IpP (X : Cx) (op : Operator) (r : TIp) (g : D → D → Option D) : Prop where
  ip : PIp X op r
  v : OpV X.K r g
theorem i_add : IpP X .Add (ipI fun i j => i + j) gAddI := ⟨ip_add, fun x y d e z H Q r1 r2 q k => by
  cases r1 with
  | int i =>
    cases r2 with
    | int j => cases q; exact ⟨i, j, rfl, rfl, k _ H (Same.refl H) newInt⟩
    | _ => cases q
  | _ => cases r2 <;> cases q⟩
theorem i_sub : IpP X .Sub (ipI fun i j => i - j) gSub := ⟨ip_sub, fun x y d e z H Q r1 r2 q k => by
  cases r1 with
  | int i =>
    cases r2 with
    | int j => cases q; exact ⟨i, j, rfl, rfl, k _ H (Same.refl H) newInt⟩
    | _ => cases q
  | _ => cases r2 <;> cases q⟩
def sAug (i : Nat) (g : D → D → Option D) (m : FM) : FS := fun S ε => onSome (get ε i) fun x => frozen x = true ∧ onSome (m ε) fun y => onSome (g x y.1) fun z => notIo y.2[i]? = true ∧ S.nx (y.2.set i (.ow z))
theorem ss_aug {i : Nat} {x : Str} {op : Operator} {r : TIp} {g : D → D → Option D} (hN : X.N.Nodup) (ho : IpP X op r g) (he : MV X e te m) (hi : X.N[i]? = some x := by rfl) (hx : Loc X.env.scope x := by first | exact Or.inl rfl | exact Or.inr rfl) (hf : X.fn x = true ∨ X.env.scope.names.lookup x = some .local := by first | exact .inl rfl | exact .inr rfl | assumption) :
    SS X (.AugAssign (.Name x pos') op e pos) (tAug i te r) (sAug i g m) := by
  refine ⟨ps_aug hN hi hx he.pe ho.ip hf, fun io B ε σ H S D' o re h => ?_⟩
  obtain ⟨x0, q0, hz, h⟩ := onSome_of h
  obtain ⟨⟨d, ε1⟩, q, h⟩ := onSome_of h
  obtain ⟨z, q2, hn, h⟩ := onSome_of h
  obtain ⟨v, hv, rv⟩ := o.okR.at_ i x0 q0
  obtain ⟨B0, s0, r0, o0⟩ := (show Ok X.K io B [(v, x0)] ε σ H from ⟨o.len, o.sm, o.own.frz rv hz, o.has, o.bo, o.io1, o.io2⟩).pin
  refine ⟨v, hv, he.so io B0 [] ε ε1 σ H d _ o0 q fun w B1 H1 s1 o1 r1 => ?_⟩
  exact ho.v v w x0 d z H1 _ ((r0.mono (smOf s1)).mono (smOf o1.sm)) (r1.mono (smOf o1.sm)) q2 fun u H2 s2 n => re.nx B1 _ _ H2 (s0.trans s1) ((o1.new s2 n).put hn) h

/-! ### while, for -/
def whM (c : En → Option (Bool × En)) (body : FS) : Nat → SE → En → Prop
  | 0, _, _ => False
  | n + 1, S, ε => onSome (c ε) fun x => if x.1 then body { S with nx := whM c body n S, ct := whM c body n S, bk := S.nx } x.2 else S.nx x.2
def sWhile (c : En → Option (Bool × En)) (body : FS) : FS := fun S ε => ∃ n, whM c body n S ε
theorem ss_while {c : Expr} {body : List Stmt} {tc : TT} {mc : En → Option (Bool × En)} (hc : MT X c tc mc) (hb : SSs X body t s) (hp : PassesOwn (model X.prog X.w) X.A X.env X.xe := by exact PassesOwn.never) : SS X (.While c body [] pos) (tWhile tc t) (sWhile mc s) := by
  refine ⟨ps_while hp hc.pt hb.ps, fun io B ε σ H S D' o re ⟨n0, h0⟩ => ?_⟩
  refine ⟨fun n σ' H' => ∃ B' ε', Same B B' ∧ Ok X.K io B' [] ε' σ' H' ∧ whM mc s n S ε', ⟨n0, B, ε, Same.refl B, o, h0⟩, ?_⟩
  rintro n σ1 H1 ⟨B1, ε1, s1, o1, h⟩
  cases n with
  | zero => exact h.elim
  | succ n =>
    obtain ⟨⟨b, ε2⟩, q, h⟩ := onSome_of h
    refine hc.so io B1 [] ε1 ε2 σ1 H1 b _ o1 q fun B2 H2 s2 o2 => ?_
    cases b with
    | true =>
      rw [if_pos rfl] at h ⊢
      refine ⟨fun σ' H' => ∃ B' ε', Same B B' ∧ Ok X.K io B' [] ε' σ' H' ∧ whM mc s n S ε', fun σ' H' w => ⟨n, Nat.lt_succ_self n, w⟩, ?_⟩
      have re2 := re.mono (s1.trans s2)
      exact hb.so io B2 ε2 σ1 H2 { S with nx := whM mc s n S, ct := whM mc s n S, bk := S.nx } _ o2 ⟨fun B' ε' σ' H' e o' q => ⟨B', ε', (s1.trans s2).trans e, o', q⟩, re2.rt, re2.nx, fun B' ε' σ' H' e o' q => ⟨B', ε', (s1.trans s2).trans e, o', q⟩⟩ h
    | false =>
      rw [if_neg Bool.false_ne_true] at h ⊢
      exact re.nx B2 ε2 σ1 H2 (s1.trans s2) o2 h

/-! what a for walks -/
def MIo (K : PySem.W.Frag) (wi : TI) (f : En → Option (List D × En)) : Prop := ∀ (io : Option (Nat × V)) (B : Hp) (ps : List (V × D)) (ε ε' : En) (σ : L2.St) (H : Hp) (ds : List D) (R : It → Hp → Prop), Ok K io B ps ε σ H → f ε = some (ds, ε') →
  (∀ J B' H', Same B B' → Ok K io B' ps ε' σ H' → WD K B' J ds → R J H') → wi σ H R
structure MI (X : Cx) (tg e : Expr) (wi : TI) (f : En → Option (List D × En)) : Prop where
  pi : PI X tg e wi
  so : MIo X.K wi f
def miOf (gi : List D → Option (List D)) (fs : En → Option (List D × En)) : En → Option (List D × En) := fun ε => (fs ε).bind fun x => (gi x.1).map fun y => (y, x.2)
theorem mi_of {tg e : Expr} {es : List Expr} {ri : List V → Hp → (It → Hp → Prop) → Prop} {gi : List D → Option (List D)} {t : TA} {fs : En → Option (List D × En)} (v : PItV X tg e es ri gi) (ha : MA X es t fs) : MI X tg e (fun σ H R => t σ H fun vs H1 => ri vs H1 R) (miOf gi fs) := by
  refine ⟨v.pi ha.pa, fun io B ps ε ε' σ H ds R o q k => ?_⟩
  obtain ⟨⟨xs, ε1⟩, q1, q⟩ := bindSome q
  obtain ⟨z, q2, q3⟩ := Option.map_eq_some_iff.mp q
  cases q3
  exact ha.so io B ps ε _ σ H xs _ o q1 fun vs B1 H1 s1 o1 r1 => v.v vs xs _ B1 H1 R r1 (smOf o1.sm) q2 fun J w => k J B1 H1 s1 o1 w
def miSelf (f : FM) : En → Option (List D × En) := fun ε => (f ε).bind fun x => (itemsS x.1).map fun y => (y, x.2)
theorem mi_self {K : PySem.W.Frag} {tg a : Expr} {ta : TE} {ma : FM} (ha : MV X a ta ma) (hK : X.K = K := by rfl) : MI X tg a (iAnyK K ta) (miSelf ma) := by
  subst hK
  refine ⟨pi_anyK ha.pe, fun io B ps ε ε' σ H ds R o q k => ?_⟩
  obtain ⟨⟨x, ε1⟩, q1, q⟩ := bindSome q
  obtain ⟨z, q2, q3⟩ := Option.map_eq_some_iff.mp q
  cases q3
  refine ha.so io B ps ε _ σ H x _ o q1 fun v B1 H1 s1 o1 r1 => ?_
  obtain ⟨kd, ys, rfl, h1, h2⟩ := kdOf r1 q2
  exact ⟨kd, ys, rfl, kd_mono (smOf o1.sm).rd h1, k _ B1 H1 s1 o1 (wd_any h1 h2)⟩
/-- targets: a thing of the base -/
def BGo (K : PySem.W.Frag) (g : TG) (b : Bd) : Prop := ∀ (io : Option (Nat × V)) (B : Hp) (ps : List (V × D)) (ε ε' : En) (σ : L2.St) (H : Hp) (v : V) (d : D) (Q : L2.St → Hp → Prop), Ok K io B ps ε σ H → Rep K B v d → b d ε = some ε' → (∀ σ', Ok K io B ps ε' σ' H → Q σ' H) → g v σ H Q
structure BG (X : Cx) (tg : Expr) (g : TG) (b : Bd) : Prop where
  pg : PG X tg g
  so : BGo X.K g b
def bbName (i : Nat) : Bd := fun d ε => if notIo ε[i]? then some (ε.set i (if frozen d then .ow d else .bo d)) else none
theorem bg_name (i : Nat) {x : Str} (hN : X.N.Nodup) (hi : X.N[i]? = some x := by rfl) (hx : Loc X.env.scope x := by first | exact Or.inl rfl | exact Or.inr rfl) (hf : X.fn x = true ∨ X.env.scope.names.lookup x = some .local := by first | exact .inl rfl | exact .inr rfl | assumption) :
    BG X (.Name x pos) (gName i) (bbName i) := by
  refine ⟨pg_name hN hi hx hf, fun io B ps ε ε' σ H v d Q o r q k => ?_⟩
  unfold bbName at q
  split at q
  · rename_i hn
    cases q
    split at k
    · rename_i hz
      have o' : Ok X.K io B ((v, d) :: ps) ε σ H := ⟨o.len, o.sm, o.own.frz (r.mono (smOf o.sm)) hz, o.has, o.bo, o.io1, o.io2⟩
      exact k _ (o'.put hn)
    · exact k _ (o.putB r hn)
  · cases q
def BGso (K : PySem.W.Frag) (g : TGs) (b : Bds) : Prop := ∀ (io : Option (Nat × V)) (B : Hp) (ps : List (V × D)) (ε ε' : En) (σ : L2.St) (H : Hp) (vs : List V) (ds : List D) (Q : L2.St → Hp → Prop), Ok K io B ps ε σ H → RepL K B vs ds → b ds ε = some ε' → (∀ σ', Ok K io B ps ε' σ' H → Q σ' H) → g vs σ H Q
structure BGs (X : Cx) (ts : List Expr) (g : TGs) (b : Bds) : Prop where
  pg : PGs X ts g
  so : BGso X.K g b
theorem bgs_nil : BGs X [] gNil bNil := by
  refine ⟨pgs_nil, fun io B ps ε ε' σ H vs ds Q o r q k => ?_⟩
  cases r with
  | nil => cases q; exact ⟨rfl, k σ o⟩
  | cons _ _ => cases q
theorem bgs_cons {tg : Expr} {ts : List Expr} {g : TG} {gs : TGs} {b : Bd} {bs : Bds} (h1 : BG X tg g b) (h2 : BGs X ts gs bs) (hs : (assignEach (tg :: ts) X.env).map (·.2) = assign tg X.env :: (assignEach ts X.env).map (·.2) := by rfl) : BGs X (tg :: ts) (gCons g gs) (bCons b bs) := by
  refine ⟨pgs_cons h1.pg h2.pg hs, fun io B ps ε ε' σ H vs ds Q o r q k => ?_⟩
  cases r with
  | nil => cases q
  | cons r rr =>
    obtain ⟨ε1, q1, q⟩ := bindSome q
    exact ⟨_, _, rfl, h1.so io B ps ε ε1 σ H _ _ _ o r q1 fun σ1 o1 => h2.so io B ps ε1 ε' σ1 H _ _ Q o1 rr q k⟩
theorem Rep.openT {K : PySem.W.Frag} {H : Hp} {v : V} {ds : List D} (r : Rep K H v (.tuple ds)) : ∃ a xs, v = .ref a ∧ SqT K H a xs ∧ RepL K H xs ds := by
  cases r with
  | tup h r => exact ⟨_, _, rfl, h, r⟩
theorem bg_tup {K : PySem.W.Frag} {es : List Expr} {k : Nat} {g : TGs} {n : Nat} {bs : Bds} (h : BGs X es g bs) (hl : ∀ (ds : List D) (ε ε' : En), bs ds ε = some ε' → ds.length = n) (hc : X.calm = true := by rfl)
    (hn : (assignEach es X.env).length = n := by rfl) (hst : (assignEach es X.env).findIdx? (·.1) = none := by rfl) (hK : X.K = K := by rfl) : BG X (.Tuple es k pos) (gTup K n g) (bTup bs) := by
  subst hK
  refine ⟨pg_tup hc h.pg hn hst, fun io B ps ε ε' σ H v d Q o r q k => ?_⟩
  cases d with
  | tuple ds =>
    obtain ⟨a, xs, rfl, h1, r⟩ := r.openT
    exact ⟨a, xs, rfl, (smOf o.sm).sqt h1, by rw [r.length]; exact hl _ _ _ q, h.so io B ps ε ε' σ H xs ds Q o r q k⟩
  | _ => cases q
def forM (b : Bd) (body : FS) : List D → SE → En → Prop
  | [], S, ε => S.nx ε
  | d :: ds, S, ε => onSome (b d ε) fun ε1 => body { S with nx := forM b body ds S, ct := forM b body ds S, bk := S.nx } ε1
def sFor (mi : En → Option (List D × En)) (b : Bd) (body : FS) : FS := fun S ε => onSome (mi ε) fun x => forM b body x.1 S x.2
theorem ss_for {tg iter : Expr} {body : List Stmt} {wi : TI} {mi : En → Option (List D × En)} {g : TG} {b : Bd} (hi : MI X tg iter wi mi) (hg : BG X tg g b) (hb : SSs X body t s) (hp : PassesOwn (model X.prog X.w) X.A X.env X.xe := by exact PassesOwn.never) (hc : X.calm = true := by rfl)
    (hs : ∀ x, foldedSetIterable iter X.env x = pure x := by intro _; rfl) : SS X (.For tg iter body [] pos) (tFor wi g t) (sFor mi b s) := by
  refine ⟨ps_for hp hc hi.pi hg.pg hb.ps hs, fun io B ε σ H S D' o re h => ?_⟩
  obtain ⟨⟨ds, ε1⟩, q, h⟩ := onSome_of h
  refine hi.so io B [] ε ε1 σ H ds _ o q fun J B1 H1 s1 o1 ⟨G, Y, w, hG, hY⟩ => ?_
  refine for_it w (fun i σ' H' => ∃ B' ε', Same B1 B' ∧ Ok X.K io B' [] ε' σ' H' ∧ forM b s (ds.drop i) S ε') ⟨B1, ε1, Same.refl B1, o1, by simpa using h⟩ (fun i σ' H' _ ⟨B', ε', e, o', _⟩ => hG H' (smOf (e.trans o'.sm))) ?_ ?_
  · rintro i x σ2 H2 H3 hi' ⟨B2, ε2, e2, o2, h2⟩ y
    obtain ⟨s3, d, hd, rd⟩ := hY i H2 x H3 (smOf (e2.trans o2.sm)) y
    have hdrop : ds.drop i = d :: ds.drop (i + 1) := by
      rw [List.drop_eq_getElem_cons hi']
      rw [List.getElem?_eq_getElem hi'] at hd
      cases hd; rfl
    rw [hdrop] at h2
    obtain ⟨ε3, q3, h2⟩ := onSome_of h2
    have o3 := (o2.same s3).tups
    have sB : Same (tov B1 H3) (tov B2 H3) := fun a ob hb => by
      unfold tov at hb ⊢
      cases z : B1 a with
      | some ob' => rw [z] at hb; cases hb; rw [e2 a ob z]
      | none =>
        rw [z] at hb
        simp only at hb
        split at hb
        · rename_i ht
          cases z2 : B2 a with
          | none => simp only; rw [if_pos ht]; exact hb
          | some o5 =>
            simp only
            have := (o2.same s3).sm a o5 z2
            rw [this] at hb
            exact hb
        · cases hb
    refine hg.so io _ [] ε2 ε3 σ2 H3 x d _ o3 (rd.mono (smOf sB)) q3 fun σ4 o4 => ?_
    have sB2 : Same B2 (tov B2 H3) := tov_ge
    have sAll : Same B (tov B2 H3) := (s1.trans e2).trans sB2
    have re2 := re.mono sAll
    exact hb.so io _ ε3 σ4 H3 { S with nx := forM b s (ds.drop (i+1)) S, ct := forM b s (ds.drop (i+1)) S, bk := S.nx } _ o4 ⟨fun B' ε' σ' H' e o' q => ⟨B', ε', (e2.trans sB2).trans e, o', q⟩, re2.rt, re2.nx, fun B' ε' σ' H' e o' q => ⟨B', ε', (e2.trans sB2).trans e, o', q⟩⟩ h2
  · rintro σ2 H2 ⟨B2, ε2, e2, o2, h2⟩
    rw [List.drop_length] at h2
    exact re.nx B2 ε2 σ2 H2 (s1.trans e2) o2 h2
end

/-! ### defs: what they promise -/
/-- changes nothing: n arguments, the value g of them -/
def spP (K : PySem.W.Frag) (n : Nat) (g : List D → Option D) : Sp := fun vs H Q _ => ∃ ds d, RepL K H vs ds ∧ ds.length = n ∧ g ds = some d ∧ ∀ v H', Same H H' → New K H H' v d → Q v H'
/-- changes its argument at k: the value and the argument's new content -/
def spI (K : PySem.W.Frag) (n k : Nat) (g : List D → Option (D × D)) : Sp := fun vs H Q _ => ∃ (pre post : List V) (dpre dpost : List D) (v : V) (d r d' : D) (fp : List Addr) (Hm : Hp), vs = pre ++ v :: post ∧ pre.length = k ∧ pre.length + 1 + post.length = n ∧ Rp K H v d fp ∧ fp.Nodup ∧
  Hm = (fun b => if b ∈ fp then none else H b) ∧ RepL K Hm pre dpre ∧ RepL K Hm post dpost ∧ g (dpre ++ d :: dpost) = some (r, d') ∧ ∀ u H', Same Hm H' → Owns K H' Hm [(u, r), (v, d')] → Q u H'
/-- room for calls, and no repr under way -/
structure RoomG (k : Nat) (A : Around) : Prop where
  r : Room k A
  g : A.guards = some []
theorem RoomG.mono {j k : Nat} {A : Around} (z : RoomG k A) (h : j ≤ k) : RoomG j A := ⟨z.r.mono h, z.g⟩
def FnRG (P : Program) (w : World) (K : PySem.W.Frag) (mg : Str → Option Value) (base : Heap) (k : Nat) (f : Addr) (sp : Sp) : Prop :=
  ∀ (A : Around) (out : List Env) (s : Shared) (H : Hp) (us : List Value) (vs : List V) (Q : VK) (E : XK), RoomG k A → Env0 P w K mg base A out s H → Vals vs us → sp vs H Q E → codeAny (model P w) A (.call (.ref f) ⟨us, []⟩) (CR CX0 out P w H s Q E) s
theorem FnRG.imp {P : Program} {w : World} {K : PySem.W.Frag} {mg : Str → Option Value} {base : Heap} {k : Nat} {f : Addr} {sp sp' : Sp} (F : FnRG P w K mg base k f sp) (h : ∀ vs H Q E, sp' vs H Q E → sp vs H Q E) : FnRG P w K mg base k f sp' :=
  fun A out s H us vs Q E z e r q => F A out s H us vs Q E z e r (h _ _ _ _ q)
theorem run_fnG {X : Cx} {pins : List (Addr × Obj)} {σ : L2.St} {H : Hp} {s : Shared} {k : Nat} {f : Addr} {sp : Sp} {Q : VK} {us : List Value} {vs : List V} (F : FnRG X.prog X.w X.K X.mg X.base k f sp) (hr : RoomG k X.A) (I : Inv X pins σ H s) (r : Vals vs us) (h : sp vs H Q E0) :
    codeAny (model X.prog X.w) X.A (.call (.ref f) ⟨us, []⟩) (fun r s' => match r with | .ok (.ret v) => EP X pins σ Q v s' | .ok _ => False | .error e => X.xe e s') s := by
  have z := F X.A X.stack s H us vs Q E0 hr I.env0 r h
  refine codeAny_mono z ?_
  rintro (e | (_ | _ | _ | u)) s' q
  · exact pass0 pins σ H s e s' I q
  all_goals first | exact q.elim | exact I.after q
/-- a def's promise from its body -/
theorem fnG_of {P : Program} {w : World} {K : PySem.W.Frag} {mg : Str → Option Value} {base : Heap} {x qual : Str} {st : Stmt} {f : Addr} {fd : FuncData} {N ps : List Str} {k : Nat} {sp : Sp} (F : Fun K x qual st f fd) (S : FnScope N ps (defScope st)) (hb : L2.Binds K fd ps []) (len : ∀ vs H Q E, sp vs H Q E → vs.length = ps.length)
    (body : ∀ (cdv : Value) (A : Around) (out : List Env) (s : Shared) (H : Hp) (vs : List V) (Q : VK) (E : XK), RoomG k (A.deeper (envOfC qual (defScope st) s.heap.objs.size f cdv)) → sp vs H Q E →
      ∃ t, PSs (cxOf CX0 P w K mg base N qual (defScope st) f cdv A out s H E).nox (defBody st) t ∧ t { nx := fun _ H' => Q .non H', rt := Q } (L2.start N vs) H) : FnRG P w K mg base (k + 1) f sp := by
  obtain ⟨oc, od, kV, doc, pm, an, cdv, ct, osl, efd, lk, hcd⟩ := F.ex
  subst efd
  intro A out s H us vs Q E hr e0 r h
  have hl := len _ _ _ _ h
  have KX : K.In s.heap := e0.mod.kin.keeps fun b o q => (e0.bs b o q).1
  have hbd := hb s us KX (by rw [List.append_nil, ← r.length]; exact hl)
  rw [List.append_nil] at hbd
  refine StX.run_bnd (G := fun xs H2 => xs = vs ∧ H2 = H) lk hcd S hr.r e0 (fun A' Ex Q' q => hbd _ _ _ _ (q s H vs us e0 Un.refl rfl (fun _ _ z => z) r hl ⟨rfl, rfl⟩)) ?_
  rintro s2 H2 xs ⟨rfl, rfl⟩ hr'
  obtain ⟨t, ht, q⟩ := body cdv A out s2 H2 xs Q E ⟨hr', hr.g⟩ h
  exact ⟨t, ht.nox, q⟩
structure FnD (P : Program) (w : World) (K : PySem.W.Frag) (mg : Str → Option Value) (base : Heap) (x : Str) (lvl : Nat) (sp : Sp) : Prop where
  ex : ∃ fa : Addr, FnRG P w K mg base lvl fa sp ∧ mg x = some (.ref fa) ∧ PySem.W.keepIn K (.ref fa) = true
def tCR (sp : Sp) (t : TA) : TE := fun σ H Q => t σ H fun vs H1 => sp vs H1 Q E0
/-- a def that is known by its bare promise, called -/
theorem pe_callR {X : Cx} {x : Str} {p pos : Pos} {e : Expr} {es : List Expr} {t : TA} {lvl : Nat} {fa : Addr} {sp : Sp} (F : FnRG X.prog X.w X.K X.mg X.base lvl fa sp) (hr : RoomG lvl X.A) (hg : Gl X x) (hm : X.mg x = some (.ref fa)) (hk : PySem.W.keepIn X.K (.ref fa) = true)
    (ha : PA X (e :: es) t) (hdb : (x == ("__debug__" : Str)) = false) (he : starEach (e :: es) X.env = (false, eval e X.env) :: starEach es X.env) (hpl : (backTo pos (starEach es X.env)).any (·.1) = false) : PE X (.Call (.Name x p) (e :: es) [] pos) (tCR sp t) := by
  constructor
  intro pins s σ H Q I h
  apply wpAny_Call_Name_kw
  apply ld_glob I hg hm _ hdb
  apply PySem.W.callWith_K (h₀ := X.base) I.ok.mod.kin hk _ he hpl
  apply thn (ha.run pos pins s σ H _ I h)
  intro us s1 hh
  obtain ⟨vs, H1, I1, r, q⟩ := hh
  exact ⟨I1.kIn, wpAny_call (run_fnG F hr I1 r q)⟩
def eFn (n : Nat) (g : List D → Option D) (fs : En → Option (List D)) : FE := fun ε => (fs ε).bind fun ds => if ds.length = n then g ds else none
def mFn (n : Nat) (g : List D → Option D) (fs : En → Option (List D × En)) : FM := fun ε => (fs ε).bind fun x => if x.1.length = n then (g x.1).map fun z => (z, x.2) else none
section
variable {X : Cx} {x : Str} {p pos : Pos} {e : Expr} {es : List Expr} {t : TA} {fs : En → Option (List D)} {ms : En → Option (List D × En)} {n lvl : Nat} {g : List D → Option D}
theorem pf_fn {K : PySem.W.Frag} (F : FnD X.prog X.w X.K X.mg X.base x lvl (spP K n g)) (hr : RoomG lvl X.A) (ha : PAr X (e :: es) t fs) (hK : X.K = K := by rfl) (hg : Gl X x := by rfl) (hdb : (x == ("__debug__" : Str)) = false := by decide)
    (he : starEach (e :: es) X.env = (false, eval e X.env) :: starEach es X.env := by rfl) (hpl : (backTo pos (starEach es X.env)).any (·.1) = false := by rfl) : PF X (.Call (.Name x p) (e :: es) [] pos) (tCR (spP K n g) t) (eFn n g fs) := by
  subst hK
  obtain ⟨fa, hF, hm, hk⟩ := F.ex
  refine ⟨pe_callR hF hr hg hm hk ha.pa hdb he hpl, fun ε σ H d Q o q k => ?_⟩
  obtain ⟨ds, q1, q2⟩ := bindSome q
  split at q2
  · rename_i hn
    refine ha.so ε σ H ds _ o q1 fun vs H1 s1 r1 => ?_
    exact ⟨ds, d, r1, hn, q2, fun v H' s nw => k v H' (s1.trans s) (nw.back s1)⟩
  · cases q2
theorem mm_fn {K : PySem.W.Frag} (F : FnD X.prog X.w X.K X.mg X.base x lvl (spP K n g)) (hr : RoomG lvl X.A) (ha : MA X (e :: es) t ms) (hK : X.K = K := by rfl) (hg : Gl X x := by rfl) (hdb : (x == ("__debug__" : Str)) = false := by decide)
    (he : starEach (e :: es) X.env = (false, eval e X.env) :: starEach es X.env := by rfl) (hpl : (backTo pos (starEach es X.env)).any (·.1) = false := by rfl) : MM X (.Call (.Name x p) (e :: es) [] pos) (tCR (spP K n g) t) (mFn n g ms) := by
  subst hK
  obtain ⟨fa, hF, hm, hk⟩ := F.ex
  refine ⟨pe_callR hF hr hg hm hk ha.pa hdb he hpl, fun io B ps ε ε' σ H d Q o q k => ?_⟩
  obtain ⟨⟨ds, ε1⟩, q1, q2⟩ := bindSome q
  split at q2
  · rename_i hn
    obtain ⟨z, q3, q4⟩ := Option.map_eq_some_iff.mp q2
    cases q4
    refine ha.so io B ps ε _ σ H ds _ o q1 fun vs B1 H1 s1 o1 r1 => ?_
    exact ⟨ds, _, r1.mono (smOf o1.sm), hn, q3, fun v H' s nw => k v B1 H' s1 (o1.new s nw)⟩
  · cases q2
/-! arguments with a hole: a name whose thing is changed -/
def mineAt (ε : En) (i : Nat) : Option D := (ε[i]?).bind Slot.mine
def setMine (ε : En) (i : Nat) (d : D) : En := match ε[i]? with
  | some (.io _) => ε.set i (.io d)
  | _ => ε.set i (.ow d)
/-- ahead of the hole, behind it -/
def MHo (K : PySem.W.Frag) (i k : Nat) (t : TA) (f : En → Option ((List D × List D) × En)) : Prop := ∀ (io : Option (Nat × V)) (B : Hp) (ps : List (V × D)) (ε ε' : En) (σ : L2.St) (H : Hp) (ds : List D × List D) (v : V) (Q : List V → Hp → Prop), Ok K io B ps ε σ H → σ[i]? = some (some v) → f ε = some (ds, ε') →
  (∀ pre post B' H', Same B B' → Ok K io B' ps ε' σ H' → RepL K B' pre ds.1 → RepL K B' post ds.2 → pre.length = k → Q (pre ++ v :: post) H') → t σ H Q
structure MH (X : Cx) (i k : Nat) (es : List Expr) (t : TA) (f : En → Option ((List D × List D) × En)) : Prop where
  pa : PA X es t
  so : MHo X.K i k t f
def mhHole (ms : En → Option (List D × En)) : En → Option ((List D × List D) × En) := fun ε => (ms ε).map fun x => (([], x.1), x.2)
def mhCons (m : FM) (f : En → Option ((List D × List D) × En)) : En → Option ((List D × List D) × En) := fun ε => (m ε).bind fun x => (f x.2).map fun y => ((x.1 :: y.1.1, y.1.2), y.2)
theorem mh_hole {i : Nat} {y : Str} {py : Pos} (ha : MA X es t ms) (hN : X.N[i]? = some y := by rfl) (hv : Vis X.env.scope y := by first | exact Or.inl rfl | exact Or.inr (Or.inl rfl) | exact Or.inr (Or.inr rfl)) (hs : starEach (.Name y py :: es) X.env = (false, eval (.Name y py) X.env) :: starEach es X.env := by rfl)
    (hd : (y == ("__debug__" : Str)) = false := by decide) (hcd : (y == ("__classdict__" : Str)) = false := by decide) : MH X i 0 (.Name y py :: es) (tCons (tVar i) t) (mhHole ms) := by
  refine ⟨pa_cons (pe_var hN hv hd hcd) ha.pa hs, fun io B ps ε ε' σ H ds v Q o hv q k => ?_⟩
  obtain ⟨⟨xs, ε1⟩, q1, q2⟩ := Option.map_eq_some_iff.mp q
  cases q2
  refine ⟨v, hv, ha.so io B ps ε _ σ H xs _ o q1 fun vs B1 H1 s1 o1 r1 => ?_⟩
  exact k [] vs B1 H1 s1 o1 .nil r1 rfl
theorem mh_cons {i k : Nat} {a : Expr} {ta : TE} {ma : FM} {f : En → Option ((List D × List D) × En)} (ha : MV X a ta ma) (hr : MH X i k es t f) (hs : starEach (a :: es) X.env = (false, eval a X.env) :: starEach es X.env := by rfl) : MH X i (k + 1) (a :: es) (tCons ta t) (mhCons ma f) := by
  refine ⟨pa_cons ha.pe hr.pa hs, fun io B ps ε ε' σ H ds v Q o hv q k => ?_⟩
  obtain ⟨⟨d, ε1⟩, q1, q⟩ := bindSome q
  obtain ⟨⟨⟨xs, ys⟩, ε2⟩, q2, q3⟩ := Option.map_eq_some_iff.mp q
  cases q3
  refine ha.so io B ps ε ε1 σ H d _ o q1 fun u B1 H1 s1 o1 r1 => ?_
  refine hr.so io B1 ps ε1 _ σ H1 (xs, ys) v _ o1 hv q2 fun pre post B2 H2 s2 o2 r2 r3 hl => ?_
  exact k (u :: pre) post B2 H2 (s1.trans s2) o2 (.cons (r1.mono (smOf s2)) r2) r3 (by simp [hl])
def mIo (n : Nat) (i : Nat) (g : List D → Option (D × D)) (f : En → Option ((List D × List D) × En)) : FM := fun ε => (mineAt ε i).bind fun _ => (f ε).bind fun x => if x.1.1.length + 1 + x.1.2.length = n then (mineAt x.2 i).bind fun d => (g (x.1.1 ++ d :: x.1.2)).map fun z => (z.1, setMine x.2 i z.2) else none
def turnS (s : Slot) (d' : D) : Slot := match s with
  | .io _ => .io d'
  | _ => .ow d'
theorem mine_turnS {s : Slot} {d' : D} : (turnS s d').mine = some d' := by cases s <;> rfl
/-- what a slot owns is changed -/
theorem Ok.turn {K : PySem.W.Frag} {io : Option (Nat × V)} {B H : Hp} {ps : List (V × D)} {ε : En} {σ : L2.St} (o : Ok K io B ps ε σ H) {i : Nat} {v : V} {d : D} (hv : σ[i]? = some (some v)) (hm : mineAt ε i = some d) :
    ∃ fp g, Rp K H v d fp ∧ fp.Nodup ∧ Same B (fun b => if b ∈ fp then none else H b) ∧ (∀ (L : List (V × D)) (H' : Hp) (d' : D), Same (fun b => if b ∈ fp then none else H b) H' → Owns K H' (fun b => if b ∈ fp then none else H b) ((v, d') :: L) → Ok K io B (L ++ ps) (setMine ε i d') σ H') ∧ g = fp := by
  obtain ⟨s, hs, hsm⟩ := bindSome hm
  have hl : i < ε.length := (List.getElem?_eq_some_iff.mp hs).1
  have pm := slots_out hs hsm hv (s' := .no) rfl
  obtain ⟨fp0, r0, nd0, f0⟩ := o.own.perm ((pm.symm.append_left ps).trans List.perm_middle)
  cases r0 with
  | @cons _ _ _ fp g rv rl =>
    obtain ⟨n1, n2, n3⟩ := List.nodup_append.mp nd0
    have sB : Same B (fun b => if b ∈ fp then none else H b) := fun a ob q => by
      have na : a ∉ fp := fun z => by rw [f0 a (List.mem_append_left _ z)] at q; cases q
      show (if a ∈ fp then none else H a) = some ob
      rw [if_neg na]; exact o.sm a ob q
    refine ⟨fp, fp, rv, n1, sB, fun L H' d' e ow => ?_, rfl⟩
    have e' : ∀ a ob, a ∉ fp → H a = some ob → H' a = some ob := fun a ob na q => e a ob (by show (if a ∈ fp then none else H a) = some ob; rw [if_neg na]; exact q)
    have tk : ∀ a xs, SqT K H a xs → SqT K H' a xs := fun a xs hx => by
      rcases hx with hx | hx
      · have na : a ∉ fp := fun z => by
          have := cell_notTup (rv.cell a z)
          rcases hx with hx | ⟨ob, hx⟩ <;> (rw [hx] at this; cases this)
        rcases hx with hx | ⟨ob, hx⟩
        · exact .inl (.inl (e' a _ na hx))
        · exact .inl (.inr ⟨ob, e' a _ na hx⟩)
      · exact .inr hx
    have rl' : RpP K H' (ps ++ slotsL (ε.set i .no) σ) g := rl.keep tk fun a ha => by
      have t := rl.there a ha
      cases z : H a with
      | none => exact absurd z t
      | some ob => exact e' a ob (fun z2 => n3 a z2 a ha rfl) z
    have own' : Owns K H' B (((v, d') :: L) ++ (ps ++ slotsL (ε.set i .no) σ)) := by
      obtain ⟨fq, rq, nq, fqn⟩ := ow
      refine ⟨fq ++ g, rq.append rl', List.nodup_append.mpr ⟨nq, n2, fun a ha b hb z => ?_⟩, fun a ha => ?_⟩
      · subst z
        have q := fqn a ha
        have q : (if a ∈ fp then none else H a) = none := q
        rw [if_neg (fun z => n3 a z a hb rfl)] at q
        exact rl.there a hb q
      · rcases List.mem_append.mp ha with ha | ha
        · exact Sm.free sB (fqn a ha)
        · exact f0 a (List.mem_append_right _ ha)
    have q : setMine ε i d' = ε.set i (turnS s d') := by
      unfold setMine
      rw [hs]
      cases s <;> rfl
    rw [q]
    have mine' : Slot.mine (turnS s d') = some d' := mine_turnS
    have sv : σ.set i (some v) = σ := by
      refine List.ext_getElem? fun j => ?_
      by_cases hj : i = j
      · subst hj
        rw [List.getElem?_set_self (List.getElem?_eq_some_iff.mp hv).1, hv]
      · rw [List.getElem?_set_ne hj]
    refine ⟨by simpa using o.len, sB.trans e, ?_, fun j s' d'' q hm' => ?_, fun j d'' q => ?_, fun j d'' q => ?_, fun j u q => ?_⟩
    · refine own'.perm ?_
      have sp := slots_put (ε := ε) (σ := σ) (i := i) (v := v) hl o.len mine'
      rw [sv] at sp
      rw [List.append_assoc]
      refine ((List.perm_middle (l₁ := []) (a := (v, d')) (l₂ := L ++ (ps ++ slotsL (ε.set i .no) σ))).trans ?_)
      rw [List.nil_append]
      have a1 : ((v, d') :: (L ++ (ps ++ slotsL (ε.set i .no) σ))).Perm (L ++ (ps ++ ((v, d') :: slotsL (ε.set i .no) σ))) := by
        have z := (List.perm_middle (l₁ := L ++ ps) (a := (v, d')) (l₂ := slotsL (ε.set i .no) σ)).symm
        rw [List.append_assoc, List.append_assoc] at z
        exact z
      exact a1.trans ((sp.symm.append_left ps).append_left L)
    · rcases set_get q with ⟨rfl, _⟩ | ⟨_, q⟩
      · exact ⟨v, hv⟩
      · exact o.has j s' d'' q hm'
    · rcases set_get q with ⟨_, z⟩ | ⟨_, q⟩
      · cases s <;> cases z
      · exact o.bo j d'' q
    · rcases set_get q with ⟨rfl, z⟩ | ⟨_, q⟩
      · cases s with
        | io z' => exact o.io1 i z' hs
        | _ => cases z
      · exact o.io1 j d'' q
    · obtain ⟨h1, d0, h2⟩ := o.io2 j u q
      refine ⟨h1, ?_⟩
      by_cases hj : i = j
      · subst hj
        rw [hs] at h2; cases h2
        exact ⟨d', List.getElem?_set_self hl⟩
      · exact ⟨d0, by rw [List.getElem?_set_ne hj]; exact h2⟩
theorem mm_io {K : PySem.W.Frag} {i k : Nat} {gi : List D → Option (D × D)} {f : En → Option ((List D × List D) × En)} (F : FnD X.prog X.w X.K X.mg X.base x lvl (spI K n k gi)) (hr : RoomG lvl X.A) (ha : MH X i k (e :: es) t f) (hK : X.K = K := by rfl) (hg : Gl X x := by rfl) (hdb : (x == ("__debug__" : Str)) = false := by decide)
    (he : starEach (e :: es) X.env = (false, eval e X.env) :: starEach es X.env := by rfl) (hpl : (backTo pos (starEach es X.env)).any (·.1) = false := by rfl) : MM X (.Call (.Name x p) (e :: es) [] pos) (tCR (spI K n k gi) t) (mIo n i gi f) := by
  subst hK
  obtain ⟨fa, hF, hm, hk⟩ := F.ex
  refine ⟨pe_callR hF hr hg hm hk ha.pa hdb he hpl, fun io B ps ε ε' σ H d Q o q k => ?_⟩
  obtain ⟨dz, q00, q⟩ := bindSome q
  obtain ⟨⟨⟨dpre, dpost⟩, ε1⟩, q1, q⟩ := bindSome q
  split at q
  · rename_i hn
    obtain ⟨d0, q2, q⟩ := bindSome q
    obtain ⟨⟨r, d'⟩, q3, q4⟩ := Option.map_eq_some_iff.mp q
    cases q4
    have hslot : ∃ v, σ[i]? = some (some v) := by
      obtain ⟨s, hs, hsm⟩ := bindSome q00
      exact o.has i s dz hs hsm
    obtain ⟨v, hv⟩ := hslot
    refine ha.so io B ps ε ε1 σ H (dpre, dpost) v _ o hv q1 fun pre post B1 H1 s1 o1 r1 r2 hl => ?_
    obtain ⟨fp, _, rv, nfp, sB, fin, _⟩ := o1.turn hv q2
    have hlen : pre.length + 1 + post.length = n := by rw [r1.length, r2.length]; exact hn
    refine ⟨pre, post, dpre, dpost, v, d0, r, d', fp, _, rfl, hl, hlen, rv, nfp, rfl, r1.mono (smOf sB), r2.mono (smOf sB), q3, fun u H' e ow => ?_⟩
    exact k u B1 H' s1 (fin [(u, r)] H' d' e (ow.perm (List.Perm.swap ..)))
  · cases q
end
end Pd

set_option Elab.async false
set_option linter.all false
set_option maxRecDepth 100000
set_option maxHeartbeats 4000000
/-! Pd9: lists that are changed; comprehensions whose parts may change a thing. -/
namespace Pd
open PySem PySem.Spec PyProof.Rows L2
section
variable {K : PySem.W.Frag} {io : Option (Nat × V)} {B B' H H' : Hp} {ps : List (V × D)} {ε ε' : En} {σ : L2.St}
theorem RpP.split {L2 : List (V × D)} : ∀ {L1 : List (V × D)} {fp : List Addr}, RpP K H (L1 ++ L2) fp → ∃ f g, fp = f ++ g ∧ RpP K H L1 f ∧ RpP K H L2 g
  | [], fp, r => ⟨[], fp, rfl, .nil, r⟩
  | p :: L1, _, .cons r t => by
    obtain ⟨f, g, rfl, r1, r2⟩ := RpP.split t
    exact ⟨_ ++ f, g, (List.append_assoc ..).symm, .cons r r1, r2⟩
theorem RpP.toL : ∀ {vs : List V} {ds : List D} {fp : List Addr}, vs.length = ds.length → RpP K H (vs.zip ds) fp → RpL K H vs ds fp
  | [], [], _, _, .nil => .nil
  | [], _ :: _, _, h, _ => by simp at h
  | _ :: _, [], _, h, _ => by simp at h
  | v :: vs, d :: ds, _, h, .cons r t => .cons r (RpP.toL (by simpa using h) t)
theorem Same.updN {l : Addr} (e : Same B H) (h : B l = none) (o : HO) : Same B (upd H l o) := fun a ob q => by
  have : a ≠ l := ne_of_none q h
  rw [upd_ne this]; exact e a ob q
/-- a list is opened: its items are owned one by one -/
theorem Owns.openL {L : List (V × D)} {v : V} {xs : List D} (o : Owns K H B ((v, .list xs) :: L)) : ∃ l vs, v = .ref l ∧ H l = some (.lst vs) ∧ vs.length = xs.length ∧ B l = none ∧ ∀ u, Owns K H (upd B l u) (vs.zip xs ++ L) := by
  obtain ⟨fp, r, nd, f⟩ := o
  cases r with
  | cons r t =>
    cases r with
    | @lst l vs _ fq h1 rl =>
      have nd' : (l :: (fq ++ _)).Nodup := nd
      obtain ⟨n1, n2⟩ := List.nodup_cons.mp nd'
      refine ⟨l, vs, rfl, h1, rl.length, f l List.mem_cons_self, fun u => ⟨_, rl.toP.append t, n2, fun a ha => ?_⟩⟩
      have na : a ≠ l := fun z => n1 (z ▸ ha)
      rw [upd_ne na]
      exact f a (List.mem_cons_of_mem _ ha)
/-- .. and closed again, with what it holds now -/
theorem Owns.closeL {L : List (V × D)} {l : Addr} {vs0 vs : List V} {xs : List D} {u : HO} (h : H l = some (.lst vs0)) (hb : B l = none) (e : vs.length = xs.length) (o : Owns K H (upd B l u) (vs.zip xs ++ L)) : Owns K (upd H l (.lst vs)) B ((.ref l, .list xs) :: L) := by
  obtain ⟨fp, r, nd, f⟩ := o
  obtain ⟨f1, g1, rfl, r1, r2⟩ := r.split
  have nl : ∀ a ∈ f1 ++ g1, a ≠ l := fun a ha z => by
    subst z
    have := f _ ha
    rw [upd_same] at this
    cases this
  have tk : ∀ a xs, SqT K H a xs → SqT K (upd H l (.lst vs)) a xs := fun a xs hx => by
    rcases hx with hx | hx
    · have na : a ≠ l := by
        rintro rfl
        rcases hx with hx | ⟨o, hx⟩ <;> (rw [h] at hx; cases hx)
      refine .inl ?_
      rcases hx with hx | ⟨o, hx⟩
      · exact .inl (by rw [upd_ne na]; exact hx)
      · exact .inr ⟨o, by rw [upd_ne na]; exact hx⟩
    · exact .inr hx
  have k1 := (RpP.toL e r1).keep tk fun a ha => upd_ne (nl a (List.mem_append_left _ ha))
  have k2 := r2.keep tk fun a ha => upd_ne (nl a (List.mem_append_right _ ha))
  refine ⟨l :: f1 ++ g1, .cons (.lst upd_same k1) k2, ?_, fun a ha => ?_⟩
  · refine List.nodup_cons.mpr ⟨fun z => nl _ z rfl, nd⟩
  · rcases List.mem_cons.mp ha with rfl | ha
    · exact hb
    · have := f a ha
      rw [upd_ne (nl a ha)] at this
      exact this
theorem zip_snoc {α β : Type} : ∀ {xs : List α} {ys : List β} {x : α} {y : β}, xs.length = ys.length → (xs ++ [x]).zip (ys ++ [y]) = xs.zip ys ++ [(x, y)]
  | [], [], _, _, _ => rfl
  | [], _ :: _, _, _, h => by simp at h
  | _ :: _, [], _, _, h => by simp at h
  | a :: xs, b :: ys, x, y, h => by simp [zip_snoc (xs := xs) (ys := ys) (x := x) (y := y) (by simpa using h)]
/-- a pending thing goes to the end of a pending list -/
theorem Owns.app {L : List (V × D)} {v u : V} {xs : List D} {y : D} (o : Owns K H B ((u, y) :: (v, .list xs) :: L)) : ∃ l acc, v = .ref l ∧ H l = some (.lst acc) ∧ acc.length = xs.length ∧ B l = none ∧ Owns K (upd H l (.lst (acc ++ [u]))) B ((v, .list (xs ++ [y])) :: L) := by
  obtain ⟨l, acc, rfl, h1, h2, h3, h4⟩ := (o.perm (List.Perm.swap ..)).openL
  refine ⟨l, acc, rfl, h1, h2, h3, Owns.closeL (u := .lst []) h1 h3 (by simp [h2]) ?_⟩
  rw [zip_snoc h2, List.append_assoc]
  exact h4 _
theorem Ok.app {v u : V} {xs : List D} {y : D} (o : Ok K io B ((u, y) :: (v, .list xs) :: ps) ε σ H) : ∃ l acc, v = .ref l ∧ H l = some (.lst acc) ∧ acc.length = xs.length ∧ Ok K io B ((v, .list (xs ++ [y])) :: ps) ε σ (upd H l (.lst (acc ++ [u]))) := by
  obtain ⟨l, acc, h1, h2, h3, h4, h5⟩ := Owns.app (L := ps ++ slotsL ε σ) o.own
  exact ⟨l, acc, h1, h2, h3, o.len, Same.updN o.sm h4 _, h5, o.has, o.bo, o.io1, o.io2⟩
/-! what a slot holds is taken, changed, given back -/
theorem Ok.takeS (o : Ok K io B ps ε σ H) {i : Nat} {d : D} (hm : mineAt ε i = some d) : ∃ v, σ[i]? = some (some v) ∧ Owns K H B ((v, d) :: (ps ++ slotsL (ε.set i .no) σ)) := by
  obtain ⟨s, hs, hsm⟩ := bindSome hm
  obtain ⟨v, hv⟩ := o.has i s d hs hsm
  refine ⟨v, hv, o.own.perm ?_⟩
  exact ((slots_out hs hsm hv rfl).symm.append_left ps).trans List.perm_middle
theorem Ok.giveS (o : Ok K io B ps ε σ H) {i : Nat} {d d' : D} {v : V} {ps' : List (V × D)} (hm : mineAt ε i = some d) (hv : σ[i]? = some (some v)) (sm : Same B H') (own' : Owns K H' B ((v, d') :: (ps' ++ slotsL (ε.set i .no) σ))) : Ok K io B ps' (setMine ε i d') σ H' := by
  obtain ⟨s, hs, hsm⟩ := bindSome hm
  have hl : i < ε.length := (List.getElem?_eq_some_iff.mp hs).1
  have q : setMine ε i d' = ε.set i (turnS s d') := by
    unfold setMine
    rw [hs]
    cases s <;> rfl
  rw [q]
  have sv : σ.set i (some v) = σ := by
    refine List.ext_getElem? fun j => ?_
    by_cases hj : i = j
    · subst hj
      rw [List.getElem?_set_self (List.getElem?_eq_some_iff.mp hv).1, hv]
    · rw [List.getElem?_set_ne hj]
  refine ⟨by simpa using o.len, sm, ?_, fun j s' d'' q hm' => ?_, fun j d'' q => ?_, fun j d'' q => ?_, fun j u q => ?_⟩
  · refine own'.perm ?_
    have sp := slots_put (ε := ε) (σ := σ) (i := i) (v := v) hl o.len (mine_turnS (s := s) (d' := d'))
    rw [sv] at sp
    exact (List.perm_middle (l₁ := ps') (a := (v, d')) (l₂ := slotsL (ε.set i .no) σ)).symm.trans (sp.symm.append_left ps')
  · rcases set_get q with ⟨rfl, _⟩ | ⟨_, q⟩
    · exact ⟨v, hv⟩
    · exact o.has j s' d'' q hm'
  · rcases set_get q with ⟨_, z⟩ | ⟨_, q⟩
    · cases s <;> cases z
    · exact o.bo j d'' q
  · rcases set_get q with ⟨rfl, z⟩ | ⟨_, q⟩
    · cases s with
      | io z' => exact o.io1 i z' hs
      | _ => cases z
    · exact o.io1 j d'' q
  · obtain ⟨h1, d0, h2⟩ := o.io2 j u q
    refine ⟨h1, ?_⟩
    by_cases hj : i = j
    · subst hj
      rw [hs] at h2; cases h2
      exact ⟨d', List.getElem?_set_self hl⟩
    · exact ⟨d0, by rw [List.getElem?_set_ne hj]; exact h2⟩
/-- the list in a slot: where it stands -/
theorem Ok.lstAt (o : Ok K io B ps ε σ H) {i : Nat} {xs : List D} (hm : mineAt ε i = some (.list xs)) : ∃ l vs, σ[i]? = some (some (.ref l)) ∧ H l = some (.lst vs) ∧ vs.length = xs.length := by
  obtain ⟨v, hv, ow⟩ := o.takeS hm
  obtain ⟨l, vs, rfl, h1, h2, _⟩ := ow.openL
  exact ⟨l, vs, hv, h1, h2⟩
end

/-! ### xs.append(e), xs[i] = e, xs.pop(i) for a name xs that holds its list -/
section
variable {X : Cx} {e o : Expr} {te : TE} {m : FM} {pos pos' ap cp px : Pos}
def gApp (x : D) (y : D) : Option D := match x with
  | .list xs => if xs.length ≤ cap then some (.list (xs ++ [y])) else none
  | _ => none
def isLst : D → Bool
  | .list _ => true
  | _ => false
def mApp (i : Nat) (m : FM) : FM := fun ε => (mineAt ε i).bind fun x => if isLst x then (m ε).bind fun y => (mineAt y.2 i).bind fun z => (gApp z y.1).map fun w => (.none, setMine y.2 i w) else none
theorem isLst_of {x : D} (h : isLst x = true) : ∃ xs, x = .list xs := by cases x <;> first | exact ⟨_, rfl⟩ | cases h
theorem mm_app {K : PySem.W.Frag} {i : Nat} {x : Str} (he : MM X e te m) (hN : X.N[i]? = some x := by rfl) (hv : Vis X.env.scope x := by first | exact Or.inl rfl | exact Or.inr (Or.inl rfl) | exact Or.inr (Or.inr rfl)) (hd : (x == ("__debug__" : Str)) = false := by decide) (hcd : (x == ("__classdict__" : Str)) = false := by decide)
    (h1 : attributeBase (.Name x px) "append" X.env (eval (.Name x px) X.env) = eval (.Name x px) X.env := by rfl)
    (h2 : ((((backTo cp (starEach [e] X.env)).all fun x => !x.1) && (backToKw cp (keywordEach [] X.env)).all fun x => x.1.isSome) && decide (([e] : List Expr).length + ([] : List Keyword).length + (if ([] : List Keyword).isEmpty = true then 0 else 1) < 30)) = true := by rfl)
    (h3 : (ap.endLine == cp.line) = true := by rfl) (h4 : starEach [e] X.env = (false, eval e X.env) :: starEach [] X.env := by rfl) (h5 : ((backTo cp (starEach [] X.env)).any fun x => x.1) = false := by rfl) (hK : X.K = K := by rfl) :
    MM X (.Call (.Attribute (.Name x px) "append" ap) [e] [] cp) (tBM K "list" rAppend (tVar i) (tCons te tNil)) (mApp i m) := by
  subst hK
  refine ⟨pe_bm PySem.F.plainAttrs_list PySem.F.slot_list_append PySem.F.type_list_append mt_append (pe_var hN hv hd hcd) (pa_cons he.pe pa_nil h4) h1 h2 h3 h4 h5, fun io B ps ε ε' σ H d Q o q k => ?_⟩
  obtain ⟨x0, q0, q⟩ := bindSome q
  split at q
  · rename_i hx
    obtain ⟨xs0, rfl⟩ := isLst_of hx
    obtain ⟨⟨y, ε1⟩, q1, q⟩ := bindSome q
    obtain ⟨z, q2, q⟩ := bindSome q
    obtain ⟨w, q3, q4⟩ := Option.map_eq_some_iff.mp q
    cases q4
    obtain ⟨l, vs, hσ, hH, _⟩ := o.lstAt q0
    refine ⟨_, hσ, .inl ⟨rfl, vs, .inl (.inl hH)⟩, he.so io B ps ε ε1 σ H y _ o q1 fun u B1 H1 s1 o1 => ?_⟩
    cases z with
    | list xs =>
      simp only [gApp] at q3
      split at q3
      · rename_i hc
        cases q3
        obtain ⟨v', hv', ow⟩ := o1.takeS q2
        rw [hσ] at hv'; cases hv'
        have ow2 := ow.perm (L' := (u, y) :: (.ref l, .list xs) :: (ps ++ slotsL (ε1.set i .no) σ)) (List.Perm.swap ..)
        obtain ⟨l', acc, e1, h1, h2, h3, h5⟩ := ow2.app
        cases e1
        refine ⟨l, acc, u, rfl, rfl, h1, Nat.lt_of_le_of_lt (by rw [h2]; exact hc) (by unfold cap; decide), ?_⟩
        have o2 := o1.drop.giveS (ps' := ps) q2 hσ (Same.updN o1.sm h3 _) h5
        exact k _ B1 _ s1 (o2.new (Same.refl _) newNon)
      · cases q3
    | _ => cases q3
  · cases q
/-- the j-th item, k counted as Python does -/
def gSetL (x : D) (k y : D) : Option D := match x, k with
  | .list xs, .int k => (ixN xs.length k).map fun j => .list (xs.set j y)
  | _, _ => none
def bSub (i : Nat) (f : FE) : Bd := fun d ε => (f ε).bind fun k => (mineAt ε i).bind fun x => (gSetL x k d).map fun w => setMine ε i w
theorem zip_set {α β : Type} : ∀ {xs : List α} {ys : List β} {j : Nat} {x : α} {y : β}, (xs.set j x).zip (ys.set j y) = (xs.zip ys).set j (x, y)
  | [], _, _, _, _ => by simp
  | _ :: _, [], _, _, _ => by simp
  | a :: xs, b :: ys, 0, x, y => by simp
  | a :: xs, b :: ys, j + 1, x, y => by simp [zip_set (xs := xs) (ys := ys)]
theorem perm_set {α : Type} : ∀ {xs : List α} {j : Nat} {x y : α}, xs[j]? = some y → (x :: xs).Perm (y :: xs.set j x)
  | [], _, _, _, h => by simp at h
  | a :: xs, 0, x, y, h => by simp at h; subst h; exact List.Perm.swap ..
  | a :: xs, j + 1, x, y, h => by
    have := perm_set (xs := xs) (j := j) (x := x) (y := y) (by simpa using h)
    simp only [List.set_cons_succ]
    exact (List.Perm.swap ..).trans ((this.cons a).trans (List.Perm.swap ..))
theorem zip_at {α β : Type} : ∀ {xs : List α} {ys : List β} {j : Nat}, xs.length = ys.length → j < xs.length → ∃ x y, xs[j]? = some x ∧ ys[j]? = some y ∧ (xs.zip ys)[j]? = some (x, y)
  | [], _, _, _, h => by simp at h
  | _ :: _, [], _, h, _ => by simp at h
  | a :: xs, b :: ys, 0, h, h2 => ⟨a, b, rfl, rfl, rfl⟩
  | a :: xs, b :: ys, j + 1, h, h2 => by
    obtain ⟨x, y, h1, h3, h4⟩ := zip_at (xs := xs) (ys := ys) (j := j) (by simpa using h) (by simpa using h2)
    exact ⟨x, y, by simpa using h1, by simpa using h3, by simpa using h4⟩
theorem ixN_lt {n j : Nat} {k : Int} (h : ixN n k = some j) : j < n := by
  unfold ixN at h
  split at h <;> (try split at h) <;> (try cases h) <;> omega
theorem mg_sub {i : Nat} {x : Str} {ie : Expr} {ti : TE} {f : FE} (hi : PP X ie ti f) (hN : X.N[i]? = some x := by rfl) (hv : Vis X.env.scope x := by first | exact Or.inl rfl | exact Or.inr (Or.inl rfl) | exact Or.inr (Or.inr rfl)) (hd : (x == ("__debug__" : Str)) = false := by decide) (hcd : (x == ("__classdict__" : Str)) = false := by decide)
    (h1 : ∀ v : Value, assign (.Subscript (.Name x px) ie pos) X.env v = (do
        let ov ← holding [v] (eval (.Name x px) X.env)
        let iv ← holding [v, ov] (eval ie X.env)
        standAt pos
        holding [v, ov, iv] (setItem ov iv v)
        release [v, ov, iv] []) := by intro _; rfl) :
    MG X (.Subscript (.Name x px) ie pos) (L2.gSub (tVar i) ti rSetL) (bSub i f) := by
  refine ⟨pg_sub (pe_var hN hv hd hcd) hi.pe set_list h1, fun io B ps ε ε' σ H v d Q o q k => ?_⟩
  obtain ⟨kd, q1, q⟩ := bindSome q
  obtain ⟨x0, q2, q⟩ := bindSome q
  obtain ⟨w, q3, rfl⟩ := Option.map_eq_some_iff.mp q
  cases x0 with
  | list xs =>
    cases kd with
    | int kk =>
      obtain ⟨j, q4, rfl⟩ := Option.map_eq_some_iff.mp q3
      obtain ⟨v0, hσ, ow⟩ := o.takeS q2
      have ow2 := ow.perm (L' := (.ref 0, .list xs) :: (v, d) :: (ps ++ slotsL (ε.set i .no) σ))
      obtain ⟨l, vs, rfl, h1, h2, h3, h4⟩ := ow.openL
      refine ⟨_, hσ, hi.so ε σ H (.int kk) _ o.okR q1 fun iv H1 s1 r1 => ?_⟩
      cases r1
      have hj : j < vs.length := by rw [h2]; exact ixN_lt q4
      refine ⟨l, vs, kk, j, rfl, rfl, s1 _ _ h1, by rw [h2]; exact q4, ?_⟩
      obtain ⟨xv, yv, e1, e2, e3⟩ := zip_at h2 hj
      have h4' : Owns X.K H1 (upd B l (.lst [])) (vs.zip xs ++ ((v, d) :: (ps ++ slotsL (ε.set i .no) σ))) := (h4 (.lst [])).same s1
      have pm : (vs.zip xs ++ ((v, d) :: (ps ++ slotsL (ε.set i .no) σ))).Perm ((xv, yv) :: ((vs.set j v).zip (xs.set j d) ++ (ps ++ slotsL (ε.set i .no) σ))) := by
        refine List.perm_middle.trans ?_
        rw [zip_set]
        exact (perm_set e3).append_right _
      have h5 := (h4'.perm pm).sub (List.sublist_cons_self _ _)
      have h6 := Owns.closeL (s1 _ _ h1) h3 (by simp [h2]) h5
      exact k σ _ (o.drop.giveS (ps' := ps) q2 hσ (Same.updN (o.sm.trans s1) h3 _) h6)
    | _ => cases q3
  | _ => cases q3
/-- xs.pop(k): the item, and the list without it -/
def gPopAt (x k : D) : Option (D × D) := match x, k with
  | .list xs, .int k => if -(2 ^ 63) ≤ k ∧ k < 2 ^ 63 then (seqIndex? k xs.length).bind fun j => (xs[j]?).map fun y => (y, .list (xs.eraseIdx j)) else none
  | _, _ => none
def mPopAt (i : Nat) (m : FM) : FM := fun ε => (mineAt ε i).bind fun x => if isLst x then (m ε).bind fun y => (mineAt y.2 i).bind fun z => (gPopAt z y.1).map fun w => (w.1, setMine y.2 i w.2) else none
theorem perm_erase {α : Type} : ∀ {xs : List α} {j : Nat} {y : α}, xs[j]? = some y → xs.Perm (y :: xs.eraseIdx j)
  | [], _, _, h => by simp at h
  | a :: xs, 0, y, h => by simp at h; subst h; exact List.Perm.refl _
  | a :: xs, j + 1, y, h => by
    have := perm_erase (xs := xs) (j := j) (y := y) (by simpa using h)
    simp only [List.eraseIdx_cons_succ]
    exact (this.cons a).trans (List.Perm.swap ..)
theorem zip_erase {α β : Type} : ∀ {xs : List α} {ys : List β} {j : Nat}, (xs.eraseIdx j).zip (ys.eraseIdx j) = (xs.zip ys).eraseIdx j
  | [], _, _ => by simp
  | _ :: _, [], _ => by simp
  | a :: xs, b :: ys, 0 => by simp
  | a :: xs, b :: ys, j + 1 => by simp [zip_erase (xs := xs) (ys := ys)]
theorem mm_popAt {K : PySem.W.Frag} {i : Nat} {x : Str} (he : MM X e te m) (hN : X.N[i]? = some x := by rfl) (hv : Vis X.env.scope x := by first | exact Or.inl rfl | exact Or.inr (Or.inl rfl) | exact Or.inr (Or.inr rfl)) (hd : (x == ("__debug__" : Str)) = false := by decide) (hcd : (x == ("__classdict__" : Str)) = false := by decide)
    (h1 : attributeBase (.Name x px) "pop" X.env (eval (.Name x px) X.env) = eval (.Name x px) X.env := by rfl)
    (h2 : ((((backTo cp (starEach [e] X.env)).all fun x => !x.1) && (backToKw cp (keywordEach [] X.env)).all fun x => x.1.isSome) && decide (([e] : List Expr).length + ([] : List Keyword).length + (if ([] : List Keyword).isEmpty = true then 0 else 1) < 30)) = true := by rfl)
    (h3 : (ap.endLine == cp.line) = true := by rfl) (h4 : starEach [e] X.env = (false, eval e X.env) :: starEach [] X.env := by rfl) (h5 : ((backTo cp (starEach [] X.env)).any fun x => x.1) = false := by rfl) (hK : X.K = K := by rfl) :
    MM X (.Call (.Attribute (.Name x px) "pop" ap) [e] [] cp) (tBM K "list" rPopAt (tVar i) (tCons te tNil)) (mPopAt i m) := by
  subst hK
  refine ⟨pe_bm PySem.F.plainAttrs_list PySem.F.slot_list_pop PySem.F.type_list_pop mt_popAt (pe_var hN hv hd hcd) (pa_cons he.pe pa_nil h4) h1 h2 h3 h4 h5, fun io B ps ε ε' σ H d Q o q k => ?_⟩
  obtain ⟨x0, q0, q⟩ := bindSome q
  split at q
  · rename_i hx
    obtain ⟨xs0, rfl⟩ := isLst_of hx
    obtain ⟨⟨y, ε1⟩, q1, q⟩ := bindSome q
    obtain ⟨z, q2, q⟩ := bindSome q
    obtain ⟨⟨w, w'⟩, q3, q4⟩ := Option.map_eq_some_iff.mp q
    cases q4
    obtain ⟨l, vs, hσ, hH, _⟩ := o.lstAt q0
    refine ⟨_, hσ, .inl ⟨rfl, vs, .inl (.inl hH)⟩, he.so io B ps ε ε1 σ H y _ o q1 fun u B1 H1 s1 o1 => ?_⟩
    cases z with
    | list xs =>
      cases y with
      | int kk =>
        simp only [gPopAt] at q3
        split at q3
        · rename_i hc
          obtain ⟨j, q4, q5⟩ := bindSome q3
          obtain ⟨yv, q6, q7⟩ := Option.map_eq_some_iff.mp q5
          cases q7
          have ru : Rep X.K H1 u (.int kk) := o1.own.rep List.mem_cons_self
          cases ru
          obtain ⟨v', hv', ow⟩ := o1.drop.takeS q2
          rw [hσ] at hv'; cases hv'
          obtain ⟨l', acc, e1, h1, h2, h3, h4⟩ := ow.openL
          cases e1
          have hj : j < acc.length := by rw [h2]; exact (List.getElem?_eq_some_iff.mp q6).1
          obtain ⟨xv, yv', f1, f2, f3⟩ := zip_at h2 hj
          rw [q6] at f2; cases f2
          refine ⟨l, acc, kk, j, xv, rfl, rfl, h1, hc.1, hc.2, by rw [h2]; exact q4, f1, ?_⟩
          have h5 : Owns X.K H1 (upd B1 l (.lst [])) ((acc.eraseIdx j).zip (xs.eraseIdx j) ++ ((xv, w) :: (ps ++ slotsL (ε1.set i .no) σ))) := by
            refine (h4 (.lst [])).perm ?_
            rw [zip_erase]
            refine ((perm_erase f3).append_right _).trans ?_
            exact List.perm_middle.symm
          have h6 := Owns.closeL h1 h3 (by simp [List.length_eraseIdx, h2]) h5
          have o2 := o1.drop.giveS (ps' := (xv, w) :: ps) q2 hσ (Same.updN o1.sm h3 _) h6
          exact k _ B1 _ s1 o2
        · cases q3
      | _ => cases q3
    | _ => cases q3
  · cases q
end

/-! ### comprehensions -/
section
variable {K : PySem.W.Frag} {io : Option (Nat × V)} {B B' H H' : Hp} {ps : List (V × D)} {ε ε' : En} {σ : L2.St}
theorem slots_none : ∀ {ε : En} {σ : L2.St} {i : Nat}, slotsL (ε.set i .no) (σ.set i none) = slotsL (ε.set i .no) σ
  | [], _, _ => rfl
  | _ :: _, [], i => by cases i <;> simp [slotsL]
  | s :: ε, o :: σ, 0 => by simp [slotsL, Slot.mine]
  | s :: ε, o :: σ, i + 1 => by simp only [List.set_cons_succ, slotsL, slots_none]
theorem Ok.nio (o : Ok K io B ps ε σ H) {i : Nat} (h : ∀ v, io ≠ some (i, v)) (d : D) : ε[i]? ≠ some (.io d) := fun z => by
  obtain ⟨v, q⟩ := o.io1 i d z
  exact h v q
theorem Ok.nio2 (o : Ok K io B ps ε σ H) {i : Nat} (h : ∀ v, io ≠ some (i, v)) (hl : i < ε.length) : notIo ε[i]? = true := by
  cases q : ε[i]? with
  | none => rw [List.getElem?_eq_none_iff] at q; omega
  | some s =>
    cases s with
    | io d => exact absurd q (o.nio h d)
    | _ => rfl
theorem Ok.del (o : Ok K io B ps ε σ H) {i : Nat} (h : ∀ v, io ≠ some (i, v)) : Ok K io B ps (ε.set i .no) (σ.set i none) H := by
  refine ⟨by simpa using o.len, o.sm, ?_, fun j s e q hm => ?_, fun j e q => ?_, fun j e q => ?_, fun j u q => ?_⟩
  · rw [slots_none]
    exact o.own.sub ((slots_del rfl).append_left ps)
  · rcases set_get q with ⟨rfl, rfl⟩ | ⟨ne, q⟩
    · cases hm
    · obtain ⟨u, hu⟩ := o.has j s e q hm
      exact ⟨u, by rw [List.getElem?_set_ne ne]; exact hu⟩
  · rcases set_get q with ⟨_, z⟩ | ⟨ne, q⟩
    · cases z
    · obtain ⟨u, hu, r⟩ := o.bo j e q
      exact ⟨u, by rw [List.getElem?_set_ne ne]; exact hu, r⟩
  · rcases set_get q with ⟨_, z⟩ | ⟨_, q⟩
    · cases z
    · exact o.io1 j e q
  · obtain ⟨h1, d', h2⟩ := o.io2 j u q
    have ne : i ≠ j := fun z => by subst z; exact h u q
    exact ⟨by rw [List.getElem?_set_ne ne]; exact h1, d', by rw [List.getElem?_set_ne ne]; exact h2⟩
theorem Ok.undel {i : Nat} (o : Ok K io B ps ε (σ.set i none) H) (h : ∀ v, io ≠ some (i, v)) : Ok K io B ps (ε.set i .no) σ H := by
  refine ⟨by simpa using o.len, o.sm, ?_, fun j s e q hm => ?_, fun j e q => ?_, fun j e q => ?_, fun j u q => ?_⟩
  · rw [← slots_none]
    exact o.own.sub ((slots_del rfl).append_left ps)
  · rcases set_get q with ⟨rfl, rfl⟩ | ⟨ne, q⟩
    · cases hm
    · obtain ⟨u, hu⟩ := o.has j s e q hm
      exact ⟨u, by rw [List.getElem?_set_ne ne] at hu; exact hu⟩
  · rcases set_get q with ⟨_, z⟩ | ⟨ne, q⟩
    · cases z
    · obtain ⟨u, hu, r⟩ := o.bo j e q
      exact ⟨u, by rw [List.getElem?_set_ne ne] at hu; exact hu, r⟩
  · rcases set_get q with ⟨_, z⟩ | ⟨_, q⟩
    · cases z
    · exact o.io1 j e q
  · obtain ⟨h1, d', h2⟩ := o.io2 j u q
    have ne : i ≠ j := fun z => by subst z; exact h u q
    exact ⟨by rw [List.getElem?_set_ne ne] at h1; exact h1, d', by rw [List.getElem?_set_ne ne]; exact h2⟩
def wOk : Option Slot → Bool
  | some .no => true
  | some (.bo _) => true
  | some (.ow d) => frozen d
  | _ => false
def wipeOk (ε : En) (vs : List Nat) : Bool := decide vs.Nodup && vs.all fun i => wOk ε[i]?
def toBo : Option Slot → Slot
  | some (.bo d) => .bo d
  | some (.ow d) => .bo d
  | _ => .no
def backE (ε : En) : List Nat → En → En
  | [], ε' => ε'
  | v :: vs, ε' => backE ε vs (ε'.set v (toBo ε[v]?))
/-- what a block's own names stood for -/
def Back (K : PySem.W.Frag) (B : Hp) (ε : En) (σ : L2.St) (vs : List Nat) : Prop := ∀ i ∈ vs, i < ε.length ∧ ∀ d, toBo ε[i]? = .bo d → ∃ v, σ[i]? = some (some v) ∧ Rep K B v d
theorem Back.mono {vs : List Nat} (h : Back K B ε σ vs) (e : Same B B') : Back K B' ε σ vs := fun i hi => ⟨(h i hi).1, fun d q => let ⟨v, h1, h2⟩ := (h i hi).2 d q; ⟨v, h1, h2.mono (smOf e)⟩⟩
theorem Ok.prep (o : Ok K io B ps ε σ H) : ∀ (vs : List Nat), (vs.all fun i => wOk ε[i]?) = true → ∃ B', Same B B' ∧ Ok K io B' ps ε σ H ∧ Back K B' ε σ vs
  | [], _ => ⟨B, Same.refl B, o, fun i hi => nomatch hi⟩
  | i :: vs, h => by
    rw [List.all_cons, Bool.and_eq_true] at h
    obtain ⟨B1, s1, o1, b1⟩ := Ok.prep o vs h.2
    have hl : i < ε.length := by
      cases q : ε[i]? with
      | none => rw [q] at h; exact absurd h.1 (by decide)
      | some s => exact (List.getElem?_eq_some_iff.mp q).1
    have fin : ∀ B2, Same B1 B2 → Ok K io B2 ps ε σ H → (∀ d, toBo ε[i]? = .bo d → ∃ v, σ[i]? = some (some v) ∧ Rep K B2 v d) → ∃ B', Same B B' ∧ Ok K io B' ps ε σ H ∧ Back K B' ε σ (i :: vs) := fun B2 s2 o2 hb =>
      ⟨B2, s1.trans s2, o2, fun j hj => by
        rcases List.mem_cons.mp hj with rfl | hj
        · exact ⟨hl, hb⟩
        · exact (b1.mono s2) j hj⟩
    cases q : ε[i]? with
    | none => rw [q] at h; exact absurd h.1 (by decide)
    | some s =>
      cases s with
      | no => exact fin B1 (Same.refl _) o1 fun d z => by rw [q] at z; cases z
      | bo d => exact fin B1 (Same.refl _) o1 fun d' z => by rw [q] at z; cases z; exact o1.bo i d q
      | io d => rw [q] at h; simp [wOk] at h
      | ow d =>
        rw [q] at h
        have hz : frozen d = true := h.1
        obtain ⟨v, hv⟩ := o1.has i _ _ q rfl
        have rv : Rep K H v d := o1.own.rep (List.mem_append_right _ (slots_mem q rfl hv))
        obtain ⟨B2, s2, r2, o2⟩ := (show Ok K io B1 ((v, d) :: ps) ε σ H from ⟨o1.len, o1.sm, o1.own.frz rv hz, o1.has, o1.bo, o1.io1, o1.io2⟩).pin
        exact fin B2 s2 o2 fun d' z => by rw [q] at z; cases z; exact ⟨v, hv, r2⟩
theorem wipeE_length (ε : En) (vs : List Nat) : (wipeE ε vs).length = ε.length := by
  induction vs with
  | nil => rfl
  | cons v vs ih => simp [wipeE, ih]
theorem Ok.wipe (o : Ok K io B ps ε σ H) : ∀ {vs : List Nat}, (∀ i ∈ vs, ∀ v, io ≠ some (i, v)) → Ok K io B ps (wipeE ε vs) (wipe σ vs) H
  | [], _ => o
  | i :: vs, h => (Ok.wipe o fun j hj => h j (List.mem_cons_of_mem _ hj)).del (h i List.mem_cons_self)
theorem Ok.unwipe {ε0 : En} : ∀ {vs : List Nat} {ε : En}, vs.Nodup → Ok K io B ps ε (L2.wipe σ vs) H → ε.length = ε0.length → Back K B ε0 σ vs → (∀ i ∈ vs, ∀ v, io ≠ some (i, v)) → Ok K io B ps (backE ε0 vs ε) σ H
  | [], _, _, o, _, _, _ => o
  | i :: vs, ε, nd, o, hl, hb, h => by
    obtain ⟨n1, n2⟩ := List.nodup_cons.mp nd
    have o' : Ok K io B ps ε ((L2.wipe σ vs).set i none) H := o
    have hi := h i List.mem_cons_self
    obtain ⟨hlt, hbi⟩ := hb i List.mem_cons_self
    unfold backE
    refine Ok.unwipe n2 ?_ (by simpa using hl) (fun j hj => hb j (List.mem_cons_of_mem _ hj)) fun j hj => h j (List.mem_cons_of_mem _ hj)
    cases q : toBo ε0[i]? with
    | no => exact o'.undel hi
    | bo d =>
      obtain ⟨v, hv, r⟩ := hbi d q
      have p := o'.putB r (o'.nio2 hi (by omega))
      rw [List.set_set] at p
      have e : (L2.wipe σ vs).set i (some v) = L2.wipe σ vs := by
        refine List.ext_getElem? fun j => ?_
        by_cases hj : i = j
        · subst hj
          have hv' : (L2.wipe σ vs)[i]? = some (some v) := by rw [wipe_get n1]; exact hv
          rw [List.getElem?_set_self (List.getElem?_eq_some_iff.mp hv').1, hv']
        · rw [List.getElem?_set_ne hj]
      rw [e] at p
      exact p
    | ow d =>
      cases z : ε0[i]? with
      | none => rw [z] at q; cases q
      | some s => rw [z] at q; cases s <;> cases q
    | io d =>
      cases z : ε0[i]? with
      | none => rw [z] at q; cases q
      | some s => rw [z] at q; cases s <;> cases q
theorem tov_grow {B1 B2 H : Hp} (e2 : Same B1 B2) (e3 : Same B2 H) : Same (tov B1 H) (tov B2 H) := fun a ob hb => by
  unfold tov at hb ⊢
  cases z : B1 a with
  | some ob' => rw [z] at hb; cases hb; rw [e2 a ob z]
  | none =>
    rw [z] at hb
    simp only at hb
    split at hb
    · rename_i ht
      cases z2 : B2 a with
      | none => simp only; rw [if_pos ht]; exact hb
      | some o5 =>
        simp only
        have := e3 a o5 z2
        rw [this] at hb
        exact hb
    · cases hb
theorem wipe_set {i : Nat} {x : Option V} {vs : List Nat} (h : i ∈ vs) : L2.wipe (σ.set i x) vs = L2.wipe σ vs :=
  wipe_same (by simp) fun j hj => by
    have : i ≠ j := fun z => hj (z ▸ h)
    rw [List.getElem?_set_ne this, wipe_get hj]
theorem wipe_wipe {vs : List Nat} : L2.wipe (L2.wipe σ vs) vs = L2.wipe σ vs :=
  wipe_same (wipe_length σ vs) fun j hj => rfl
end
/-- a block's target -/
def BTo (K : PySem.W.Frag) (g : TG) (vs : List Nat) (b : Bd) : Prop := ∀ (io : Option (Nat × V)) (B : Hp) (ps : List (V × D)) (ε ε' : En) (σ : L2.St) (H : Hp) (v : V) (d : D) (Q : L2.St → Hp → Prop), Ok K io B ps ε σ H → Rep K B v d → b d ε = some ε' → (∀ σ', Ok K io B ps ε' σ' H → L2.wipe σ' vs = L2.wipe σ vs → ε'.length = ε.length → Q σ' H) → g v σ H Q
structure BT (X : Cx) (tg : Expr) (g : TG) (vs : List Nat) (b : Bd) : Prop where
  pg : PG X tg g
  so : BTo X.K g vs b
def BTso (K : PySem.W.Frag) (g : TGs) (vs : List Nat) (b : Bds) : Prop := ∀ (io : Option (Nat × V)) (B : Hp) (ps : List (V × D)) (ε ε' : En) (σ : L2.St) (H : Hp) (us : List V) (ds : List D) (Q : L2.St → Hp → Prop), Ok K io B ps ε σ H → RepL K B us ds → b ds ε = some ε' → (∀ σ', Ok K io B ps ε' σ' H → L2.wipe σ' vs = L2.wipe σ vs → ε'.length = ε.length → Q σ' H) → g us σ H Q
structure BTs (X : Cx) (ts : List Expr) (g : TGs) (vs : List Nat) (b : Bds) : Prop where
  pg : PGs X ts g
  so : BTso X.K g vs b
section
variable {X : Cx} {vs : List Nat} {pos pos' : Pos}
theorem bt_name (i : Nat) {x : Str} (hN : X.N.Nodup) (hi : X.N[i]? = some x := by rfl) (hvs : i ∈ vs := by decide) (hx : Loc X.env.scope x := by first | exact Or.inl rfl | exact Or.inr rfl) (hf : X.fn x = true ∨ X.env.scope.names.lookup x = some .local := by first | exact .inl rfl | exact .inr rfl | assumption) :
    BT X (.Name x pos) (gName i) vs (bbName i) := by
  refine ⟨pg_name hN hi hx hf, fun io B ps ε ε' σ H v d Q o r q k => ?_⟩
  unfold bbName at q
  split at q
  · rename_i hn
    cases q
    split at k
    · rename_i hz
      have o' : Ok X.K io B ((v, d) :: ps) ε σ H := ⟨o.len, o.sm, o.own.frz (r.mono (smOf o.sm)) hz, o.has, o.bo, o.io1, o.io2⟩
      exact k _ (o'.put hn) (wipe_set hvs) (by simp)
    · exact k _ (o.putB r hn) (wipe_set hvs) (by simp)
  · cases q
theorem bts_nil : BTs X [] gNil vs bNil := by
  refine ⟨pgs_nil, fun io B ps ε ε' σ H vs ds Q o r q k => ?_⟩
  cases r with
  | nil => cases q; exact ⟨rfl, k σ o rfl rfl⟩
  | cons _ _ => cases q
theorem bts_cons {tg : Expr} {ts : List Expr} {g : TG} {gs : TGs} {b : Bd} {bs : Bds} (h1 : BT X tg g vs b) (h2 : BTs X ts gs vs bs) (hs : (assignEach (tg :: ts) X.env).map (·.2) = assign tg X.env :: (assignEach ts X.env).map (·.2) := by rfl) : BTs X (tg :: ts) (gCons g gs) vs (bCons b bs) := by
  refine ⟨pgs_cons h1.pg h2.pg hs, fun io B ps ε ε' σ H us ds Q o r q k => ?_⟩
  cases r with
  | nil => cases q
  | cons r rr =>
    obtain ⟨ε1, q1, q⟩ := bindSome q
    exact ⟨_, _, rfl, h1.so io B ps ε ε1 σ H _ _ _ o r q1 fun σ1 o1 w1 l1 => h2.so io B ps ε1 ε' σ1 H _ _ Q o1 rr q fun σ2 o2 w2 l2 => k σ2 o2 (w2.trans w1) (l2.trans l1)⟩
theorem bt_tup {K : PySem.W.Frag} {es : List Expr} {k : Nat} {g : TGs} {n : Nat} {bs : Bds} (h : BTs X es g vs bs) (hl : ∀ (ds : List D) (ε ε' : En), bs ds ε = some ε' → ds.length = n) (hc : X.calm = true := by rfl)
    (hn : (assignEach es X.env).length = n := by rfl) (hst : (assignEach es X.env).findIdx? (·.1) = none := by rfl) (hK : X.K = K := by rfl) : BT X (.Tuple es k pos) (gTup K n g) vs (bTup bs) := by
  subst hK
  refine ⟨pg_tup hc h.pg hn hst, fun io B ps ε ε' σ H v d Q o r q k => ?_⟩
  cases d with
  | tuple ds =>
    obtain ⟨a, xs, rfl, h1, r⟩ := r.openT
    exact ⟨a, xs, rfl, (smOf o.sm).sqt h1, by rw [r.length]; exact hl _ _ _ q, h.so io B ps ε ε' σ H xs ds Q o r q k⟩
  | _ => cases q
/-- a clause's tests -/
structure MTs (X : Cx) (ifs : List Expr) (t : TT) (f : En → Option (Bool × En)) : Prop where
  pt : PTs X ifs t
  so : MTo X.K t f
def mTrue : En → Option (Bool × En) := fun ε => some (true, ε)
theorem mts_nil : MTs X [] tYes mTrue := ⟨pts_nil, fun io B ps ε ε' σ H b Q o q k => by cases q; exact k B H (Same.refl B) o⟩
theorem mts_one {c : Expr} {t : TT} {f : En → Option (Bool × En)} (h : MT X c t f) : MTs X [c] t f := ⟨pts_one h.pt, h.so⟩
end
def compM (vs : List Nat) (b : Bd) (mt : En → Option (Bool × En)) (me : FM) : List D → En → Option (List D × En)
  | [], ε => some ([], ε)
  | d :: ds, ε => (b d ε).bind fun ε1 => (mt ε1).bind fun x => if x.1 then (me x.2).bind fun y => if y.2.length = ε.length then (compM vs b mt me ds (wipeE y.2 vs)).map fun z => (y.1 :: z.1, z.2) else none else if x.2.length = ε.length then compM vs b mt me ds (wipeE x.2 vs) else none
def mLc (vs : List Nat) (mi : En → Option (List D × En)) (b : Bd) (mt : En → Option (Bool × En)) (me : FM) : FM := fun ε => (mi ε).bind fun x => if wipeOk x.2 vs = true ∧ x.1.length ≤ cap then (compM vs b mt me x.1 (wipeE x.2 vs)).map fun y => (.list y.1, backE x.2 vs y.2) else none
theorem compM_len {vs : List Nat} {b : Bd} {mt : En → Option (Bool × En)} {me : FM} : ∀ {ds : List D} {ε : En} {r : List D × En}, compM vs b mt me ds ε = some r → r.2.length = ε.length
  | [], ε, r, h => by cases h; rfl
  | d :: ds, ε, r, h => by
    obtain ⟨ε1, _, h⟩ := bindSome h
    obtain ⟨x, _, h⟩ := bindSome h
    split at h
    · obtain ⟨y, _, h⟩ := bindSome h
      split at h
      · rename_i hl
        obtain ⟨z, hz, rfl⟩ := Option.map_eq_some_iff.mp h
        have := compM_len hz
        rw [wipeE_length] at this
        exact this.trans hl
      · cases h
    · split at h
      · rename_i hl
        have := compM_len h
        rw [wipeE_length] at this
        exact this.trans hl
      · cases h
theorem so_mlc {K : PySem.W.Frag} {wi : TI} {g : TG} {tt : TT} {te : TE} {vs : List Nat} {mi : En → Option (List D × En)} {b : Bd} {mt : En → Option (Bool × En)} {me : FM} (hi : MIo K wi mi) (hg : BTo K g vs b) (ht : MTo K tt mt) (he : MMo K te me) :
    MMo K (tLc wi g tt te vs) (mLc vs mi b mt me) := by
  intro io B ps ε ε' σ H d Q o q k
  obtain ⟨⟨ds, ε1⟩, q1, q⟩ := bindSome q
  split at q
  · rename_i hw
    obtain ⟨hw, hcap⟩ := hw
    obtain ⟨⟨out, ε2⟩, q2, q3⟩ := Option.map_eq_some_iff.mp q
    cases q3
    unfold wipeOk at hw
    rw [Bool.and_eq_true] at hw
    have nd : vs.Nodup := of_decide_eq_true hw.1
    refine hi io B ps ε ε1 σ H ds _ o q1 fun J B1 H1 s1 o1 ⟨G, Y, w, hG, hY⟩ => ?_
    obtain ⟨B2, s2, o2, bk⟩ := o1.prep vs hw.2
    have hio : ∀ i ∈ vs, ∀ v, io ≠ some (i, v) := fun i hi v z => by
      obtain ⟨_, d', h2⟩ := o2.io2 i v z
      have := List.all_eq_true.mp hw.2 i hi
      rw [h2] at this
      cases this
    have ow := o2.wipe hio
    intro Dd hD
    refine lc_it w (fun i H2 => ∃ (B3 : Hp) (εc : En) (done rest : List D), Same B2 B3 ∧ Ok K io B3 ((.ref Dd, .list done) :: ps) εc (L2.wipe σ vs) H2 ∧ done.length ≤ i ∧ εc.length = ε1.length ∧ compM vs b mt me (ds.drop i) εc = some (rest, ε2) ∧ out = done ++ rest) ?_ (fun i H2 _ ⟨B3, εc, done, rest, s3, o3, _⟩ => hG H2 (smOf (s2.trans (s3.trans o3.sm)))) ?_ ?_
    · refine ⟨B2, wipeE ε1 vs, [], out, Same.refl B2, ow.new (sameNew hD _) ⟨[Dd], .lst upd_same .nil, by simp, fun a ha => ?_⟩, Nat.le_refl _, wipeE_length _ _, by simpa using q2, rfl⟩
      rcases List.mem_cons.mp ha with rfl | ha
      · exact hD
      · cases ha
    · rintro i x H2 H3 hi' ⟨B3, εc, done, rest, s3, o3, hlen, hle, hrest, hout⟩ y
      obtain ⟨s4, d, hd, rd⟩ := hY i H2 x H3 (smOf (s2.trans (s3.trans o3.sm))) y
      have hdrop : ds.drop i = d :: ds.drop (i + 1) := by
        have h1 : i < ds.length := hi'
        rw [List.drop_eq_getElem_cons h1]
        rw [List.getElem?_eq_getElem h1] at hd
        cases hd; rfl
      rw [hdrop] at hrest
      obtain ⟨ε3, qb, hrest⟩ := bindSome hrest
      obtain ⟨⟨c, ε4⟩, qt, hrest⟩ := bindSome hrest
      have o4 := (o3.same s4).tups
      have sB := tov_grow (s2.trans s3) (o3.same s4).sm
      have sB2 : Same B3 (tov B3 H3) := tov_ge
      refine hg io _ _ εc ε3 _ H3 x d _ o4 (rd.mono (smOf sB)) qb fun σ2 o5 w5 l5 => ?_
      have w6 : L2.wipe σ2 vs = L2.wipe σ vs := w5.trans wipe_wipe
      refine ⟨w6, ?_⟩
      refine ht io _ _ ε3 ε4 σ2 H3 c _ o5 qt fun B4 H4 s6 o6 => ?_
      cases c with
      | true =>
        rw [if_pos rfl] at hrest ⊢
        obtain ⟨⟨yv, ε5⟩, qe, hrest⟩ := bindSome hrest
        split at hrest
        · rename_i hl5
          obtain ⟨⟨rest', ε6⟩, hrest', q7⟩ := Option.map_eq_some_iff.mp hrest
          cases q7
          refine he io B4 _ ε4 ε5 σ2 H4 yv _ o6 qe fun u B5 H5 s7 o7 => ?_
          obtain ⟨l, acc, e1, h1, h2, o8⟩ := o7.app
          cases e1
          have hlt : i < ds.length := hi'
          refine ⟨acc, h1, Nat.lt_of_le_of_lt (by rw [h2]; exact hlen) (Nat.lt_of_lt_of_le hlt (Nat.le_trans hcap (by unfold cap; decide))), ?_⟩
          have o9 := o8.wipe hio
          rw [w6] at o9
          exact ⟨B5, wipeE ε5 vs, done ++ [yv], rest', s3.trans (sB2.trans (s6.trans s7)), o9, by rw [List.length_append]; simp; omega, by rw [wipeE_length]; exact hl5.trans hle, hrest', by rw [hout, List.append_assoc]; rfl⟩
        · cases hrest
      | false =>
        rw [if_neg Bool.false_ne_true] at hrest ⊢
        split at hrest
        · rename_i hl5
          have o9 := o6.wipe hio
          rw [w6] at o9
          exact ⟨B4, wipeE ε4 vs, done, rest, s3.trans (sB2.trans s6), o9, by omega, by rw [wipeE_length]; exact hl5.trans hle, hrest, hout⟩
        · cases hrest
    · rintro H2 ⟨B3, εc, done, rest, s3, o3, hlen, hle, hrest, hout⟩
      rw [List.drop_length] at hrest
      cases hrest
      rw [List.append_nil] at hout
      subst hout
      exact k _ B3 H2 (s1.trans (s2.trans s3)) (Ok.unwipe nd o3 hle (bk.mono s3) hio)
  · cases q
section
variable {X : Cx} {elt tg iter : Expr} {ifs : List Expr} {scope : Scope} {pos spos : Pos} {wi : TI} {g : TG} {tt : TT} {te : TE} {mi : En → Option (List D × En)} {b : Bd} {mt : En → Option (Bool × En)} {me : FM}
theorem mm_lc {own : List (Str × Nat)} (hN : X.N.Nodup) (hi : MI X tg iter wi mi) (ok : BlkOk X.N X.env.scope scope own)
    (hg : ∀ (s : Shared) (H : Hp) (C : Addr) (cl : List (Str × Addr)) (fp : List Addr), BT (X.blk s H scope (compEnvC scope cl C X.env) fp) tg g (own.map (·.2)) b)
    (ht : ∀ (s : Shared) (H : Hp) (C : Addr) (cl : List (Str × Addr)) (fp : List Addr), MTs (X.blk s H scope (compEnvC scope cl C X.env) fp) ifs tt mt)
    (he : ∀ (s : Shared) (H : Hp) (C : Addr) (cl : List (Str × Addr)) (fp : List Addr), MM (X.blk s H scope (compEnvC scope cl C X.env) fp) elt te me)
    (hc : X.calm = true := by rfl) (hs : ∀ x, foldedSetIterable iter X.env x = pure x := by intro _; rfl) :
    MM X (.ListComp elt [⟨tg, iter, ifs, 0⟩] scope pos) (tLc wi g tt te (own.map (·.2))) (mLc (own.map (·.2)) mi b mt me) := by
  refine ⟨pe_lc hc hN hi.pi ok (fun s H C cl fp => (hg s H C cl fp).pg) (fun s H C cl fp => (ht s H C cl fp).pt) (fun s H C cl fp => (he s H C cl fp).pe) hs, ?_⟩
  exact so_mlc hi.so (hg {} (fun _ => none) (0 : Nat) [] []).so (ht {} (fun _ => none) (0 : Nat) [] []).so (he {} (fun _ => none) (0 : Nat) [] []).so
theorem ss_setLcM {i : Nat} {y : Str} {py : Pos} {own : List (Str × Nat)} (hN : X.N.Nodup) (hi : MI X tg iter wi mi) (ok : BlkOk X.N X.env.scope scope own)
    (hg : ∀ (s : Shared) (H : Hp) (C : Addr) (cl : List (Str × Addr)) (fp : List Addr), BT (X.blk s H scope (compEnvC scope cl C X.env) fp) tg g (own.map (·.2)) b)
    (ht : ∀ (s : Shared) (H : Hp) (C : Addr) (cl : List (Str × Addr)) (fp : List Addr), MTs (X.blk s H scope (compEnvC scope cl C X.env) fp) ifs tt mt)
    (he : ∀ (s : Shared) (H : Hp) (C : Addr) (cl : List (Str × Addr)) (fp : List Addr), MM (X.blk s H scope (compEnvC scope cl C X.env) fp) elt te me)
    (hsw : swapsWith (.ListComp elt [⟨tg, iter, ifs, 0⟩] scope pos) (some (.Name y py)) spos.line X.env = pure true) (hy : X.N[i]? = some y := by rfl) (hyl : X.env.scope.names.lookup y = some .local := by rfl) (hc : X.calm = true := by rfl) (hs : ∀ x, foldedSetIterable iter X.env x = pure x := by intro _; rfl) :
    SS X (.Assign [.Name y py] (.ListComp elt [⟨tg, iter, ifs, 0⟩] scope pos) spos) (tAsg (tLc wi g tt te (own.map (·.2))) (gName i)) (sSet i (mLc (own.map (·.2)) mi b mt me)) := by
  refine ⟨ps_setLc hc hN hy hyl hsw hi.pi ok (fun s H C cl fp => (hg s H C cl fp).pg) (fun s H C cl fp => (ht s H C cl fp).pt) (fun s H C cl fp => (he s H C cl fp).pe) hs, so_set ?_⟩
  exact so_mlc hi.so (hg {} (fun _ => none) (0 : Nat) [] []).so (ht {} (fun _ => none) (0 : Nat) [] []).so (he {} (fun _ => none) (0 : Nat) [] []).so
end
end Pd

set_option Elab.async false
set_option linter.all false
set_option maxRecDepth 100000
set_option maxHeartbeats 4000000
/-! Pd10: bodies of defs; star defs; dicts; a module's constants; tuple(range(a, b, c)). -/
namespace Pd
open PySem PySem.Spec PyProof.Rows L2
section
variable {K : PySem.W.Frag} {io : Option (Nat × V)} {B B' H H' : Hp} {ps : List (V × D)} {ε ε' : En} {σ : L2.St}
def toSl (d : D) : Slot := if frozen d then .ow d else .bo d
def envP (ds : List D) (m : Nat) : En := ds.map toSl ++ List.replicate m .no
def stP (vs : List V) (m : Nat) : L2.St := vs.map some ++ List.replicate m none
theorem slots_nil : ∀ m : Nat, slotsL (List.replicate m .no) (List.replicate m none) = []
  | 0 => rfl
  | m + 1 => by simp only [List.replicate_succ, slotsL, Slot.mine]; exact slots_nil m
theorem own_init {B : Hp} {m : Nat} : ∀ {vs : List V} {ds : List D}, RepL K H vs ds → Owns K H B (slotsL (envP ds m) (stP vs m))
  | _, _, .nil => by
    show Owns K H B (slotsL (List.replicate m .no) (List.replicate m none))
    rw [slots_nil]; exact Owns.nil
  | v :: vs, d :: ds, .cons r t => by
    have ih := own_init (m := m) (B := B) t
    show Owns K H B (slotsL (toSl d :: envP ds m) (some v :: stP vs m))
    unfold toSl
    split
    · rename_i hz
      exact ih.frz r hz
    · exact ih
theorem envP_len {vs : List V} {ds : List D} {m : Nat} (r : RepL K H vs ds) : (envP ds m).length = (stP vs m).length := by simp [envP, stP, r.length]
theorem envP_at {m : Nat} : ∀ {vs : List V} {ds : List D} {i : Nat} {s : Slot}, RepL K H vs ds → (envP ds m)[i]? = some s → s = .no ∨ ∃ v d, s = toSl d ∧ (stP vs m)[i]? = some (some v) ∧ Rep K H v d
  | _, _, i, s, .nil, h => by
    have h : (List.replicate m Slot.no)[i]? = some s := h
    rw [List.getElem?_replicate] at h
    split at h
    · cases h; exact .inl rfl
    · cases h
  | v :: vs, d :: ds, 0, s, .cons r t, h => by
    have h : some (toSl d) = some s := h
    cases h
    exact .inr ⟨v, d, rfl, rfl, r⟩
  | v :: vs, d :: ds, i + 1, s, .cons r t, h => envP_at (m := m) (i := i) t (by exact h)
theorem Ok.init {vs : List V} {ds : List D} {m : Nat} (r : RepL K H vs ds) : Ok K none H [] (envP ds m) (stP vs m) H := by
  refine ⟨envP_len r, Same.refl H, own_init r, fun i s d h hm => ?_, fun i d h => ?_, fun i d h => ?_, fun i v h => nomatch h⟩
  · rcases envP_at r h with rfl | ⟨v, d', rfl, hv, _⟩
    · cases hm
    · exact ⟨v, hv⟩
  · rcases envP_at r h with h | ⟨v, d', h, hv, r'⟩
    · cases h
    · unfold toSl at h
      split at h
      · cases h
      · cases h; exact ⟨v, hv, r'⟩
  · rcases envP_at r h with h | ⟨v, d', h, hv, r'⟩
    · cases h
    · unfold toSl at h
      split at h <;> cases h
end
def seP (d : D) : SE := ⟨fun _ => d = .none, fun d' _ => d' = d, fun _ => False, fun _ => False⟩
def seI (k : Nat) (r d' : D) : SE := ⟨fun ε => r = .none ∧ ε[k]? = some (.io d'), fun d0 ε => d0 = r ∧ ε[k]? = some (.io d'), fun _ => False, fun _ => False⟩
section
variable {P : Program} {w : World} {K : PySem.W.Frag} {mg : Str → Option Value} {base : Heap} {x qual y : Str} {st : Stmt} {f : Addr} {fd : FuncData} {N ps : List Str} {k : Nat}
/-- the body of a def that changes nothing -/
theorem fnP {g : List D → Option D} {sem : FS} (F : Fun K x qual st f fd) (S : FnScope N ps (defScope st)) (hb : Binds K fd ps []) (hm : mg y = some (.ref f))
    (body : ∀ (cdv : Value) (A : Around) (outer : List Env) (s : Shared) (H : Hp) (E : XK), RoomG k (A.deeper (envOfC qual (defScope st) s.heap.objs.size f cdv)) → ∃ t, SSs (cxOf CX0 P w K mg base N qual (defScope st) f cdv A outer s H E).nox (defBody st) t sem)
    (law : ∀ ds d, ds.length = ps.length → g ds = some d → sem (seP d) (envP ds (N.length - ps.length))) : FnD P w K mg base y (k + 1) (spP K ps.length g) := by
  have ok : FnRG P w K mg base (k + 1) f (spP K ps.length g) := by
    refine fnG_of F S hb (fun vs H Q E ⟨ds, d, r, hl, _⟩ => by rw [r.length]; exact hl) fun cdv A outer s H vs Q E hr ⟨ds, d, r, hl, hg, k⟩ => ?_
    obtain ⟨t, hs⟩ := body cdv A outer s H E hr
    refine ⟨t, hs.ps, ?_⟩
    have o := Ok.init (m := N.length - ps.length) r
    have e : L2.start N vs = stP vs (N.length - ps.length) := by
      unfold L2.start stP
      rw [r.length, hl]
    rw [e]
    refine hs.so none H _ _ H (seP d) _ o ⟨?_, ?_, ?_, ?_⟩ (law ds d hl hg)
    · intro B' ε σ H' e o' q
      have q : d = .none := q
      subst q
      exact k .non H' (e.trans o'.sm) (newNon.back (e.trans o'.sm))
    · intro B' v d' ε σ H' e o' q
      have q : d' = d := q
      subst q
      obtain ⟨fp, rp, nd, hf⟩ := o'.own
      refine k v H' (e.trans o'.sm) ?_
      cases rp with
      | @cons _ _ _ f g r _ =>
        exact ⟨f, r, (List.nodup_append.mp nd).1, fun a ha => Sm.free e (hf a (List.mem_append_left _ ha))⟩
    · intro B' ε σ H' e o' q; exact q.elim
    · intro B' ε σ H' e o' q; exact q.elim
  exact ⟨f, ok, hm, F.kp⟩
/-- the start of a body that changes its k-th argument -/
def envI (dpre : List D) (d : D) (dpost : List D) (m : Nat) : En := dpre.map toSl ++ .io d :: envP dpost m
def stI (pre : List V) (v : V) (post : List V) (m : Nat) : L2.St := pre.map some ++ some v :: stP post m
theorem initI {H : Hp} {v : V} {d : D} {fp : List Addr} {post : List V} {dpost : List D} {m : Nat} (rv : Rp K H v d fp) (nd : fp.Nodup) (r2 : RepL K (fun b => if b ∈ fp then none else H b) post dpost) : ∀ {pre : List V} {dpre : List D}, RepL K (fun b => if b ∈ fp then none else H b) pre dpre →
    Ok K (some (pre.length, v)) (fun b => if b ∈ fp then none else H b) [] (envI dpre d dpost m) (stI pre v post m) H
  | _, _, .nil => by
    have sm : Same (fun b => if b ∈ fp then none else H b) H := fun a ob q => by
      have q : (if a ∈ fp then none else H a) = some ob := q
      split at q
      · cases q
      · exact q
    have o := Ok.init (m := m) r2
    refine ⟨by simpa [envI, stI] using o.len, sm, ?_, fun i s e h hm => ?_, fun i e h => ?_, fun i e h => ?_, fun i u h => ?_⟩
    · have ow := own_init (K := K) (H := H) (B := fun b => if b ∈ fp then none else H b) (m := m) (r2.mono (smOf sm))
      have own0 : slotsL (envP dpost m) (stP post m) = slotsL (envP dpost m) (stP post m) := rfl
      show Owns K H _ ((v, d) :: slotsL (envP dpost m) (stP post m))
      have fz : ∀ {vs : List V} {ds : List D}, RepL K H vs ds → RpP K H (slotsL (envP ds m) (stP vs m)) [] := by
        intro vs ds r
        induction ds generalizing vs with
        | nil =>
          cases r
          show RpP K H (slotsL (List.replicate m .no) (List.replicate m none)) []
          rw [slots_nil]; exact .nil
        | cons d ds ih =>
          cases r with
          | cons r t =>
            show RpP K H (slotsL (toSl d :: envP ds m) (some _ :: stP _ m)) []
            unfold toSl
            split
            · rename_i hz
              exact RpP.cons (g := []) (r.frz hz) (ih t)
            · exact ih t
      refine ⟨fp ++ [], .cons rv (fz (r2.mono (smOf sm))), by simpa using nd, fun a ha => ?_⟩
      rw [List.append_nil] at ha
      show (if a ∈ fp then none else H a) = none
      rw [if_pos ha]
    · cases i with
      | zero => exact ⟨v, rfl⟩
      | succ i => exact o.has i s e h hm
    · cases i with
      | zero => cases h
      | succ i => exact o.bo i e h
    · cases i with
      | zero => exact ⟨v, rfl⟩
      | succ i =>
        obtain ⟨u, z⟩ := o.io1 i e h
        cases z
    · cases h
      exact ⟨rfl, d, rfl⟩
  | u :: pre, e :: dpre, .cons r t => by
    have o := initI rv nd r2 (m := m) t
    have hz0 : ∀ s : Slot, s = toSl e → Ok K (some (pre.length + 1, v)) (fun b => if b ∈ fp then none else H b) [] (s :: envI dpre d dpost m) (some u :: stI pre v post m) H := by
      intro s hs
      refine ⟨by simpa using o.len, o.sm, ?_, fun i s' e' h hm => ?_, fun i e' h => ?_, fun i e' h => ?_, fun i u' h => ?_⟩
      · have ow := o.own
        unfold toSl at hs
        split at hs
        · rename_i hz
          subst hs
          exact ow.frz (r.mono (smOf o.sm)) hz
        · subst hs
          exact ow
      · cases i with
        | zero => exact ⟨u, rfl⟩
        | succ i => exact o.has i s' e' h hm
      · cases i with
        | zero =>
          have h : some s = some (.bo e') := h
          cases h
          unfold toSl at hs
          split at hs
          · cases hs
          · cases hs; exact ⟨u, rfl, r⟩
        | succ i => exact o.bo i e' h
      · cases i with
        | zero =>
          have h : some s = some (.io e') := h
          cases h
          unfold toSl at hs
          split at hs <;> cases hs
        | succ i =>
          obtain ⟨u', z⟩ := o.io1 i e' h
          cases z
          exact ⟨_, rfl⟩
      · cases h
        exact o.io2 pre.length v rfl
    exact hz0 (toSl e) rfl
theorem fnI {g : List D → Option (D × D)} {sem : FS} (kk : Nat) (F : Fun K x qual st f fd) (S : FnScope N ps (defScope st)) (hb : Binds K fd ps []) (hm : mg y = some (.ref f))
    (body : ∀ (cdv : Value) (A : Around) (outer : List Env) (s : Shared) (H : Hp) (E : XK), RoomG k (A.deeper (envOfC qual (defScope st) s.heap.objs.size f cdv)) → ∃ t, SSs (cxOf CX0 P w K mg base N qual (defScope st) f cdv A outer s H E).nox (defBody st) t sem)
    (law : ∀ dpre d dpost r d', dpre.length = kk → dpre.length + 1 + dpost.length = ps.length → g (dpre ++ d :: dpost) = some (r, d') → sem (seI kk r d') (envI dpre d dpost (N.length - ps.length))) : FnD P w K mg base y (k + 1) (spI K ps.length kk g) := by
  have ok : FnRG P w K mg base (k + 1) f (spI K ps.length kk g) := by
    refine fnG_of F S hb (fun vs H Q E ⟨pre, post, dpre, dpost, v, d, r, d', fp, Hm, e, hl, hn, _⟩ => by rw [e, ← hn]; simp; omega) fun cdv A outer s H vs Q E hr ⟨pre, post, dpre, dpost, v, d, r, d', fp, Hm, e, hl, hn, rv, nd, eH, r1, r2, hg, k⟩ => ?_
    subst e eH
    obtain ⟨t, hs⟩ := body cdv A outer s H E hr
    refine ⟨t, hs.ps, ?_⟩
    have o := initI (m := N.length - ps.length) rv nd r2 r1
    have e : L2.start N (pre ++ v :: post) = stI pre v post (N.length - ps.length) := by
      unfold L2.start stI stP
      rw [List.map_append, List.map_cons, List.append_assoc]
      have : (pre ++ v :: post).length = ps.length := by simp; omega
      rw [this]
      rfl
    rw [e]
    rw [hl] at o
    have hd1 := r1.length
    have hd2 := r2.length
    refine hs.so _ _ _ _ H (seI kk r d') _ o ⟨?_, ?_, ?_, ?_⟩ (law dpre d dpost r d' (by omega) (by omega) hg)
    · intro B' ε σ H' e o' q
      obtain ⟨q1, q2⟩ := (show r = .none ∧ ε[kk]? = some (.io d') from q)
      subst q1
      refine k .non H' (e.trans o'.sm) ?_
      obtain ⟨hv, _⟩ := o'.io2 kk v rfl
      have pm := slots_out q2 rfl hv (s' := .no) rfl
      have ow := (o'.own.perm (L' := (v, d') :: slotsL (ε.set kk .no) σ) pm.symm).sub (L' := [(v, d')]) (by simp)
      exact (ow.frz .non rfl).base e
    · intro B' u d0 ε σ H' e o' q
      obtain ⟨q1, q2⟩ := (show d0 = r ∧ ε[kk]? = some (.io d') from q)
      subst q1
      refine k u H' (e.trans o'.sm) ?_
      obtain ⟨hv, _⟩ := o'.io2 kk v rfl
      have pm := slots_out q2 rfl hv (s' := .no) rfl
      have ow := (o'.own.perm (L' := (u, d0) :: (v, d') :: slotsL (ε.set kk .no) σ) (pm.symm.cons _)).sub (L' := [(u, d0), (v, d')]) (by simp)
      exact ow.base e
    · intro B' ε σ H' e o' q; exact q.elim
    · intro B' ε σ H' e o' q; exact q.elim
  exact ⟨f, ok, hm, F.kp⟩
/-- def f(a, .., *v): what is left over comes as a tuple -/
theorem cxUp0 : StX.CXUp CX0 := fun _ _ _ _ _ _ _ _ _ _ _ z => z
def gStar (n : Nat) (g : List D → Option D) : List D → Option D := fun ds => g (ds.take n ++ [.tuple (ds.drop n)])
theorem fnGS_of {pv : Str} {sp : Sp} (F : Fun K x qual st f fd) (S : FnScope N (ps ++ [pv]) (defScope st))
    (hb : ∀ (dV kV doc pm cdv ct : Value) (an : Option Addr) (us rest : List Value), us.length = ps.length → bindArgs (PySem.W.fnOf x qual (defArgs st) (defBody st) (defScope st) .none kV doc pm an cdv ct) ⟨us ++ rest, []⟩ = (newTuple rest >>= fun t => pure (ps.zip us ++ [(pv, t)])))
    (body : ∀ (cdv : Value) (A : Around) (out : List Env) (s : Shared) (H : Hp) (vs : List V) (Q : VK) (E : XK), RoomG k (A.deeper (envOfC qual (defScope st) s.heap.objs.size f cdv)) → sp vs H Q E →
      ∃ t, PSs (cxOf CX0 P w K mg base N qual (defScope st) f cdv A out s H E).nox (defBody st) t ∧ t { nx := fun _ H' => Q .non H', rt := Q } (L2.start N vs) H) :
    FnRG P w K mg base (k + 1) f (fun vs H Q E => ∃ ws rest, vs = ws ++ rest ∧ ws.length = ps.length ∧ rest.length ≤ sizeLine ∧ ∀ p, H p = none → sp (ws ++ [V.ref p]) (upd H p (.tup rest)) Q E) := by
  obtain ⟨oc, od, kV, doc, pm, an, cdv, ct, osl, efd, lk, hcd⟩ := F.ex
  subst efd
  rintro A out s H us vs Q E hr e0 r ⟨ws, rest, rfl, hl, hz, hq⟩
  obtain ⟨u1, u2, rfl, r1, r2⟩ := StX.vals_split r
  have free : H s.heap.objs.size = none := e0.hok.fresh (Nat.le_refl _)
  have z2 : u2.length ≤ sizeLine := by rw [← r2.length]; exact hz
  refine StX.run_bnd (G := fun xs H2 => ∃ p, H p = none ∧ xs = ws ++ [V.ref p] ∧ H2 = upd H p (.tup rest)) lk hcd S hr.r e0 ?_ ?_
  · intro A' Ex Q' q
    rw [hb .none kV doc pm cdv ct an u1 u2 (by rw [← r1.length]; exact hl)]
    refine wpAny_bind (wpAny_newTuple (wpAny_pure ?_) z2)
    have un := StX.un_laid (fs := frs out) (s := s) (o := ({ cls := .type "tuple", data := .seq u2.toArray } : Obj)) (u := .tup rest) free
    have ok : ObjOk P w (upd H s.heap.objs.size (.tup rest)) (s.heap.push ({ cls := .type "tuple", data := .seq u2.toArray } : Obj)) s.heap.objs.size (.tup rest) := ⟨hz, u2, r2, _, Heap.get?_push_size _ rfl, rfl, _, rfl⟩
    have all : Vals (ws ++ [V.ref s.heap.objs.size]) (u1 ++ [Value.ref s.heap.objs.size]) := r1.append (.cons rfl .nil)
    have fin := q _ _ _ _ (StX.env0_laid e0 ok) un rfl (fun _ _ z => z) all (by simp [hl]) ⟨_, free, rfl, rfl⟩
    rw [List.zip_append (by rw [← r1.length]; exact hl.symm)] at fin
    exact fin
  · rintro s2 H2 xs ⟨p, hp, rfl, rfl⟩ hr'
    obtain ⟨t, ht, y⟩ := body cdv A out s2 _ _ Q E ⟨hr', hr.g⟩ (hq p hp)
    exact ⟨t, ht.nox, y⟩
theorem fnS {g : List D → Option D} {sem : FS} {pv : Str} {n : Nat} (hn : ps.length ≤ n ∧ n ≤ 1000) (F : Fun K x qual st f fd) (S : FnScope N (ps ++ [pv]) (defScope st)) (hm : mg y = some (.ref f))
    (hb : ∀ (dV kV doc pm cdv ct : Value) (an : Option Addr) (us rest : List Value), us.length = ps.length → bindArgs (PySem.W.fnOf x qual (defArgs st) (defBody st) (defScope st) .none kV doc pm an cdv ct) ⟨us ++ rest, []⟩ = (newTuple rest >>= fun t => pure (ps.zip us ++ [(pv, t)])))
    (body : ∀ (cdv : Value) (A : Around) (outer : List Env) (s : Shared) (H : Hp) (E : XK), RoomG k (A.deeper (envOfC qual (defScope st) s.heap.objs.size f cdv)) → ∃ t, SSs (cxOf CX0 P w K mg base N qual (defScope st) f cdv A outer s H E).nox (defBody st) t sem)
    (law : ∀ ds d, ds.length = ps.length + 1 → g ds = some d → sem (seP d) (envP ds (N.length - (ps.length + 1)))) : FnD P w K mg base y (k + 1) (spP K n (gStar ps.length g)) := by
  have run := fnGS_of (P := P) (w := w) (K := K) (mg := mg) (base := base) (k := k) (ps := ps) (pv := pv) (sp := spP K (ps.length + 1) g) F S hb (fun cdv A outer s H vs Q E hr ⟨ds, d, r, hl, hg, k⟩ => ?_)
  · refine ⟨f, run.imp fun vs H Q E ⟨ds, d, r, hl, hg, k⟩ => ?_, hm, F.kp⟩
    have e1 := r.length
    refine ⟨vs.take ps.length, vs.drop ps.length, (List.take_append_drop _ _).symm, by simp; omega, by rw [List.length_drop]; exact small1000' (by omega), fun p hp => ⟨ds.take ps.length ++ [.tuple (ds.drop ps.length)], d, ?_, by simp; omega, (show g (ds.take ps.length ++ [.tuple (ds.drop ps.length)]) = some d from hg), fun v H' s nw => k v H' ((sameNew hp _).trans s) (nw.back (sameNew hp _))⟩⟩
    exact ((r.take _).mono (smOf (sameNew hp _))).append (.cons (.tup (.inl (.inl upd_same)) ((r.drop _).mono (smOf (sameNew hp _)))) .nil)
  · obtain ⟨t, hs⟩ := body cdv A outer s H E hr
    refine ⟨t, hs.ps, ?_⟩
    have o := Ok.init (m := N.length - (ps.length + 1)) r
    have e : L2.start N vs = stP vs (N.length - (ps.length + 1)) := by
      unfold L2.start stP
      rw [r.length, hl]
    rw [e]
    refine hs.so none H _ _ H (seP d) _ o ⟨?_, ?_, ?_, ?_⟩ (law ds d hl hg)
    · intro B' ε σ H' e o' q
      have q : d = .none := q
      subst q
      exact k .non H' (e.trans o'.sm) (newNon.back (e.trans o'.sm))
    · intro B' v d' ε σ H' e o' q
      have q : d' = d := q
      subst q
      obtain ⟨fp, rp, nd, hf⟩ := o'.own
      refine k v H' (e.trans o'.sm) ?_
      cases rp with
      | @cons _ _ _ f g r _ =>
        exact ⟨f, r, (List.nodup_append.mp nd).1, fun a ha => Sm.free e (hf a (List.mem_append_left _ ha))⟩
    · intro B' ε σ H' e o' q; exact q.elim
    · intro B' ε σ H' e o' q; exact q.elim
end
end Pd

set_option Elab.async false
set_option linter.all false
set_option maxRecDepth 100000
set_option maxHeartbeats 4000000
/-! Pd11: tuple(range(a, b, c)); a module's whole numbers; dicts with whole numbers or texts as keys. -/
namespace Pd
open PySem PySem.Spec PyProof.Rows L2
def rgV3 (a c : Int) (n : Nat) : List V := (List.range n).map fun i => V.int (a + (i : Nat) * c)
theorem rep_rgC {K : PySem.W.Frag} {H : Hp} (a c : Int) (n : Nat) : RepL K H (rgV3 a c n) (rgC a c n) := by
  unfold rgV3 rgC
  generalize List.range n = L
  induction L with
  | nil => exact .nil
  | cons i L ih => exact .cons (.int _) ih
theorem frz_rgC (a c : Int) (n : Nat) : frozenL (rgC a c n) = true := by
  unfold rgC
  generalize List.range n = L
  induction L with
  | nil => rfl
  | cons i L ih => simp only [List.map_cons, frozenL, frozen, ih] <;> rfl
def tTrg3 (ta : TA) : TE := fun σ H Q => ta σ H fun vs H1 => ∃ (i j c : Int) (n : Nat), vs = [.int i, .int j, .int c] ∧ RgC i j c n ∧ n ≤ 2 ^ 24 ∧ ∀ q, H1 q = none → Q (.ref q) (upd H1 q (.tup (rgV3 i c n)))
noncomputable def gTrg3 : List D → Option D
  | [.int i, .int j, .int c] => if rg3Ok i j c && decide ((Builtin.Range.rangeSize i j c).toNat ≤ 1000000) then some (.tuple (rgC i c (Builtin.Range.rangeSize i j c).toNat)) else none
  | _ => none
section
variable {X : Cx} {a b c e : Expr} {es : List Expr} {t : TA} {fs : En → Option (List D)} {p p2 pos pos2 px py : Pos} {x : Str}
theorem pe_trg3 (hc : X.calm = true) (hgt : Gl X "tuple") (hmt : X.mg "tuple" = none) (hg : Gl X "range") (hm : X.mg "range" = none) (ha : PA X [a, b, c] t)
    (hs : starEach [a, b, c] X.env = (false, eval a X.env) :: starEach [b, c] X.env) (hpl : (backTo pos2 (starEach [b, c] X.env)).any (·.1) = false)
    (na : starEach [.Call (.Name "range" p2) [a, b, c] [] pos2] X.env = (false, eval (.Call (.Name "range" p2) [a, b, c] [] pos2) X.env) :: starEach [] X.env) :
    PE X (.Call (.Name "tuple" p) [.Call (.Name "range" p2) [a, b, c] [] pos2] [] pos) (tTrg3 t) := by
  constructor
  intro pins s σ H Q I h
  refine Call_ (ld_blt I hgt hmt boot_tuple ?_)
  refine PyProof.Rows.callWith_type1 (args_cons ?_ na) na
  refine Call_ (ld_blt I hg hm boot_range ?_)
  refine PyProof.Rows.callWith_type1 ?_ hs hpl
  apply thn (ha.run pos2 pins s σ H _ I h)
  intro us s1 h1
  obtain ⟨vs, H1, I1, r1, i, j, k, n, ev, ⟨c0, c1, c2, c3⟩, hn, q⟩ := h1
  subst ev
  cases r1 with
  | cons ra r1 =>
    cases r1 with
    | cons rb r1 =>
      cases r1 with
      | cons rc r1 =>
        cases r1
        obtain ⟨t1, rfl⟩ := ra
        obtain ⟨t2, rfl⟩ := rb
        obtain ⟨t3, rfl⟩ := rc
        refine call_range_3 c0 ?_ (.inl (PyProof.noPylong_small c1))
        apply args_nil
        have J : Inv X pins σ H1 { s1 with heap := s1.heap.push { cls := .type "range", data := .fields #[.int i t1, .int j t2, .int k t3] } } := I1.kept (t' := s1.toks) fun b o e => Heap.get?_push_of_some _ e
        refine call_tuple_range (n := n) (J.ok.hd hc) (IsRange.new ..) c2 c3 hn fun h' tk acc hk hi => ?_
        have J2 := J.kept (t' := tk) hk
        have rel : Vals (rgV3 i k n) acc.toList := by
          have el : acc.toList.length = n := by rw [Array.length_toList]; exact hi.1
          unfold rgV3
          rw [← el]
          refine vals_of_get acc.toList _ fun j u hj => ?_
          exact hi.2 j u (by rw [← hj, Array.getElem?_toList])
        have sz : (rgV3 i k n).length ≤ sizeLine := by unfold rgV3; rw [List.length_map, List.length_range, sizeLine_eq]; omega
        refine ⟨.ref h'.objs.size, upd H1 h'.objs.size (.tup (rgV3 i k n)), J2.laid (t' := tk) (fun c o e => Heap.get?_push_of_some _ e) (Nat.le_refl _) ?_, rfl, q _ (J2.hok.fresh (Nat.le_refl _))⟩
        show ObjOk X.prog X.w _ _ _ (.tup (rgV3 i k n))
        refine ⟨sz, acc.toList, rel, ?_⟩
        rw [Array.toArray_toList]
        exact IsTup.new _ _
theorem pf_trg3 (hmt : X.mg "tuple" = none) (hm : X.mg "range" = none) (ha : PAr X [a, b, c] t fs) (hc : X.calm = true := by rfl) (hgt : Gl X "tuple" := by rfl) (hg : Gl X "range" := by rfl)
    (hs : starEach [a, b, c] X.env = (false, eval a X.env) :: starEach [b, c] X.env := by rfl) (hpl : (backTo pos2 (starEach [b, c] X.env)).any (·.1) = false := by rfl)
    (na : starEach [.Call (.Name "range" p2) [a, b, c] [] pos2] X.env = (false, eval (.Call (.Name "range" p2) [a, b, c] [] pos2) X.env) :: starEach [] X.env := by rfl) :
    PF X (.Call (.Name "tuple" p) [.Call (.Name "range" p2) [a, b, c] [] pos2] [] pos) (tTrg3 t) (eCall gTrg3 fs) := by
  refine ⟨pe_trg3 hc hgt hmt hg hm ha.pa hs hpl na, fun ε σ H d Q o q k => ?_⟩
  obtain ⟨ds, q1, q⟩ := bindSome q
  unfold gTrg3 at q
  split at q
  · rename_i i j c
    split at q
    · rename_i hh
      cases q
      rw [Bool.and_eq_true] at hh
      obtain ⟨h1, h2⟩ := hh
      have h2 := of_decide_eq_true h2
      simp only [rg3Ok, Bool.and_eq_true, decide_eq_true_eq] at h1
      refine ha.so ε σ H _ _ o q1 fun vs H1 s1 r1 => ?_
      cases r1 with
      | cons ra r1 =>
        cases r1 with
        | cons rb r1 =>
          cases r1 with
          | cons rc r1 =>
            cases r1
            cases ra
            cases rb
            cases rc
            refine ⟨i, j, c, _, rfl, ⟨h1.1.1.1.1.2, by omega, h1.1.2, h1.2⟩, by omega, fun p hp => k _ _ (s1.trans (sameNew hp _)) (New.tup (NewL.frz (rep_rgC _ _ _) (frz_rgC _ _ _)) hp)⟩
    · cases q
  · cases q

/-! a module's own whole number -/
theorem pf_glob {i : Int} {tk : Tok} (hm : X.mg x = some (.int i tk)) (hg : Gl X x := by rfl) (hd : (x == ("__debug__" : Str)) = false := by decide) : PF X (.Name x pos) (tC (.int i)) (eC (.int i)) :=
  ⟨pe_glob hg hm ⟨tk, rfl⟩ hd, fun ε σ H d Q o q k => by cases q; exact k _ H (Same.refl H) newInt⟩

/-! ### dicts -/
def isKey : D → Bool
  | .int _ => true
  | .str _ => true
  | _ => false
def keq : D → D → Bool
  | .int i, .int j => decide (i = j)
  | .str a, .str b => decide (a = b)
  | _, _ => false
def putD (es : List (D × D)) (k y : D) : List (D × D) := if (es.any fun p => keq p.1 k) = true then es.map (fun p => if keq p.1 k = true then (p.1, y) else p) else es ++ [(k, y)]
def valD (es : List (D × D)) (k : D) : Option D := (es.find? fun p => keq p.1 k).map (·.2)
theorem keq_k (a b : Key) : keq (kD a) (kD b) = decide (a = b) := by
  cases a <;> cases b <;> simp [kD, keq]
theorem isKey_k (a : Key) : isKey (kD a) = true := by cases a <;> rfl
theorem isKey_of {d : D} (h : isKey d = true) : ∃ k : Key, d = kD k := by
  cases d with
  | int i => exact ⟨.inl i, rfl⟩
  | str s => exact ⟨.inr s, rfl⟩
  | _ => cases h
inductive DR (K : PySem.W.Frag) (H : Hp) : List (Key × V) → List (D × D) → Prop
  | nil : DR K H [] []
  | cons {k : Key} {v : V} {d : D} {t : List (Key × V)} {es : List (D × D)} : Rep K H v d → DR K H t es → DR K H ((k, v) :: t) ((kD k, d) :: es)
theorem DR.of {K : PySem.W.Frag} {H : Hp} : ∀ {kvs : List (Key × V)} {ds : List D}, RepL K H (kvs.map fun p => p.2) ds → DR K H kvs ((kvs.map fun p => kD p.1).zip ds)
  | [], _, .nil => .nil
  | _ :: _, _ :: _, .cons r t => .cons r (DR.of t)
theorem DR.to {K : PySem.W.Frag} {H : Hp} {kvs : List (Key × V)} {es : List (D × D)} (r : DR K H kvs es) : RepL K H (kvs.map fun p => p.2) (es.map fun p => p.2) ∧ es = (kvs.map fun p => kD p.1).zip (es.map fun p => p.2) := by
  induction r with
  | nil => exact ⟨.nil, rfl⟩
  | cons r _ ih => exact ⟨.cons r ih.1, by simp only [List.map_cons, List.zip_cons_cons]; rw [← ih.2]⟩
theorem DR.len {K : PySem.W.Frag} {H : Hp} {kvs : List (Key × V)} {es : List (D × D)} (r : DR K H kvs es) : kvs.length = es.length := by
  induction r with
  | nil => rfl
  | cons _ _ ih => simp [ih]
theorem DR.any {K : PySem.W.Frag} {H : Hp} {kvs : List (Key × V)} {es : List (D × D)} (r : DR K H kvs es) (k : Key) : (kvs.any fun kv => decide (kv.1 = k)) = (es.any fun p => keq p.1 (kD k)) := by
  induction r with
  | nil => rfl
  | cons _ _ ih => simp only [List.any_cons, keq_k, ih]
theorem DR.app {K : PySem.W.Frag} {H : Hp} {kvs : List (Key × V)} {es : List (D × D)} {k : Key} {v : V} {d : D} (r : DR K H kvs es) (rv : Rep K H v d) : DR K H (kvs ++ [(k, v)]) (es ++ [(kD k, d)]) := by
  induction r with
  | nil => exact .cons rv .nil
  | cons r _ ih => exact .cons r ih
theorem DR.map {K : PySem.W.Frag} {H : Hp} {kvs : List (Key × V)} {es : List (D × D)} {k : Key} {v : V} {d : D} (r : DR K H kvs es) (rv : Rep K H v d) : DR K H (kvs.map (fun kv => if kv.1 = k then (kv.1, v) else kv)) (es.map (fun p => if keq p.1 (kD k) = true then (p.1, d) else p)) := by
  induction r with
  | nil => exact .nil
  | @cons k' v' d' t es r _ ih =>
    simp only [List.map_cons, keq_k]
    by_cases hk : k' = k
    · rw [if_pos hk, if_pos (by simpa using hk)]
      exact .cons rv ih
    · rw [if_neg hk, if_neg (by simpa using hk)]
      exact .cons r ih
theorem DR.put {K : PySem.W.Frag} {H : Hp} {kvs : List (Key × V)} {es : List (D × D)} {k : Key} {v : V} {d : D} (r : DR K H kvs es) (rv : Rep K H v d) : DR K H (putK kvs k v) (putD es (kD k) d) := by
  unfold putK putD
  rw [r.any k]
  split
  · exact r.map rv
  · exact r.app rv
theorem DR.val {K : PySem.W.Frag} {H : Hp} {kvs : List (Key × V)} {es : List (D × D)} {k : Key} (r : DR K H kvs es) : (valV kvs k = none ∧ valD es (kD k) = none) ∨ ∃ v d, valV kvs k = some v ∧ valD es (kD k) = some d ∧ Rep K H v d := by
  unfold valV valD
  induction r with
  | nil => exact .inl ⟨rfl, rfl⟩
  | @cons k' v' d' t es r _ ih =>
    simp only [List.find?_cons, keq_k]
    by_cases hk : k' = k
    · simp only [hk, decide_true]
      exact .inr ⟨v', d', rfl, rfl, r⟩
    · simp only [hk, decide_false]
      exact ih
theorem DR.keys {K : PySem.W.Frag} {H : Hp} {kvs : List (Key × V)} {es : List (D × D)} (r : DR K H kvs es) : RepL K H (kvs.map fun kv => kV kv.1) (es.map fun p => p.1) := by
  induction r with
  | nil => exact .nil
  | @cons k' v' d' t es r _ ih =>
    have h : Rep K H (kV k') (kD k') := by
      cases k' with
      | inl i => exact Rep.int i
      | inr x => exact Rep.str x
    exact .cons h ih
/-- not the mark of a dict with tuples as keys -/
def plainD (es : List (D × D)) : Bool := es.all fun p => isKey p.1
theorem dicK {K : PySem.W.Frag} {H : Hp} {u : HO} {ks : List D} {xs : List V} {ds : List D} {es : List (D × D)} (q : DicV u ks xs) (r : RepL K H xs ds) (e : es = ks.zip ds) (h : plainD es = true) : ∃ kvs : List (Key × V), u = .dK kvs ∧ DR K H kvs es := by
  cases q with
  | k kvs => exact ⟨kvs, rfl, by rw [e]; exact DR.of r⟩
  | t kvs =>
    cases r with
    | cons r t =>
      subst e
      exact absurd h (by simp [plainD, isKey])
theorem newDic {K : PySem.W.Frag} {H : Hp} {p : Addr} (h : H p = none) : New K H (upd H p (.dK [])) (.ref p) (.dict []) := by
  refine ⟨[p], .dic upd_same (.k []) .nil rfl, by simp, fun a ha => ?_⟩
  obtain rfl := List.mem_singleton.mp ha
  exact h
theorem pf_dnew : PF X (.Dict [] [] pos) tDNewK (eC (.dict [])) := ⟨pe_dnewK, fun ε σ H d Q o q k => by
  cases q
  exact fun p hp => k _ _ (sameNew hp _) (newDic hp)⟩
/-- d[k] = v: the value, then the dict, then the key -/
def gPut (x k y : D) : Option D := match x with
  | .dict es => if (plainD es && isKey k && frozen y && frozenL (es.map fun p => p.2) && decide (es.length ≤ cap)) = true then some (.dict (putD es k y)) else none
  | _ => none
def sDput (i : Nat) (fk : FE) (m : FM) : FS := fun S ε => onSome (m ε) fun y => onSome (fk y.2) fun k => onSome (mineAt y.2 i) fun x => onSome (gPut x k y.1) fun w => S.nx (setMine y.2 i w)
theorem frzDic {K : PySem.W.Frag} {H B : Hp} {L : List (V × D)} {v : V} {es : List (D × D)} (o : Owns K H B ((v, .dict es) :: L)) (hp : plainD es = true) : ∃ a kvs, v = .ref a ∧ H a = some (.dK kvs) ∧ B a = none ∧ DR K H kvs es := by
  obtain ⟨fp, r, nd, f⟩ := o
  cases r with
  | cons r t =>
    cases r with
    | dic h q r e =>
      obtain ⟨kvs, rfl, dr⟩ := dicK q r.rep e hp
      exact ⟨_, kvs, rfl, h, f _ List.mem_cons_self, dr⟩
theorem putDic {K : PySem.W.Frag} {H B : Hp} {L : List (V × D)} {a : Addr} {u : V} {es : List (D × D)} {k : Key} {y : D} {kvs : List (Key × V)} (o : Owns K H B ((.ref a, .dict es) :: L)) (hH : H a = some (.dK kvs)) (dr : DR K H kvs es) (rv : Rep K H u y) (hy : frozen y = true) (hf : frozenL (es.map fun p => p.2) = true) :
    Owns K (upd H a (.dK (putK kvs k u))) B ((.ref a, .dict (putD es (kD k) y)) :: L) := by
  obtain ⟨fp, r, nd, f⟩ := o
  cases r with
  | @cons _ _ _ f1 g1 r t =>
    have ha : a ∈ f1 := by cases r with | dic => exact List.mem_cons_self
    have hna : ∀ b ∈ g1, b ≠ a := fun b hb z => (List.nodup_append.mp nd).2.2 a ha b hb z.symm
    have tk : ∀ b xs, SqT K H b xs → SqT K (upd H a (.dK (putK kvs k u))) b xs := fun b xs hx => by
      rcases hx with hx | hx
      · have nb : b ≠ a := by
          rintro rfl
          rcases hx with hx | ⟨o, hx⟩ <;> (rw [hH] at hx; cases hx)
        refine .inl ?_
        rcases hx with hx | ⟨o, hx⟩
        · exact .inl (by rw [upd_ne nb]; exact hx)
        · exact .inr ⟨o, by rw [upd_ne nb]; exact hx⟩
      · exact .inr hx
    have t2 := t.keep tk fun b hb => upd_ne (hna b hb)
    have dr2 := dr.put (k := k) rv
    obtain ⟨p1, p2⟩ := dr2.to
    have hz : frozenL ((putD es (kD k) y).map fun p => p.2) = true := by
      rw [frozenL_all, List.all_eq_true] at hf ⊢
      intro x hx
      obtain ⟨q, hq, rfl⟩ := List.mem_map.mp hx
      unfold putD at hq
      split at hq
      · obtain ⟨z, hz, rfl⟩ := List.mem_map.mp hq
        split
        · exact hy
        · exact hf _ (List.mem_map.mpr ⟨z, hz, rfl⟩)
      · rcases List.mem_append.mp hq with hq | hq
        · exact hf _ (List.mem_map.mpr ⟨q, hq, rfl⟩)
        · obtain rfl := List.mem_singleton.mp hq
          exact hy
    have p3 : RpL K (upd H a (.dK (putK kvs k u))) ((putK kvs k u).map fun p => p.2) ((putD es (kD k) y).map fun p => p.2) [] := (p1.frz hz).keep tk fun b hb => nomatch hb
    refine ⟨[a] ++ g1, .cons (.dic upd_same (.k _) p3 p2) t2, ?_, fun b hb => ?_⟩
    · exact List.nodup_append.mpr ⟨by simp, (List.nodup_append.mp nd).2.1, fun b hb c hc z => by
        obtain rfl := List.mem_singleton.mp hb
        exact hna c hc z.symm⟩
    · rcases List.mem_append.mp hb with hb | hb
      · obtain rfl := List.mem_singleton.mp hb
        exact f _ (List.mem_append_left _ ha)
      · exact f b (List.mem_append_right _ hb)
theorem ss_dput {i : Nat} {x : Str} {ie ve : Expr} {ti tv : TE} {f : FE} {m : FM} (hu : X.A.units + 1 < cLine) (hk : PP X ie ti f) (hv : MM X ve tv m) (hN : X.N[i]? = some x := by rfl) (hvis : Vis X.env.scope x := by first | exact Or.inl rfl | exact Or.inr (Or.inl rfl) | exact Or.inr (Or.inr rfl)) (hd : (x == ("__debug__" : Str)) = false := by decide) (hcd : (x == ("__classdict__" : Str)) = false := by decide)
    (hs : swapsWith ve (some (.Subscript (.Name x px) ie py)) pos.line X.env = pure false := by rfl) :
    SS X (.Assign [.Subscript (.Name x px) ie py] ve pos) (sDPut (tVar i) ti tv) (sDput i f m) := by
  refine ⟨ps_dput hu (pe_var hN hvis hd hcd) hk.pe hv.pe hs, fun io B ε σ H S D' o re h => ?_⟩
  obtain ⟨⟨y, ε1⟩, q, h⟩ := onSome_of h
  obtain ⟨kd, q2, h⟩ := onSome_of h
  obtain ⟨x0, q3, h⟩ := onSome_of h
  obtain ⟨w, q4, h⟩ := onSome_of h
  refine hv.so io B [] ε ε1 σ H y _ o q fun u B1 H1 s1 o1 => ?_
  cases x0 with
  | dict es =>
    simp only [gPut] at q4
    split at q4
    · rename_i hc
      cases q4
      simp only [Bool.and_eq_true, decide_eq_true_eq] at hc
      obtain ⟨⟨⟨⟨c1, c2⟩, c3⟩, c4⟩, c5⟩ := hc
      obtain ⟨kk, rfl⟩ := isKey_of c2
      have ru : Rep X.K H1 u y := o1.own.rep List.mem_cons_self
      obtain ⟨v, hσ, ow⟩ := o1.drop.takeS q3
      refine ⟨v, hσ, hk.so ε1 σ H1 _ _ o1.okR q2 fun kv H2 s2 rk => ?_⟩
      obtain ⟨a, kvs, rfl, hH, hB, dr⟩ := frzDic (ow.same s2) c1
      have ekv : kv = kV kk := by cases kk <;> (cases rk; rfl)
      subst ekv
      refine ⟨a, upd H2 a (.dK (putK kvs kk u)), rfl, .inl ⟨kvs, kk, hH, rfl, by rw [dr.len]; exact cap_lt c5, rfl⟩, ?_⟩
      have o2 := (o1.same s2).drop.giveS (ps' := []) q3 hσ (Same.updN (o1.same s2).sm hB _) (putDic (k := kk) (ow.same s2) hH dr (ru.mono (smOf s2)) c3 c4)
      exact re.nx B1 _ _ _ s1 o2 h
    · cases q4
  | _ => cases q4
def gListD : List D → Option D
  | [.dict es] => if plainD es then some (.list (es.map fun p => p.1)) else none
  | _ => none
theorem keys_frz {es : List (D × D)} (h : plainD es = true) : frozenL (es.map fun p => p.1) = true := by
  rw [frozenL_all, List.all_eq_true]
  intro x hx
  obtain ⟨q, hq, rfl⟩ := List.mem_map.mp hx
  obtain ⟨k, e⟩ := isKey_of (List.all_eq_true.mp h q hq)
  rw [e]
  cases k <;> rfl
theorem c_listD (hc : X.calm = true := by rfl) : CallP X (.type "list") (fun xs H Q => ∃ (a : Addr) (kvs : List (Key × V)), xs = [.ref a] ∧ Rd H a (.dK kvs) ∧ ∀ p, H p = none → Q (.ref p) (upd H p (.lst (kvs.map fun kv => kV kv.1)))) gListD := by
  refine ⟨call_listD hc, fun vs ds z H Q r e k => ?_⟩
  unfold gListD at e
  split at e
  · rename_i es
    split at e
    · rename_i hp
      cases e
      obtain ⟨v, rfl, rv⟩ := rep1 r
      cases rv with
      | dic h q rr e =>
        obtain ⟨kvs, rfl, dr⟩ := dicK q rr e hp
        exact ⟨_, kvs, rfl, h, fun p hn => k _ _ (sameNew hn _) (New.lst (NewL.frz dr.keys (keys_frz hp)) (Same.refl _) hn)⟩
      | scr h rr => exact absurd hp (by simp [plainD, isKey])
    · cases e
  · cases e
end
end Pd

set_option Elab.async false
set_option linter.all false
set_option maxRecDepth 100000
set_option maxHeartbeats 4000000
/-! Pd12: names as owned values, tuples and lists of owned values. -/
namespace Pd
open PySem PySem.Spec PyProof.Rows L2
section
variable {X : Cx} {a e : Expr} {es : List Expr} {ta : TE} {t : TA} {ma : FM} {ms : En → Option (List D × En)} {pos : Pos}
def mVar (i : Nat) : FM := fun ε => match ε[i]? with
  | some (.ow d) => some (d, if frozen d = true then ε else ε.set i .no)
  | some (.bo d) => if frozen d = true then some (d, ε) else none
  | _ => none
theorem mm_var (i : Nat) {x : Str} (hN : X.N[i]? = some x := by rfl) (hv : Vis X.env.scope x := by first | exact Or.inl rfl | exact Or.inr (Or.inl rfl) | exact Or.inr (Or.inr rfl)) (hd : (x == ("__debug__" : Str)) = false := by decide) (hcd : (x == ("__classdict__" : Str)) = false := by decide) :
    MM X (.Name x pos) (tVar i) (mVar i) := by
  refine ⟨pe_var hN hv hd hcd, fun io B ps ε ε' σ H d Q o q k => ?_⟩
  unfold mVar at q
  split at q
  · rename_i d0 hs
    obtain ⟨v, hσ⟩ := o.has i _ _ hs rfl
    refine ⟨v, hσ, ?_⟩
    cases q
    by_cases hz : frozen d = true
    · rw [if_pos hz] at k
      have rv : Rep X.K H v d := o.own.rep (List.mem_append_right _ (slots_mem hs rfl hσ))
      exact k v B H (Same.refl B) ⟨o.len, o.sm, o.own.frz rv hz, o.has, o.bo, o.io1, o.io2⟩
    · rw [if_neg hz] at k
      exact k v B H (Same.refl B) (o.move hs hσ)
  · rename_i d0 hs
    split at q
    · rename_i hz
      cases q
      obtain ⟨v, hσ, r⟩ := o.bo i _ hs
      exact ⟨v, hσ, k v B H (Same.refl B) ⟨o.len, o.sm, o.own.frz (r.mono (smOf o.sm)) hz, o.has, o.bo, o.io1, o.io2⟩⟩
    · cases q
  · cases q
theorem Ok.perm {K : PySem.W.Frag} {io : Option (Nat × V)} {B H : Hp} {ps ps' : List (V × D)} {ε : En} {σ : L2.St} (o : Ok K io B ps ε σ H) (p : ps.Perm ps') : Ok K io B ps' ε σ H := ⟨o.len, o.sm, o.own.perm (p.append_right _), o.has, o.bo, o.io1, o.io2⟩
/-- parts that are owned, all of them -/
def MNo (K : PySem.W.Frag) (t : TA) (f : En → Option (List D × En)) : Prop := ∀ (io : Option (Nat × V)) (B : Hp) (ps : List (V × D)) (ε ε' : En) (σ : L2.St) (H : Hp) (ds : List D) (Q : List V → Hp → Prop), Ok K io B ps ε σ H → f ε = some (ds, ε') →
  (∀ vs B' H', Same B B' → vs.length = ds.length → Ok K io B' (vs.zip ds ++ ps) ε' σ H' → Q vs H') → t σ H Q
structure MN (X : Cx) (es : List Expr) (t : TA) (f : En → Option (List D × En)) : Prop where
  pa : PA X es t
  so : MNo X.K t f
theorem mn_nil : MN X [] tNil maNil := ⟨pa_nil, fun io B ps ε ε' σ H d Q o q k => by cases q; exact k [] B H (Same.refl B) rfl o⟩
theorem mn_cons (ha : MM X a ta ma) (hr : MN X es t ms) (hs : starEach (a :: es) X.env = (false, eval a X.env) :: starEach es X.env := by rfl) : MN X (a :: es) (tCons ta t) (maCons ma ms) := by
  refine ⟨pa_cons ha.pe hr.pa hs, fun io B ps ε ε' σ H d Q o q k => ?_⟩
  obtain ⟨⟨x, ε1⟩, q1, q⟩ := bindSome q
  obtain ⟨⟨xs, ε2⟩, q2, q3⟩ := bindSome q
  cases q3
  refine ha.so io B ps ε ε1 σ H x _ o q1 fun v B1 H1 s1 o1 => ?_
  refine hr.so io B1 _ ε1 _ σ H1 xs _ o1 q2 fun vs B2 H2 s2 hl o2 => ?_
  refine k (v :: vs) B2 H2 (s1.trans s2) (by simp [hl]) (o2.perm ?_)
  exact List.perm_middle
def mTup (fs : En → Option (List D × En)) : FM := fun ε => (fs ε).bind fun x => if x.1.length ≤ 1000 then some (.tuple x.1, x.2) else none
def mLst (fs : En → Option (List D × En)) : FM := fun ε => (fs ε).bind fun x => if x.1.length ≤ 1000 then some (.list x.1, x.2) else none
theorem mm_tup {x1} (h : MN X es t ms) : MM X (.Tuple es x1 pos) (tTup t) (mTup ms) := by
  refine ⟨pe_tup h.pa, fun io B ps ε ε' σ H d Q o q k => ?_⟩
  obtain ⟨⟨xs, ε1⟩, q1, q⟩ := bindSome q
  split at q
  · rename_i hl
    cases q
    refine h.so io B ps ε _ σ H xs _ o q1 fun vs B1 H1 s1 hv o1 => ⟨by rw [hv]; exact small1000' hl, fun p hp => ?_⟩
    refine k _ B1 _ s1 ⟨o1.len, o1.sm.trans (sameNew hp _), ?_, o1.has, o1.bo, o1.io1, o1.io2⟩
    have ow : Owns X.K (upd H1 p (.tup vs)) B1 (vs.zip xs ++ (ps ++ slotsL ε1 σ)) := by
      have := o1.own.same (sameNew hp (.tup vs))
      rwa [List.append_assoc] at this
    obtain ⟨fp, r, nd, f⟩ := ow
    obtain ⟨f1, g1, rfl, r1, r2⟩ := r.split
    exact ⟨_, .cons (.tup (.inl (.inl upd_same)) (RpP.toL hv r1)) r2, nd, f⟩
  · cases q
theorem mm_lst (h : MN X es t ms) : MM X (.List es pos) (tLst t) (mLst ms) := by
  refine ⟨pe_lst h.pa, fun io B ps ε ε' σ H d Q o q k => ?_⟩
  obtain ⟨⟨xs, ε1⟩, q1, q⟩ := bindSome q
  split at q
  · rename_i hl
    cases q
    refine h.so io B ps ε _ σ H xs _ o q1 fun vs B1 H1 s1 hv o1 => ⟨by rw [hv]; exact small1000' hl, fun p hp => ?_⟩
    refine k _ B1 _ s1 ⟨o1.len, o1.sm.trans (sameNew hp _), ?_, o1.has, o1.bo, o1.io1, o1.io2⟩
    obtain ⟨fp, r, nd, f⟩ := o1.own
    rw [List.append_assoc] at r
    have hB : B1 p = none := Sm.free o1.sm hp
    have np : p ∉ fp := fun z => r.there p z hp
    obtain ⟨f1, g1, rfl, r1, r2⟩ := (r.same (sameNew hp (.lst vs))).split
    refine ⟨p :: (f1 ++ g1), .cons (.lst upd_same (RpP.toL hv r1)) r2, List.nodup_cons.mpr ⟨np, nd⟩, fun a ha => ?_⟩
    rcases List.mem_cons.mp ha with rfl | ha
    · exact hB
    · exact f a ha
  · cases q
end
theorem Ok.mkL {K : PySem.W.Frag} {io : Option (Nat × V)} {B H : Hp} {ps : List (V × D)} {ε : En} {σ : L2.St} {vs : List V} {ds : List D} {p : Addr} (o1 : Ok K io B (vs.zip ds ++ ps) ε σ H) (hv : vs.length = ds.length) (hp : H p = none) : Ok K io B ((.ref p, .list ds) :: ps) ε σ (upd H p (.lst vs)) := by
  refine ⟨o1.len, o1.sm.trans (sameNew hp _), ?_, o1.has, o1.bo, o1.io1, o1.io2⟩
  obtain ⟨fp, r, nd, f⟩ := o1.own
  rw [List.append_assoc] at r
  have hB : B p = none := Sm.free o1.sm hp
  have np : p ∉ fp := fun z => r.there p z hp
  obtain ⟨f1, g1, rfl, r1, r2⟩ := (r.same (sameNew hp (.lst vs))).split
  refine ⟨p :: (f1 ++ g1), .cons (.lst upd_same (RpP.toL hv r1)) r2, List.nodup_cons.mpr ⟨np, nd⟩, fun a ha => ?_⟩
  rcases List.mem_cons.mp ha with rfl | ha
  · exact hB
  · exact f a ha
theorem Ok.frzL {K : PySem.W.Frag} {io : Option (Nat × V)} {B H : Hp} {ps : List (V × D)} {ε : En} {σ : L2.St} (o : Ok K io B ps ε σ H) : ∀ {vs : List V} {ds : List D}, RepL K H vs ds → frozenL ds = true → Ok K io B (vs.zip ds ++ ps) ε σ H
  | _, _, .nil, _ => o
  | v :: vs, d :: ds, .cons r t, h => by
    have h' : frozen d = true ∧ frozenL ds = true := by simpa [frozenL] using h
    have q := Ok.frzL o t h'.2
    exact ⟨q.len, q.sm, q.own.frz r h'.1, q.has, q.bo, q.io1, q.io2⟩
/-- [x, ..]: the name's list becomes an item, the others are frozen and may read the name -/
def mLstOwn (i : Nat) (fs : En → Option (List D)) : FM := fun ε => match ε[i]? with
  | some (.ow d) => (fs ε).bind fun ds => if ds.length < 1000 ∧ frozenL ds = true then some (.list (d :: ds), ε.set i .no) else none
  | _ => none
theorem mm_lstOwn {X : Cx} {i : Nat} {x : Str} {px pos : Pos} {es : List Expr} {t : TA} {fs : En → Option (List D)} (hr : PAr X es t fs) (hN : X.N[i]? = some x := by rfl) (hv : Vis X.env.scope x := by first | exact Or.inl rfl | exact Or.inr (Or.inl rfl) | exact Or.inr (Or.inr rfl)) (hd : (x == ("__debug__" : Str)) = false := by decide) (hcd : (x == ("__classdict__" : Str)) = false := by decide)
    (hs : starEach (.Name x px :: es) X.env = (false, eval (.Name x px) X.env) :: starEach es X.env := by rfl) : MM X (.List (.Name x px :: es) pos) (tLst (tCons (tVar i) t)) (mLstOwn i fs) := by
  refine ⟨pe_lst (pa_cons (pe_var hN hv hd hcd) hr.pa hs), fun io B ps ε ε' σ H d Q o q k => ?_⟩
  unfold mLstOwn at q
  split at q
  · rename_i d0 hs0
    obtain ⟨ds, q1, q⟩ := bindSome q
    split at q
    · rename_i hc
      cases q
      obtain ⟨v, hσ⟩ := o.has i _ _ hs0 rfl
      refine ⟨v, hσ, hr.so ε σ H ds _ o.okR q1 fun vs H1 s1 r1 => ⟨?_, fun p hp => ?_⟩⟩
      · show vs.length + 1 ≤ sizeLine
        rw [r1.length]
        exact small1000' (by omega)
      · have o2 := (o.same s1).move hs0 hσ
        have o3 := o2.frzL r1 hc.2
        have o4 := o3.perm (ps' := ((v :: vs).zip (d0 :: ds)) ++ ps) List.perm_middle
        exact k _ B _ (Same.refl B) (o4.mkL (by simp [r1.length]) hp)
    · cases q
  · cases q
theorem look_relabel {env : Env} {y : Str} : ∀ {names : List (Str × NameKind)}, names.lookup y = some .cell ∨ names.lookup y = some .free → ((names.map fun (n, k) => if (k == NameKind.free && env.scope.kind == .function && env.kindOf n == some .cell) then (n, NameKind.cell) else (n, k)).lookup y = some .cell ∨
    (names.map fun (n, k) => if (k == NameKind.free && env.scope.kind == .function && env.kindOf n == some .cell) then (n, NameKind.cell) else (n, k)).lookup y = some .free)
  | [], h => by simp at h
  | (n, k) :: r, h => by
    have ih := @look_relabel env y r
    rw [List.map_cons]
    show (List.lookup y ((if (k == NameKind.free && env.scope.kind == .function && env.kindOf n == some .cell) = true then (n, NameKind.cell) else (n, k)) :: _) = _) ∨ (List.lookup y ((if (k == NameKind.free && env.scope.kind == .function && env.kindOf n == some .cell) = true then (n, NameKind.cell) else (n, k)) :: _) = _)
    cases hx : y == n with
    | true =>
      simp only [List.lookup_cons, hx] at h
      split
      · exact .inl (by simp [List.lookup_cons, hx])
      · simpa [List.lookup_cons, hx] using h
    | false =>
      simp only [List.lookup_cons, hx] at h
      split <;> (simp only [List.lookup_cons, hx]; exact ih h)
theorem blkOk_in {X : Cx} {s : Shared} {H : Hp} {scope scope2 : Scope} {C : Addr} {cl : List (Str × Addr)} {fp : List Addr} {own : List (Str × Nat)} {N : List Str} (h : BlkOk N scope scope2 own) (hN : X.N = N := by rfl) :
    BlkOk (X.blk s H scope (compEnvC scope cl C X.env) fp).N (X.blk s H scope (compEnvC scope cl C X.env) fp).env.scope scope2 own := by
  subst hN
  exact ⟨h.kind, h.uniq, h.ix, fun y hy e => look_relabel (h.free y hy e), h.own⟩
theorem hu64 {k : Nat} {A : Around} (hr : RoomG k A) : A.units + 64 < cLine := by
  have := hr.r.un
  omega
theorem hu1G {k : Nat} {A : Around} (hr : RoomG k A) : A.units + 1 < cLine := hu_of hr.r
abbrev cmpEq := gCmp cEq PyData.eqv
abbrev cmpNe := gCmp cEq fun d e => !PyData.eqv d e
abbrev cmpLt := gCmp cLt W.dataLt
abbrev cmpGt := gCmp cLt fun d e => W.dataLt e d
abbrev cmpLe := gCmp cLt fun d e => !W.dataLt e d
abbrev cmpGe := gCmp cLt fun d e => !W.dataLt d e
abbrev cmpIn := gCmp cIn gIn
abbrev cmpNin := gCmp cIn fun d e => !gIn d e
end Pd

set_option Elab.async false
set_option linter.all false
set_option maxRecDepth 100000
set_option maxHeartbeats 4000000
/-! Pd13: how the semantics is computed at given data. -/
namespace Pd
open PySem PySem.Spec PyProof.Rows L2
section
variable {S : SE} {ε : En} {s r a b : FS} {m f g h : FM} {i j : Nat} {e e' e'' : FE}
@[simp] theorem ev_os {α : Type} {x : α} {P : α → Prop} : onSome (some x) P = P x := rfl
@[simp] theorem ev_on {α : Type} {P : α → Prop} : onSome (none : Option α) P = False := rfl
@[simp] theorem ev_seq : sSeq s r S ε = s ⟨r S, S.rt, S.bk, S.ct⟩ ε := rfl
@[simp] theorem ev_next : sNext S ε = S.nx ε := rfl
@[simp] theorem ev_never : sNever S ε = False := rfl
@[simp] theorem ev_break : sBreak S ε = S.bk ε := rfl
@[simp] theorem ev_cont : sCont S ε = S.ct ε := rfl
@[simp] theorem ev_expr : sExpr m S ε = onSome (m ε) fun x => S.nx x.2 := rfl
@[simp] theorem ev_ret : sRet m S ε = onSome (m ε) fun x => S.rt x.1 x.2 := rfl
@[simp] theorem ev_retN : sRetN S ε = S.rt .none ε := rfl
@[simp] theorem ev_if {c : En → Option (Bool × En)} : sIf c a b S ε = onSome (c ε) fun x => if x.1 then a S x.2 else b S x.2 := rfl
@[simp] theorem ev_set : sSet i m S ε = onSome (m ε) fun x => notIo x.2[i]? = true ∧ S.nx (x.2.set i (.ow x.1)) := rfl
@[simp] theorem ev_par : sPar i j f g S ε = onSome (f ε) fun x => onSome (g x.2) fun y => notIo y.2[j]? = true ∧ notIo (y.2.set j (.ow y.1))[i]? = true ∧ S.nx ((y.2.set j (.ow y.1)).set i (.ow x.1)) := rfl
@[simp] theorem ev_asg {bd : Bd} : sAsg bd m S ε = onSome (m ε) fun x => onSome (bd x.1 x.2) fun ε' => S.nx ε' := rfl
@[simp] theorem ev_aug {q : D → D → Option D} : sAug i q m S ε = onSome (get ε i) fun x => frozen x = true ∧ onSome (m ε) fun y => onSome (q x y.1) fun z => notIo y.2[i]? = true ∧ S.nx (y.2.set i (.ow z)) := rfl
@[simp] theorem ev_for {mi : En → Option (List D × En)} {bd : Bd} : sFor mi bd s S ε = onSome (mi ε) fun x => forM bd s x.1 S x.2 := rfl
theorem ev_while {c : En → Option (Bool × En)} : sWhile c s S ε = ∃ n, whM c s n S ε := rfl
@[simp] theorem ev_fnil {bd : Bd} : forM bd s [] S ε = S.nx ε := rfl
theorem ev_fcons {bd : Bd} {d : D} {ds : List D} : forM bd s (d :: ds) S ε = onSome (bd d ε) fun ε1 => s ⟨forM bd s ds S, S.rt, S.nx, forM bd s ds S⟩ ε1 := rfl
theorem ev_wh {c : En → Option (Bool × En)} {n : Nat} : whM c s (n + 1) S ε = onSome (c ε) fun x => if x.1 then s ⟨whM c s n S, S.rt, S.nx, whM c s n S⟩ x.2 else S.nx x.2 := rfl
@[simp] theorem ev_mP : mP e ε = (e ε).map fun d => (d, ε) := rfl
@[simp] theorem ev_mT {c : En → Option Bool} : mT c ε = (c ε).map fun d => (d, ε) := rfl
@[simp] theorem ev_var : eVar i ε = get ε i := rfl
@[simp] theorem ev_c {d : D} : eC d ε = some d := rfl
@[simp] theorem ev_e1 {q : D → Option D} : e1 q e ε = (e ε).bind q := rfl
@[simp] theorem ev_e2 {q : D → D → Option D} : e2 q e e' ε = (e ε).bind fun x => (e' ε).bind fun y => q x y := rfl
@[simp] theorem ev_frz : eFrz e ε = (e ε).bind fun d => if frozen d then some d else none := rfl
@[simp] theorem ev_anil : aNil ε = some [] := rfl
@[simp] theorem ev_acons {q : En → Option (List D)} : aCons e q ε = (e ε).bind fun x => (q ε).bind fun xs => some (x :: xs) := rfl
@[simp] theorem ev_tup {q : En → Option (List D)} : eTup q ε = (q ε).bind fun xs => if xs.length ≤ 1000 then some (.tuple xs) else none := rfl
@[simp] theorem ev_lst {q : En → Option (List D)} : eLst q ε = (q ε).bind fun xs => if xs.length ≤ 1000 then some (.list xs) else none := rfl
@[simp] theorem ev_call {k : List D → Option D} {q : En → Option (List D)} : eCall k q ε = (q ε).bind k := rfl
@[simp] theorem ev_tst : tst e ε = (e ε).bind toB := rfl
@[simp] theorem ev_toB {c : Bool} : toB (.bool c) = some c := rfl
@[simp] theorem ev_bnot {c : En → Option Bool} : bNot c ε = (c ε).map (!·) := rfl
@[simp] theorem ev_band {c d : En → Option Bool} : bAnd c d ε = (c ε).bind fun x => if x then d ε else some false := rfl
@[simp] theorem ev_bor {c d : En → Option Bool} : bOr c d ε = (c ε).bind fun x => if x then some true else d ε := rfl
@[simp] theorem ev_eand : eAnd e e' ε = (e ε).bind fun d => (toB d).bind fun x => if x then e' ε else some (.bool false) := rfl
@[simp] theorem ev_eor : eOr e e' ε = (e ε).bind fun d => (toB d).bind fun x => if x then some (.bool true) else e' ε := rfl
@[simp] theorem ev_enot : eNot e ε = (e ε).bind fun d => (toB d).map fun x => .bool (!x) := rfl
@[simp] theorem ev_eif {c : En → Option Bool} : eIf c e e' ε = (c ε).bind fun x => if x then e ε else e' ε := rfl
@[simp] theorem ev_chain {q q' : D → D → Option D} : eChain q q' e e' e'' ε = (e ε).bind fun x => (e' ε).bind fun y => (q x y).bind fun z => (toB z).bind fun c => if c then (e'' ε).bind fun w => q' y w else some (.bool false) := rfl
@[simp] theorem ev_fn {n : Nat} {k : List D → Option D} {q : En → Option (List D)} : eFn n k q ε = (q ε).bind fun ds => if ds.length = n then k ds else none := rfl
@[simp] theorem ev_mfn {n : Nat} {k : List D → Option D} {q : En → Option (List D × En)} : mFn n k q ε = (q ε).bind fun x => if x.1.length = n then (k x.1).map fun z => (z, x.2) else none := rfl
@[simp] theorem ev_manil : maNil ε = some ([], ε) := rfl
@[simp] theorem ev_macons {q : En → Option (List D × En)} : maCons m q ε = (m ε).bind fun x => (q x.2).bind fun xs => some (x.1 :: xs.1, xs.2) := rfl
@[simp] theorem ev_mcall {k : List D → Option D} {q : En → Option (List D × En)} : mCall k q ε = (q ε).bind fun x => (k x.1).map fun z => (z, x.2) := rfl
@[simp] theorem ev_mtup {q : En → Option (List D × En)} : mTup q ε = (q ε).bind fun x => if x.1.length ≤ 1000 then some (.tuple x.1, x.2) else none := rfl
@[simp] theorem ev_mlst {q : En → Option (List D × En)} : mLst q ε = (q ε).bind fun x => if x.1.length ≤ 1000 then some (.list x.1, x.2) else none := rfl
@[simp] theorem ev_m2 {q : D → D → Option D} : m2 q f g ε = (f ε).bind fun x => (g x.2).bind fun y => (q x.1 y.1).map fun z => (z, y.2) := rfl
@[simp] theorem ev_m1 {q : D → Option D} : m1 q f ε = (f ε).bind fun x => (q x.1).map fun z => (z, x.2) := rfl
@[simp] theorem ev_mtst : mTst f ε = (f ε).bind fun x => (toB x.1).map fun z => (z, x.2) := rfl
@[simp] theorem ev_mnot {c : En → Option (Bool × En)} : mNot c ε = (c ε).map fun x => (!x.1, x.2) := rfl
@[simp] theorem ev_mand {c d : En → Option (Bool × En)} : mAnd c d ε = (c ε).bind fun x => if x.1 then d x.2 else some (false, x.2) := rfl
@[simp] theorem ev_mor {c d : En → Option (Bool × En)} : mOr c d ε = (c ε).bind fun x => if x.1 then some (true, x.2) else d x.2 := rfl
@[simp] theorem ev_mandv : mAndV f g ε = (f ε).bind fun x => (toB x.1).bind fun c => if c then g x.2 else some (.bool false, x.2) := rfl
@[simp] theorem ev_morv : mOrV f g ε = (f ε).bind fun x => (toB x.1).bind fun c => if c then some (.bool true, x.2) else g x.2 := rfl
@[simp] theorem ev_mif {c : En → Option (Bool × En)} : mIf c f g ε = (c ε).bind fun x => if x.1 then f x.2 else g x.2 := rfl
@[simp] theorem ev_gfrz {q : D → D → Option D} {x y : D} : gFrz q x y = (q x y).bind fun d => if frozen d then some d else none := rfl
@[simp] theorem ev_mhhole {q : En → Option (List D × En)} : mhHole q ε = (q ε).map fun x => (([], x.1), x.2) := rfl
@[simp] theorem ev_mhcons {q : En → Option ((List D × List D) × En)} : mhCons m q ε = (m ε).bind fun x => (q x.2).map fun y => ((x.1 :: y.1.1, y.1.2), y.2) := rfl
@[simp] theorem ev_mio {n : Nat} {k : List D → Option (D × D)} {q : En → Option ((List D × List D) × En)} : mIo n i k q ε = (mineAt ε i).bind fun _ => (q ε).bind fun x => if x.1.1.length + 1 + x.1.2.length = n then (mineAt x.2 i).bind fun d => (k (x.1.1 ++ d :: x.1.2)).map fun z => (z.1, setMine x.2 i z.2) else none := rfl
@[simp] theorem ev_mapp : mApp i m ε = (mineAt ε i).bind fun x => if isLst x then (m ε).bind fun y => (mineAt y.2 i).bind fun z => (gApp z y.1).map fun w => (.none, setMine y.2 i w) else none := rfl
@[simp] theorem ev_bsub {d : D} : bSub i e d ε = (e ε).bind fun k => (mineAt ε i).bind fun x => (gSetL x k d).map fun w => setMine ε i w := rfl
@[simp] theorem ev_dput : sDput i e m S ε = onSome (m ε) fun y => onSome (e y.2) fun k => onSome (mineAt y.2 i) fun x => onSome (gPut x k y.1) fun w => S.nx (setMine y.2 i w) := rfl
@[simp] theorem ev_rg1 : rg1 e ε = (e ε).bind fun d => (toI d).bind fun n => some (0, n) := rfl
@[simp] theorem ev_rg2 : rg2 e e' ε = (e ε).bind fun d => (e' ε).bind fun d' => (toI d).bind fun n => (toI d').bind fun m => some (n, m) := rfl
@[simp] theorem ev_lrg {q : En → Option (Int × Int)} : eLrg q ε = (q ε).bind fun o => if rgOk o.1 o.2 then some (.list (rgD o.1 o.2)) else none := rfl
@[simp] theorem ev_trg {q : En → Option (Int × Int)} : eTrg q ε = (q ε).bind fun o => if rgOk o.1 o.2 then some (.tuple (rgD o.1 o.2)) else none := rfl
@[simp] theorem ev_toI {k : Int} : toI (.int k) = some k := rfl
@[simp] theorem ev_onone : oNone ε = some none := rfl
@[simp] theorem ev_osome : oSome e ε = (e ε).bind fun d => (toI d).map some := rfl
@[simp] theorem ev_sl {lo hi : En → Option (Option Int)} : eSl e lo hi ε = (e ε).bind fun d => (lo ε).bind fun l => (hi ε).bind fun h => gSl d l h := rfl
@[simp] theorem ev_lc {vs : List Nat} {it : En → Option (List D)} {bd : Bd} {tt : En → Option Bool} : eLc vs it bd tt e ε = (it ε).bind fun ds => if ds.length ≤ cap then (compL bd tt e (wipeE ε vs) ds).map .list else none := rfl
@[simp] theorem ev_mlc {vs : List Nat} {it : En → Option (List D × En)} {bd : Bd} {tt : En → Option (Bool × En)} : mLc vs it bd tt m ε = (it ε).bind fun x => if wipeOk x.2 vs = true ∧ x.1.length ≤ cap then (compM vs bd tt m x.1 (wipeE x.2 vs)).map fun y => (.list y.1, backE x.2 vs y.2) else none := rfl
@[simp] theorem ev_iof {gi : List D → Option (List D)} {q : En → Option (List D)} : iOf gi q ε = (q ε).bind gi := rfl
@[simp] theorem ev_iself : iSelf e ε = (e ε).bind itemsS := rfl
@[simp] theorem ev_miof {gi : List D → Option (List D)} {q : En → Option (List D × En)} : miOf gi q ε = (q ε).bind fun x => (gi x.1).map fun y => (y, x.2) := rfl
@[simp] theorem ev_miself : miSelf m ε = (m ε).bind fun x => (itemsS x.1).map fun y => (y, x.2) := rfl
@[simp] theorem ev_btrue : bTrue ε = some true := rfl
@[simp] theorem ev_mtrue : mTrue ε = some (true, ε) := rfl
@[simp] theorem ev_bname {d : D} : bName i d ε = some (ε.set i (.bo d)) := rfl
@[simp] theorem ev_bbname {d : D} : bbName i d ε = if notIo ε[i]? then some (ε.set i (toSl d)) else none := rfl
@[simp] theorem ev_mbname {d : D} : mbName i d ε = if notIo ε[i]? then some (ε.set i (.ow d)) else none := rfl
@[simp] theorem ev_btup {bs : Bds} {ds : List D} : bTup bs (.tuple ds) ε = bs ds ε := rfl
@[simp] theorem ev_bnil : bNil [] ε = some ε := rfl
@[simp] theorem ev_bcons {bd : Bd} {bs : Bds} {d : D} {ds : List D} : bCons bd bs (d :: ds) ε = (bd d ε).bind fun ε' => bs ds ε' := rfl
@[simp] theorem ev_get0 {t : Slot} : get (t :: ε) 0 = t.val := rfl
@[simp] theorem ev_getS {t : Slot} : get (t :: ε) (i + 1) = get ε i := rfl
@[simp] theorem ev_val1 {d : D} : Slot.val (.ow d) = some d := rfl
@[simp] theorem ev_val2 {d : D} : Slot.val (.bo d) = some d := rfl
@[simp] theorem ev_val3 {d : D} : Slot.val (.io d) = some d := rfl
@[simp] theorem ev_val4 : Slot.val .no = none := rfl
@[simp] theorem ev_val5 {d : D} : Slot.val (toSl d) = some d := by unfold toSl; split <;> rfl
@[simp] theorem ev_mine1 {d : D} : Slot.mine (.ow d) = some d := rfl
@[simp] theorem ev_mine3 {d : D} : Slot.mine (.io d) = some d := rfl
@[simp] theorem ev_io0 {d : D} : notIo (some (toSl d)) = true := by unfold toSl; split <;> rfl
@[simp] theorem ev_io1 {d : D} : notIo (some (.ow d)) = true := rfl
@[simp] theorem ev_io2 {d : D} : notIo (some (.bo d)) = true := rfl
@[simp] theorem ev_io3 : notIo (some .no) = true := rfl
@[simp] theorem ev_mineAt0 {t : Slot} : mineAt (t :: ε) 0 = t.mine := rfl
@[simp] theorem ev_mineAtS {t : Slot} : mineAt (t :: ε) (i + 1) = mineAt ε i := rfl
@[simp] theorem ev_setm0 {d d' : D} : setMine (.ow d :: ε) 0 d' = .ow d' :: ε := rfl
@[simp] theorem ev_setm1 {d d' : D} : setMine (.io d :: ε) 0 d' = .io d' :: ε := rfl
@[simp] theorem ev_setmS {t : Slot} {d' : D} : setMine (t :: ε) (i + 1) d' = t :: setMine ε i d' := by
  unfold setMine
  rw [List.getElem?_cons_succ]
  cases ε[i]? with
  | none => rfl
  | some s => cases s <;> rfl
@[simp] theorem ev_mvar0 {d : D} : mVar 0 (.ow d :: ε) = some (d, if frozen d = true then .ow d :: ε else .no :: ε) := rfl
@[simp] theorem ev_mvar0b {d : D} : mVar 0 (.bo d :: ε) = if frozen d = true then some (d, .bo d :: ε) else none := rfl
@[simp] theorem ev_mvarS {t : Slot} : mVar (i + 1) (t :: ε) = (mVar i ε).map fun x => (x.1, t :: x.2) := by
  unfold mVar
  rw [List.getElem?_cons_succ]
  cases ε[i]? with
  | none => rfl
  | some s =>
    cases s with
    | ow d => by_cases h : frozen d = true <;> simp [h]
    | bo d => by_cases h : frozen d = true <;> simp [h]
    | _ => rfl
@[simp] theorem ev_lstOwnS {t : Slot} {fs : En → Option (List D)} : mLstOwn (i + 1) fs (t :: ε) = match ε[i]? with
  | some (.ow d) => (fs (t :: ε)).bind fun ds => if ds.length < 1000 ∧ frozenL ds = true then some (.list (d :: ds), t :: ε.set i .no) else none
  | _ => none := by
  unfold mLstOwn
  rw [List.getElem?_cons_succ]
  cases ε[i]? with
  | none => rfl
  | some s => cases s <;> rfl
@[simp] theorem ev_wipe0 : wipeE ε [] = ε := rfl
@[simp] theorem ev_wipeS {v : Nat} {vs : List Nat} : wipeE ε (v :: vs) = (wipeE ε vs).set v .no := rfl
@[simp] theorem ev_envP {ds : List D} {k : Nat} : envP ds k = ds.map toSl ++ List.replicate k .no := rfl
@[simp] theorem ev_envI {p q : List D} {d : D} {k : Nat} : envI p d q k = p.map toSl ++ .io d :: (q.map toSl ++ List.replicate k .no) := rfl
@[simp] theorem ev_seP {d : D} : seP d = ⟨fun _ => d = .none, fun d' _ => d' = d, fun _ => False, fun _ => False⟩ := rfl
@[simp] theorem ev_seI {k : Nat} {d d' : D} : seI k d d' = ⟨fun ε => d = .none ∧ ε[k]? = some (.io d'), fun d0 ε => d0 = d ∧ ε[k]? = some (.io d'), fun _ => False, fun _ => False⟩ := rfl
end
/-! frozen data -/
@[simp] theorem fz_int {k : Int} : frozen (.int k) = true := rfl
@[simp] theorem fz_bool {k : Bool} : frozen (.bool k) = true := rfl
@[simp] theorem fz_str {k : Str} : frozen (.str k) = true := rfl
@[simp] theorem fz_none : frozen .none = true := rfl
@[simp] theorem fz_tup {xs : List D} : frozen (.tuple xs) = frozenL xs := rfl
@[simp] theorem fz_list {xs : List D} : frozen (.list xs) = false := rfl
@[simp] theorem fz_dict {xs : List (D × D)} : frozen (.dict xs) = false := rfl
@[simp] theorem fz_nil : frozenL [] = true := rfl
@[simp] theorem fz_cons {x : D} {xs : List D} : frozenL (x :: xs) = (frozen x && frozenL xs) := rfl
@[simp] theorem fz_app {x : List D} {xs : List D} : frozenL (x ++ xs) = (frozenL x && frozenL xs) := frozenL_append _ _
theorem fz_map {α : Type} {f : α → D} (h : ∀ x, frozen (f x) = true) (xs : List α) : frozenL (xs.map f) = true := by
  induction xs with
  | nil => rfl
  | cons x xs ih => simp [h, ih]
@[simp] theorem fz_ints {xs : List Int} : frozenL (xs.map PyData.int) = true := fz_map (fun _ => rfl) xs
@[simp] theorem fz_bools {xs : List Bool} : frozenL (xs.map PyData.bool) = true := fz_map (fun _ => rfl) xs
theorem fz_mapP {α : Type} {f : α → D} {xs : List α} (h : ∀ x ∈ xs, frozen (f x) = true) : frozenL (xs.map f) = true := by
  induction xs with
  | nil => rfl
  | cons x xs ih => simp [h x, ih fun y hy => h y (List.mem_cons_of_mem _ hy)]
@[simp] theorem ts_int {k : Int} : toSl (.int k) = .ow (.int k) := rfl
@[simp] theorem ts_bool {k : Bool} : toSl (.bool k) = .ow (.bool k) := rfl
@[simp] theorem ts_str {k : Str} : toSl (.str k) = .ow (.str k) := rfl
@[simp] theorem ts_none : toSl .none = .ow .none := rfl
@[simp] theorem ts_list {xs : List D} : toSl (.list xs) = .bo (.list xs) := rfl
@[simp] theorem ts_dict {xs : List (D × D)} : toSl (.dict xs) = .bo (.dict xs) := rfl
theorem ts_frz {d : D} (h : frozen d = true) : toSl d = .ow d := by unfold toSl; rw [if_pos h]
@[simp] theorem ts_tints {xs : List Int} : toSl (.tuple (xs.map PyData.int)) = .ow (.tuple (xs.map PyData.int)) := ts_frz (by simp)
/-! names that are lent -/
section
variable {ε : En} {i : Nat} {d : D} {t : Slot}
@[simp] theorem ev_lend0 : mLend 0 (.ow d :: ε) = some (d, (if frozen d = true then .ow d else .bo d) :: ε) := rfl
@[simp] theorem ev_lend0b : mLend 0 (.bo d :: ε) = some (d, .bo d :: ε) := rfl
@[simp] theorem ev_lendS : mLend (i + 1) (t :: ε) = (mLend i ε).map fun x => (x.1, t :: x.2) := by
  unfold mLend
  rw [List.getElem?_cons_succ]
  cases ε[i]? with
  | none => rfl
  | some s => cases s <;> rfl
end
/-! operators at numbers, flags, texts -/
section
variable {i j : Int}
@[simp] theorem op_ii_add : gAdd (.int i) (.int j) = some (.int (i + j)) := rfl
@[simp] theorem op_ii_addI : gAddI (.int i) (.int j) = some (.int (i + j)) := rfl
@[simp] theorem op_ii_sub : gSub (.int i) (.int j) = some (.int (i - j)) := rfl
theorem op_ii_mul (h1 : sm i = true) (h2 : sm j = true) : gMul (.int i) (.int j) = some (.int (i * j)) := by unfold gMul; simp [h1, h2]
theorem op_ii_div (h1 : 0 < j) (h2 : sm j = true) : gFdiv (.int i) (.int j) = some (.int (i / j)) := by simp [gFdiv, gI2, cDiv, h1, h2]
theorem op_ii_mod (h1 : 0 < j) : gMod (.int i) (.int j) = some (.int (i % j)) := by simp [gMod, gI2, h1]
@[simp] theorem op_neg : gNeg (.int i) = some (.int (-i)) := rfl
theorem sm_of {k : Int} (h1 : -(10 ^ 200) ≤ k) (h2 : k ≤ 10 ^ 200) : sm k = true := by
  unfold sm BIG
  rw [decide_eq_true_eq]
  have : k.natAbs ≤ 10 ^ 200 := by omega
  exact Nat.lt_of_le_of_lt this (by decide +kernel)
@[simp] theorem cq_ii : cmpEq (.int i) (.int j) = some (.bool (decide (i = j))) := by
  show some (PyData.bool (i == j)) = _
  rfl
@[simp] theorem cn_ii : cmpNe (.int i) (.int j) = some (.bool (!decide (i = j))) := rfl
end
end Pd

set_option Elab.async false
set_option linter.all false
set_option maxRecDepth 100000
set_option maxHeartbeats 4000000
/-! Pd14: comparisons, places, walks and comprehensions at given data; contracts by cases. -/
namespace Pd
open PySem PySem.Spec PyProof.Rows L2
section
variable {i j : Int}
@[simp] theorem cl_ii : cmpLt (.int i) (.int j) = some (.bool (decide (i < j))) := by
  show gCmp cLt W.dataLt (.int i) (.int j) = _
  unfold gCmp
  rw [show cLt (.int i) (.int j) = true from rfl, if_pos rfl, W.dataLt_int]
@[simp] theorem cg_ii : cmpGt (.int i) (.int j) = some (.bool (decide (j < i))) := by
  show gCmp cLt (fun d e => W.dataLt e d) (.int i) (.int j) = _
  unfold gCmp
  rw [show cLt (.int i) (.int j) = true from rfl, if_pos rfl]
  exact congrArg (fun z => some (PyData.bool z)) (W.dataLt_int j i)
@[simp] theorem cle_ii : cmpLe (.int i) (.int j) = some (.bool (decide (i ≤ j))) := by
  show gCmp cLt (fun d e => !W.dataLt e d) (.int i) (.int j) = _
  unfold gCmp
  rw [show cLt (.int i) (.int j) = true from rfl, if_pos rfl]
  refine (congrArg (fun z => some (PyData.bool (!z))) (W.dataLt_int j i)).trans ?_
  congr 2
  by_cases h : i ≤ j <;> simp [h] <;> omega
@[simp] theorem cge_ii : cmpGe (.int i) (.int j) = some (.bool (decide (j ≤ i))) := by
  show gCmp cLt (fun d e => !W.dataLt d e) (.int i) (.int j) = _
  unfold gCmp
  rw [show cLt (.int i) (.int j) = true from rfl, if_pos rfl]
  refine (congrArg (fun z => some (PyData.bool (!z))) (W.dataLt_int i j)).trans ?_
  congr 2
  by_cases h : j ≤ i <;> simp [h] <;> omega
end
@[simp] theorem cq_ss {x y : Str} : cmpEq (.str x) (.str y) = some (.bool (decide (x = y))) := by
  show some (PyData.bool (x == y)) = _
  congr 2
@[simp] theorem cn_ss {x y : Str} : cmpNe (.str x) (.str y) = some (.bool (!decide (x = y))) := by
  show some (PyData.bool (!(x == y))) = _
  congr 3
@[simp] theorem cq_bb {x y : Bool} : cmpEq (.bool x) (.bool y) = some (.bool (decide (x = y))) := by
  cases x <;> cases y <;> rfl
@[simp] theorem cn_bb {x y : Bool} : cmpNe (.bool x) (.bool y) = some (.bool (!decide (x = y))) := by
  cases x <;> cases y <;> rfl
theorem eqvAll_ints : ∀ xs ys : List Int, PyData.eqvAll (xs.map .int) (ys.map .int) = decide (xs = ys)
  | [], [] => rfl
  | [], _ :: _ => by simp [PyData.eqvAll]
  | _ :: _, [] => by simp [PyData.eqvAll]
  | x :: xs, y :: ys => by
    show ((x == y) && PyData.eqvAll (xs.map .int) (ys.map .int)) = _
    rw [eqvAll_ints xs ys]
    by_cases h : x = y <;> by_cases h2 : xs = ys <;> simp [h, h2]
theorem plainAll_map {α : Type} {f : α → D} (h : ∀ x, (f x).plain = true) : ∀ xs : List α, PyData.plainAll (xs.map f) = true
  | [] => rfl
  | x :: xs => by
    show ((f x).plain && PyData.plainAll (xs.map f)) = true
    rw [h x, plainAll_map h xs]
    rfl
theorem plainAll_of : ∀ xs : List D, (∀ x ∈ xs, x.plain = true) → PyData.plainAll xs = true
  | [], _ => rfl
  | x :: xs, h => by
    show (x.plain && PyData.plainAll xs) = true
    rw [h x List.mem_cons_self, plainAll_of xs fun y hy => h y (List.mem_cons_of_mem _ hy)]
    rfl
theorem depthAll_le {n : Nat} : ∀ xs : List D, (∀ x ∈ xs, x.depth ≤ n) → PyData.depthAll xs ≤ n
  | [], _ => Nat.zero_le _
  | x :: xs, h => by
    show max x.depth (PyData.depthAll xs) ≤ n
    exact Nat.max_le.mpr ⟨h x List.mem_cons_self, depthAll_le xs fun y hy => h y (List.mem_cons_of_mem _ hy)⟩
/-- data that may be compared -/
def okD (n : Nat) (d : D) : Prop := d.plain = true ∧ d.depth ≤ n
theorem okD_int {k : Int} {n : Nat} : okD (n + 1) (.int k) := ⟨rfl, Nat.zero_le _⟩
theorem okD_bool {k : Bool} {n : Nat} : okD (n + 1) (.bool k) := ⟨rfl, Nat.zero_le _⟩
theorem okD_str {k : Str} {n : Nat} : okD (n + 1) (.str k) := ⟨rfl, Nat.zero_le _⟩
theorem okD_none {n : Nat} : okD (n + 1) .none := ⟨rfl, Nat.zero_le _⟩
theorem okD_tup {xs : List D} {n : Nat} (h : ∀ x ∈ xs, okD n x) : okD (n + 1) (.tuple xs) :=
  ⟨plainAll_of xs fun x hx => (h x hx).1, by
    show PyData.depthAll xs + 1 ≤ n + 1
    exact Nat.succ_le_succ (depthAll_le xs fun x hx => (h x hx).2)⟩
theorem okD_list {xs : List D} {n : Nat} (h : ∀ x ∈ xs, okD n x) : okD (n + 1) (.list xs) :=
  ⟨plainAll_of xs fun x hx => (h x hx).1, by
    show PyData.depthAll xs + 1 ≤ n + 1
    exact Nat.succ_le_succ (depthAll_le xs fun x hx => (h x hx).2)⟩
theorem okD_mono {n m : Nat} {d : D} (h : okD n d) (l : n ≤ m) : okD m d := ⟨h.1, Nat.le_trans h.2 l⟩
theorem cq_of {d e : D} (h1 : okD 40 d) (h2 : okD 40 e) : cmpEq d e = some (.bool (PyData.eqv d e)) := by
  show gCmp cEq PyData.eqv d e = _
  unfold gCmp
  rw [if_pos]
  unfold cEq shal
  simp only [Bool.and_eq_true, decide_eq_true_eq]
  exact ⟨⟨h1.1, h2.1⟩, Nat.le_trans (Nat.min_le_left _ _) h1.2⟩
theorem cn_of {d e : D} (h1 : okD 40 d) (h2 : okD 40 e) : cmpNe d e = some (.bool (!PyData.eqv d e)) := by
  show gCmp cEq (fun d e => !PyData.eqv d e) d e = _
  unfold gCmp
  rw [if_pos]
  unfold cEq shal
  simp only [Bool.and_eq_true, decide_eq_true_eq]
  exact ⟨⟨h1.1, h2.1⟩, Nat.le_trans (Nat.min_le_left _ _) h1.2⟩
theorem okD_tints {xs : List Int} {n : Nat} : okD (n + 2) (.tuple (xs.map .int)) := okD_tup fun x hx => by
  obtain ⟨k, _, rfl⟩ := List.mem_map.mp hx
  exact okD_int
@[simp] theorem cq_tt {xs ys : List Int} : cmpEq (.tuple (xs.map .int)) (.tuple (ys.map .int)) = some (.bool (decide (xs = ys))) := by
  rw [cq_of (okD_mono (okD_tints (n := 0)) (by decide)) (okD_mono (okD_tints (n := 0)) (by decide))]
  show some (PyData.bool (PyData.eqvAll (xs.map .int) (ys.map .int))) = _
  rw [eqvAll_ints]
@[simp] theorem cn_tt {xs ys : List Int} : cmpNe (.tuple (xs.map .int)) (.tuple (ys.map .int)) = some (.bool (!decide (xs = ys))) := by
  rw [cn_of (okD_mono (okD_tints (n := 0)) (by decide)) (okD_mono (okD_tints (n := 0)) (by decide))]
  show some (PyData.bool (!PyData.eqvAll (xs.map .int) (ys.map .int))) = _
  rw [eqvAll_ints]
/-- eqv decides equality of frozen data without flags -/
def pureD : D → Bool
  | .int _ => true
  | .str _ => true
  | .none => true
  | _ => false
/-! ### in, not in: numbers in lists and tuples of numbers -/
theorem any_ints (i : Int) (xs : List Int) : ((xs.map PyData.int).any fun y => PyData.eqv y (.int i)) = decide (i ∈ xs) := by
  induction xs with
  | nil => rfl
  | cons x xs ih =>
    rw [List.map_cons, List.any_cons, ih]
    show ((x == i) || decide (i ∈ xs)) = _
    by_cases h : x = i
    · subst h; simp
    · have h' : ¬ i = x := fun z => h z.symm
      simp [h, h']
theorem okAll_ints (xs : List Int) (i : Int) : ((PyData.int i).plain && PyData.plainAll (xs.map .int) && decide (min (PyData.depthAll (xs.map .int)) (PyData.int i).depth ≤ 40)) = true := by
  rw [plainAll_map (fun _ => rfl)]
  simp only [Bool.and_true, Bool.and_eq_true, decide_eq_true_eq]
  exact ⟨rfl, Nat.le_trans (Nat.min_le_right _ _) (Nat.zero_le _)⟩
@[simp] theorem ci_it {i : Int} {xs : List Int} : cmpIn (.int i) (.tuple (xs.map .int)) = some (.bool (decide (i ∈ xs))) := by
  show gCmp cIn gIn _ _ = _
  unfold gCmp
  rw [if_pos (show cIn (.int i) (.tuple (xs.map .int)) = true from okAll_ints xs i)]
  exact congrArg (fun z => some (PyData.bool z)) (any_ints i xs)
@[simp] theorem ci_il {i : Int} {xs : List Int} : cmpIn (.int i) (.list (xs.map .int)) = some (.bool (decide (i ∈ xs))) := by
  show gCmp cIn gIn _ _ = _
  unfold gCmp
  rw [if_pos (show cIn (.int i) (.list (xs.map .int)) = true from okAll_ints xs i)]
  exact congrArg (fun z => some (PyData.bool z)) (any_ints i xs)
@[simp] theorem cni_it {i : Int} {xs : List Int} : cmpNin (.int i) (.tuple (xs.map .int)) = some (.bool (!decide (i ∈ xs))) := by
  show gCmp cIn (fun d e => !gIn d e) _ _ = _
  unfold gCmp
  rw [if_pos (show cIn (.int i) (.tuple (xs.map .int)) = true from okAll_ints xs i)]
  exact congrArg (fun z => some (PyData.bool (!z))) (any_ints i xs)
@[simp] theorem cni_il {i : Int} {xs : List Int} : cmpNin (.int i) (.list (xs.map .int)) = some (.bool (!decide (i ∈ xs))) := by
  show gCmp cIn (fun d e => !gIn d e) _ _ = _
  unfold gCmp
  rw [if_pos (show cIn (.int i) (.list (xs.map .int)) = true from okAll_ints xs i)]
  exact congrArg (fun z => some (PyData.bool (!z))) (any_ints i xs)
/-! ### built-ins -/
@[simp] theorem ln_l {xs : List D} : gLen [.list xs] = some (.int xs.length) := rfl
@[simp] theorem ln_t {xs : List D} : gLen [.tuple xs] = some (.int xs.length) := rfl
@[simp] theorem gl_all {bs : List Bool} : gAll [.list (bs.map .bool)] = some (.bool (bs.all id)) := by
  show (boolsD (bs.map .bool)).map _ = _
  rw [boolsD_map]; rfl
@[simp] theorem gl_any {bs : List Bool} : gAny [.list (bs.map .bool)] = some (.bool (bs.any id)) := by
  show (boolsD (bs.map .bool)).map _ = _
  rw [boolsD_map]; rfl
theorem gl_all' {α : Type} {xs : List α} {p : α → Bool} : gAll [.list (xs.map fun x => .bool (p x))] = some (.bool (xs.all p)) := by
  have : (xs.map fun x => PyData.bool (p x)) = (xs.map p).map .bool := by simp
  rw [this, gl_all]; simp
theorem gl_any' {α : Type} {xs : List α} {p : α → Bool} : gAny [.list (xs.map fun x => .bool (p x))] = some (.bool (xs.any p)) := by
  have : (xs.map fun x => PyData.bool (p x)) = (xs.map p).map .bool := by simp
  rw [this, gl_any]; simp
@[simp] theorem gl_sum {ns : List Int} : gSum [.list (ns.map .int)] = some (.int ns.sum) := by
  show (intsD (ns.map .int)).map _ = _
  rw [intsD_map]; rfl
@[simp] theorem gl_sumT {ns : List Int} : gSum [.tuple (ns.map .int)] = some (.int ns.sum) := by
  show (intsD (ns.map .int)).map _ = _
  rw [intsD_map]; rfl
@[simp] theorem gl_abs {i : Int} : gAbs [.int i] = some (.int (if i < 0 then -i else i)) := rfl
@[simp] theorem gl_int {i : Int} : gInt [.int i] = some (.int i) := rfl
theorem gl_tupL {xs : List D} (h : frozenL xs = true) : gTupOf [.list xs] = some (.tuple xs) := if_pos h
theorem gl_tupT {xs : List D} (h : frozenL xs = true) : gTupOf [.tuple xs] = some (.tuple xs) := if_pos h
theorem okMM_ints (n : Int) (ns : List Int) : okMM (.int n :: ns.map .int) = true := by
  have e : (PyData.int n :: ns.map .int) = (n :: ns).map .int := rfl
  rw [e]
  unfold okMM alikeB
  simp only [Bool.and_eq_true, List.all_eq_true, decide_eq_true_eq]
  refine ⟨⟨⟨fun x hx y hy => ?_, fun x hx => ?_⟩, fz_ints⟩, ?_⟩
  · obtain ⟨a, _, rfl⟩ := List.mem_map.mp hx
    obtain ⟨b, _, rfl⟩ := List.mem_map.mp hy
    rfl
  · obtain ⟨a, _, rfl⟩ := List.mem_map.mp hx
    rfl
  · refine depthAll_le _ fun x hx => ?_
    obtain ⟨a, _, rfl⟩ := List.mem_map.mp hx
    exact Nat.zero_le _
theorem gl_min {n : Int} {ns : List Int} : gMin [.list (.int n :: ns.map .int)] = some (.int (ns.foldl min n)) := by
  show (if okMM (.int n :: ns.map .int) = true then some (W.minD (.int n) (ns.map .int)) else none) = _
  rw [if_pos (okMM_ints n ns), W.minD_ints]
theorem gl_max {n : Int} {ns : List Int} : gMax [.list (.int n :: ns.map .int)] = some (.int (ns.foldl max n)) := by
  show (if okMM (.int n :: ns.map .int) = true then some (W.maxD (.int n) (ns.map .int)) else none) = _
  rw [if_pos (okMM_ints n ns), W.maxD_ints]
@[simp] theorem gl_min2 {i j : Int} : gMin [.int i, .int j] = some (.int (min i j)) := by
  show some (PyData.int (if j < i then j else i)) = _
  congr 2
  rw [Int.min_def]
  split <;> split <;> omega
@[simp] theorem gl_max2 {i j : Int} : gMax [.int i, .int j] = some (.int (max i j)) := by
  show some (PyData.int (if j > i then j else i)) = _
  congr 2
  rw [Int.max_def]
  split <;> split <;> omega
/-! ### places -/
theorem atI_n {α : Type} {xs : List α} {k : Nat} {v : α} (h : xs[k]? = some v) : atI xs (k : Int) = some v := atI_nat h
theorem ix_t {xs : List D} {k : Nat} {v : D} (h : xs[k]? = some v) : gIx (.tuple xs) (.int k) = some v := atI_n h
theorem ix_l {xs : List D} {k : Nat} {v : D} (h : xs[k]? = some v) : gIx (.list xs) (.int k) = some v := atI_n h
theorem ix_tm {α : Type} {xs : List α} {f : α → D} {k : Nat} {v : α} (h : xs[k]? = some v) : gIx (.tuple (xs.map f)) (.int k) = some (f v) := ix_t (by simp [h])
theorem ix_lm {α : Type} {xs : List α} {f : α → D} {k : Nat} {v : α} (h : xs[k]? = some v) : gIx (.list (xs.map f)) (.int k) = some (f v) := ix_l (by simp [h])
@[simp] theorem ix_t0 {x : D} {xs : List D} : gIx (.tuple (x :: xs)) (.int 0) = some x := ix_t (k := 0) rfl
@[simp] theorem ix_t1 {x y : D} {xs : List D} : gIx (.tuple (x :: y :: xs)) (.int 1) = some y := ix_t (k := 1) rfl
@[simp] theorem ix_t2 {x y z : D} {xs : List D} : gIx (.tuple (x :: y :: z :: xs)) (.int 2) = some z := ix_t (k := 2) rfl
@[simp] theorem ix_l0 {x : D} {xs : List D} : gIx (.list (x :: xs)) (.int 0) = some x := ix_l (k := 0) rfl
@[simp] theorem ix_l1 {x y : D} {xs : List D} : gIx (.list (x :: y :: xs)) (.int 1) = some y := ix_l (k := 1) rfl
@[simp] theorem ix_l2 {x y z : D} {xs : List D} : gIx (.list (x :: y :: z :: xs)) (.int 2) = some z := ix_l (k := 2) rfl
@[simp] theorem ix_l3 {x y z w : D} {xs : List D} : gIx (.list (x :: y :: z :: w :: xs)) (.int 3) = some w := ix_l (k := 3) rfl
@[simp] theorem ix_l4 {x y z w v : D} {xs : List D} : gIx (.list (x :: y :: z :: w :: v :: xs)) (.int 4) = some v := ix_l (k := 4) rfl
/-! ### what is walked -/
@[simp] theorem it_l {xs : List D} : itemsS (.list xs) = some xs := rfl
@[simp] theorem it_t {xs : List D} : itemsS (.tuple xs) = some xs := rfl
theorem rgD_nat (n : Nat) : rgD 0 n = (List.range n).map fun i : Nat => PyData.int (i : Int) := by
  unfold rgD
  simp
theorem rgOk_nat {n : Nat} (h : n ≤ 1000000) : rgOk 0 n = true := by
  rw [rgOk_iff]
  omega
theorem rg1_nat {n : Nat} (h : n ≤ 1000000) : giRg1 [.int n] = some ((List.range n).map fun i : Nat => PyData.int (i : Int)) := by
  show (if rgOk 0 n = true then some (rgD 0 n) else none) = _
  rw [if_pos (rgOk_nat h), rgD_nat]
theorem rg2_of {a b : Int} (h1 : -1000000 ≤ a) (h2 : a ≤ 1000000) (h3 : -1000000 ≤ b) (h4 : b ≤ 1000000) : giRg2 [.int a, .int b] = some ((List.range (b - a).toNat).map fun i : Nat => PyData.int (a + (i : Int))) := by
  show (if rgOk a b = true then some (rgD a b) else none) = _
  rw [if_pos (rgOk_iff.mpr ⟨h1, h2, h3, h4⟩)]
  rfl
theorem enum_map {α : Type} {f : α → D} : ∀ (xs : List α) (k : Nat), enumD k (xs.map f) = (xs.zipIdx k).map fun p => .tuple [.int (p.2 : Int), f p.1]
  | [], _ => rfl
  | x :: xs, k => by
    show _ :: _ = _
    rw [enum_map xs (k + 1)]
    rfl
theorem zip_map {α β : Type} {f : α → D} {g : β → D} : ∀ (xs : List α) (ys : List β), zipD (xs.map f) (ys.map g) = (xs.zip ys).map fun p => .tuple [f p.1, g p.2]
  | [], _ => rfl
  | _ :: _, [] => rfl
  | x :: xs, y :: ys => by
    show _ :: _ = _
    rw [zip_map xs ys]
    rfl
theorem gi_enum {α : Type} {f : α → D} {xs : List α} : giEnum [.tuple (xs.map f)] = some (xs.zipIdx.map fun p => .tuple [.int (p.2 : Int), f p.1]) := by
  show some (enumD 0 (xs.map f)) = _
  rw [enum_map]
theorem gi_enumL {α : Type} {f : α → D} {xs : List α} : giEnum [.list (xs.map f)] = some (xs.zipIdx.map fun p => .tuple [.int (p.2 : Int), f p.1]) := by
  show some (enumD 0 (xs.map f)) = _
  rw [enum_map]
theorem gi_zip {α β : Type} {f : α → D} {g : β → D} {xs : List α} {ys : List β} : giZip [.tuple (xs.map f), .tuple (ys.map g)] = some ((xs.zip ys).map fun p => .tuple [f p.1, g p.2]) := by
  show some (zipD (xs.map f) (ys.map g)) = _
  rw [zip_map]
theorem gi_zipLT {α β : Type} {f : α → D} {g : β → D} {xs : List α} {ys : List β} : giZip [.list (xs.map f), .tuple (ys.map g)] = some ((xs.zip ys).map fun p => .tuple [f p.1, g p.2]) := by
  show some (zipD (xs.map f) (ys.map g)) = _
  rw [zip_map]
/-! ### comprehensions -/
theorem lcMap {α : Type} {b : Bd} {el : FE} {ε : En} {f : α → D} {h : α → D} : ∀ {xs : List α}, (∀ x ∈ xs, (b (f x) ε).bind el = some (h x)) → compL b bTrue el ε (xs.map f) = some (xs.map h)
  | [], _ => rfl
  | x :: xs, hx => by
    obtain ⟨ε1, q1, q2⟩ := bindSome (hx x List.mem_cons_self)
    show (b (f x) ε).bind _ = _
    rw [q1]
    show (el ε1).bind _ = _
    rw [q2]
    show (compL b bTrue el ε (xs.map f)).map _ = _
    rw [lcMap fun y hy => hx y (List.mem_cons_of_mem _ hy)]
    rfl
theorem lcFilter {α : Type} {b : Bd} {tt : En → Option Bool} {el : FE} {ε : En} {f : α → D} {p : α → Bool} {h : α → D} : ∀ {xs : List α}, (∀ x ∈ xs, (b (f x) ε).bind (fun ε1 => (tt ε1).bind fun c => if c then (el ε1).map fun y => (c, y) else some (c, .none)) = some (p x, if p x then h x else .none)) → compL b tt el ε (xs.map f) = some ((xs.filter p).map h)
  | [], _ => rfl
  | x :: xs, hx => by
    obtain ⟨ε1, q1, q2⟩ := bindSome (hx x List.mem_cons_self)
    obtain ⟨c, q3, q4⟩ := bindSome q2
    have ih := lcFilter (b := b) (tt := tt) (el := el) (ε := ε) (f := f) (p := p) (h := h) (xs := xs) fun y hy => hx y (List.mem_cons_of_mem _ hy)
    show (b (f x) ε).bind _ = _
    rw [q1]
    show (tt ε1).bind _ = _
    rw [q3]
    show (if c = true then _ else _) = _
    cases c with
    | true =>
      rw [if_pos rfl] at q4 ⊢
      obtain ⟨y, q5, q6⟩ := Option.map_eq_some_iff.mp q4
      have e1 : p x = true := (Prod.mk.inj q6).1.symm
      have e2 : y = h x := by have := (Prod.mk.inj q6).2; rw [e1] at this; simpa using this
      rw [q5]
      show (compL b tt el ε (xs.map f)).map _ = _
      rw [ih, List.filter_cons_of_pos e1, e2]
      rfl
    | false =>
      rw [if_neg Bool.false_ne_true] at q4 ⊢
      have e1 : p x = false := (Prod.mk.inj (Option.some.inj q4)).1.symm
      rw [ih, List.filter_cons_of_neg (by rw [e1]; decide)]
/-- one turn of a comprehension whose parts may change things -/
theorem compM_nil {vs : List Nat} {b : Bd} {mt : En → Option (Bool × En)} {me : FM} {ε : En} : compM vs b mt me [] ε = some ([], ε) := rfl
theorem compM_cons {vs : List Nat} {b : Bd} {mt : En → Option (Bool × En)} {me : FM} {ε : En} {d : D} {ds : List D} : compM vs b mt me (d :: ds) ε = (b d ε).bind fun ε1 => (mt ε1).bind fun x => if x.1 then (me x.2).bind fun y => if y.2.length = ε.length then (compM vs b mt me ds (wipeE y.2 vs)).map fun z => (y.1 :: z.1, z.2) else none else if x.2.length = ε.length then compM vs b mt me ds (wipeE x.2 vs) else none := rfl
/-! ### contracts by cases -/
section
open Classical
noncomputable def gOf {α : Type} (f : α → List D) (dom : α → Prop) (r : α → D) : List D → Option D := fun ds => if h : ∃ a, dom a ∧ ds = f a then some (r h.choose) else none
theorem gOf_inv {α : Type} {f : α → List D} {dom : α → Prop} {r : α → D} {ds : List D} {d : D} (h : gOf f dom r ds = some d) : ∃ a, dom a ∧ ds = f a ∧ d = r a := by
  unfold gOf at h
  split at h
  · rename_i hx
    cases h
    exact ⟨hx.choose, hx.choose_spec.1, hx.choose_spec.2, rfl⟩
  · cases h
theorem gOf_eq {α : Type} {f : α → List D} {dom : α → Prop} {r : α → D} (inj : ∀ a b, f a = f b → r a = r b) {a : α} (h : dom a) : gOf f dom r (f a) = some (r a) := by
  unfold gOf
  have hx : ∃ b, dom b ∧ f a = f b := ⟨a, h, rfl⟩
  rw [dif_pos hx, inj _ _ hx.choose_spec.2]
noncomputable def gOfI {α : Type} (f : α → List D) (dom : α → Prop) (r : α → D × D) : List D → Option (D × D) := fun ds => if h : ∃ a, dom a ∧ ds = f a then some (r h.choose) else none
theorem gOfI_inv {α : Type} {f : α → List D} {dom : α → Prop} {r : α → D × D} {ds : List D} {d : D × D} (h : gOfI f dom r ds = some d) : ∃ a, dom a ∧ ds = f a ∧ d = r a := by
  unfold gOfI at h
  split at h
  · rename_i hx
    cases h
    exact ⟨hx.choose, hx.choose_spec.1, hx.choose_spec.2, rfl⟩
  · cases h
theorem gOfI_eq {α : Type} {f : α → List D} {dom : α → Prop} {r : α → D × D} (inj : ∀ a b, f a = f b → r a = r b) {a : α} (h : dom a) : gOfI f dom r (f a) = some (r a) := by
  unfold gOfI
  have hx : ∃ b, dom b ∧ f a = f b := ⟨a, h, rfl⟩
  rw [dif_pos hx, inj _ _ hx.choose_spec.2]
end
theorem ints_inj : ∀ {xs ys : List Int}, xs.map PyData.int = ys.map PyData.int → xs = ys
  | [], [], _ => rfl
  | [], _ :: _, h => by simp at h
  | _ :: _, [], h => by simp at h
  | x :: xs, y :: ys, h => by
    rw [List.map_cons, List.map_cons] at h
    injection h with h1 h2
    injection h1 with h1
    rw [h1, ints_inj h2]
end Pd

set_option Elab.async false
set_option linter.all false
set_option maxRecDepth 100000
set_option maxHeartbeats 4000000
/-! Pd15: a law's own end. -/
namespace Pd
open PySem PySem.Spec PyProof.Rows L2
section
variable {P : Program} {w : World} {K : PySem.W.Frag} {mg : Str → Option Value} {base : Heap} {x qual y : Str} {st : Stmt} {f : Addr} {fd : FuncData} {N ps : List Str} {k : Nat}
theorem okP {g : List D → Option D} {sem : FS} (F : Fun K x qual st f fd) (S : FnScope N ps (defScope st)) (hb : L2.Binds K fd ps []) (hm : mg y = some (.ref f))
    (body : ∀ (cdv : Value) (A : Around) (outer : List Env) (s : Shared) (H : Hp) (E : XK), RoomG k (A.deeper (envOfC qual (defScope st) s.heap.objs.size f cdv)) → ∃ t, SSs (cxOf CX0 P w K mg base N qual (defScope st) f cdv A outer s H E).nox (defBody st) t sem)
    (law : ∀ ds d, ds.length = ps.length → g ds = some d → sem (seP d) (envP ds (N.length - ps.length))) : FnRG P w K mg base (k + 1) f (spP K ps.length g) := by
  obtain ⟨fa, h, e, _⟩ := (fnP F S hb hm body law).ex
  have : fa = f := by
    rw [hm] at e
    cases e
    rfl
  subst this
  exact h
theorem law_callG {P : Program} {w : World} {K : PySem.W.Frag} {mg mb : Str → Option Value} {k : Nat} {fa a : Addr} {sp : Sp} {S1 : Shared} {vs : List Value} {ns : List Int}
    (KX : K.In S1.heap) (gs : S1.heap.Ns mainGlobals mg) (bs : S1.heap.Ns builtinsNs mb) (bb : ∀ x : Str, x ≠ "__name__" → mb x = bootBuiltins x) (lim : S1.heap.NoLimit) (hg : S1.gens = #[])
    (ha : S1.heap.get? a = some { cls := .type "list", data := .seq vs.toArray }) (hi : IntsAre vs ns) (hl : ns.length ≤ sizeLine) (hr : RoomG k callerA)
    (F : ∀ base : Heap, K.In base → base.Ns mainGlobals mg → FnRG P w K mg base k fa sp)
    (hsp : ∀ H : Hp, Only H → SqL K H a (ns.map V.int) → sp [.ref a] H (fun v _ => v = .bl true) fun _ _ _ => False) :
    codeAny (model P w) callerA (.call (.ref fa) ⟨[.ref a], []⟩) (fun r s' => r = .ok (.ret (.bool true)) ∧ OldK S1.heap s'.heap ∧ s'.os = S1.os ∧ AllBare s'.gens) S1 := by
  have rv := vals_ints hi
  have main : ∀ H : Hp, Only H → SqL K H a (ns.map V.int) → HOk P w H S1.heap → (∀ b, H b ≠ none → b = a) → (H a ≠ none → K.lookup a = none) → codeAny (model P w) callerA (.call (.ref fa) ⟨[.ref a], []⟩)
      (fun r s' => r = .ok (.ret (.bool true)) ∧ OldK S1.heap s'.heap ∧ s'.os = S1.os ∧ AllBare s'.gens) S1 := by
    intro H onlyH sq ok hA hK
    have not_dict : ∀ {b : Addr} {o : Obj} {es : Array DictEntry} {ep : Nat}, S1.heap.get? b = some o → o.data = .dict es ep → H b = none := by
      intro b o es ep e d
      refine Classical.byContradiction fun q => ?_
      have z := hA b q
      subst z
      rw [ha] at e
      cases e
      cases (show Data.seq vs.toArray _ = Data.dict es ep from d)
    have keepNs : ∀ {b : Addr} {m : Str → Option Value}, S1.heap.Ns b m → (hidT S1.heap H).Ns b m := by
      rintro b m ⟨o, es, ep, e, d, r⟩
      exact ⟨o, es, ep, hidT_get e (not_dict e d), d, r⟩
    have inK : K.In (hidT S1.heap H) := by
      intro b o e
      refine hidT_get (KX b o e) (Classical.byContradiction fun q => ?_)
      have z := hA b q
      subst z
      rw [hK q] at e
      cases e
    have md : Mod K mg (hidT S1.heap H) := ⟨inK, keepNs gs, ⟨mb, keepNs bs, bb⟩, match lim with | ⟨mc, h1, h2⟩ => ⟨mc, keepNs h1, h2⟩⟩
    have e0 : Env0 P w K mg (hidT S1.heap H) callerA [] S1 H := { frames := rfl, mod := md, bs := fun b o e => of_hidT e, bsz := Nat.le_of_eq (hidT_size _ _), funs := trivial, frf := fun b z => (nomatch z), hok := ok, bare := .of_eq hg }
    have z := F _ inK (keepNs gs) callerA [] S1 H [.ref a] [.ref a] _ _ hr e0 (.cons rfl .nil) (hsp H onlyH sq)
    refine codeAny_mono z ?_
    rintro (e | (_ | _ | _ | u)) s' h
    · exact h.elim
    · exact h.elim
    · exact h.elim
    · exact h.elim
    · obtain ⟨v, H', os, bare, un, ok', r', q⟩ := h
      cases (show v = .bl true from q)
      cases (show u = Value.bool true from r')
      refine ⟨rfl, OldK.of_keep fun b o e => ?_, os, bare⟩
      cases q : H b with
      | none => exact un.keep b o e q (fun y => (nomatch y)) (fun y => (nomatch y))
      | some u =>
        rcases onlyH b with y | ⟨ob, xs, y⟩
        · rw [q] at y
          cases y
        · obtain ⟨e1, _⟩ := ok b _ y
          obtain ⟨e2, _⟩ := ok' b _ (un.frzs b ob _ y)
          rw [e] at e1
          cases e1
          exact e2
  cases hk : K.lookup a with
  | some o =>
    have e := KX a o hk
    rw [ha] at e
    cases e
    have sz : vs.length ≤ sizeLine := by rw [hi.length]; exact hl
    exact main (fun _ => none) (fun _ => .inl rfl) (.inr ⟨_, vs.toArray, _, hk, rfl, rfl, rfl, sz, rv⟩) (fun b u z => by cases (show (none : Option HO) = some u from z)) (fun b z => absurd rfl z) (fun z => absurd rfl z)
  | none =>
    let H0 : Hp := fun b => if b = a then some (.frz { cls := .type "list", data := .seq vs.toArray } (.lst (ns.map V.int))) else none
    have at_a : ∀ {b : Addr}, H0 b ≠ none → b = a := fun {b} h => Classical.byContradiction fun z => h (if_neg z)
    refine main H0 (fun b => ?_) (.inl (.inr ⟨{ cls := .type "list", data := .seq vs.toArray }, if_pos rfl⟩)) (fun b u z => ?_) (fun b z => at_a z) (fun _ => hk)
    · by_cases hb : b = a
      · exact .inr ⟨_, _, if_pos hb⟩
      · exact .inl (if_neg hb)
    · have hb : b = a := at_a (by rw [show H0 b = some u from z]; simp)
      subst hb
      have y : some _ = some u := (if_pos rfl).symm.trans z
      cases y
      exact ⟨ha, by rw [List.length_map]; exact hl, vs, _, rv, ha⟩
theorem walk_ofG {l : PySem.W.OpenLaw} {n k : Nat} {q : Program} {loose : List Str} {XP : (Str → Option Value) → Heap → Prop} {YP : World → Heap → Prop} {d : DefRec} (hn : l.most = some n) (hn2 : n ≤ sizeLine) (hdf : d.params.defaults = []) (hr : RoomG k callerA)
    (F : ∀ (w : World) (mg : Str → Option Value) (fa : Addr) (h : Heap), YP w h → h.Ns mainGlobals mg → mg d.name = some (.ref fa) → ∃ (K : PySem.W.Frag) (sp : Sp), K.In h ∧
      (∀ (H : Hp) (a : Addr) (ns : List Int), ns.length ≤ n → Only H → SqL K H a (ns.map V.int) → sp [.ref a] H (fun v _ => v = .bl true) fun _ _ _ => False) ∧ ∀ base : Heap, K.In base → base.Ns mainGlobals mg → FnRG l.prog w K mg base k fa sp) :
    PySem.W.WalkO q loose XP YP l.row.toRowW d [] (fun f vs => PySem.call f vs) := by
  refine Att.attach_call hn hdf fun w s₀ S1 mg mb fa o pm cd doc a vs ns G Y ho hd hcd hmg hobj hints hlen hg => ?_
  obtain ⟨K, sp, KX, hsp, hF⟩ := F w mg fa _ Y G.T.g hmg
  exact law_callG KX G.T.g G.T.b G.T.builtins G.T.nolimit hg hobj hints (Nat.le_trans hlen hn2) hr hF fun H h1 h2 => hsp H a ns hlen h1 h2
theorem fun_of {dvs : List V} {kws : List (Str × V)} (F : FunD K x qual (defArgs st) (defBody st) (defScope st) dvs kws f fd) (h : dvs = []) : Fun K x qual st f fd := by
  obtain ⟨oc, od, dV, kV, doc, pm, an, cdv, ct, osl, rfl, lk, hcd, hD, hK⟩ := F.ex
  rcases hD with ⟨_, rfl⟩ | ⟨e, _⟩
  · exact ⟨⟨oc, od, kV, doc, pm, an, cdv, ct, osl, rfl, lk, hcd⟩, F.kp⟩
  · exact absurd h e
theorem repI {H : Hp} : ∀ ns : List Int, RepL K H (ns.map V.int) (ns.map .int)
  | [] => .nil
  | n :: ns => .cons (.int n) (repI ns)
/-- what a law asks of its call -/
theorem law_says {g : List D → Option D} {n : Nat} (hg : ∀ ns : List Int, ns.length ≤ n → g [.dict [(.bool true, .list (ns.map .int))]] = some (.bool true)) : ∀ (H : Hp) (a : Addr) (ns : List Int), ns.length ≤ n → Only H → SqL K H a (ns.map V.int) → spP K 1 g [.ref a] H (fun v _ => v = .bl true) fun _ _ _ => False :=
  fun H a ns hl _ hS => ⟨[.dict [(.bool true, .list (ns.map .int))]], .bool true, .cons (.scr hS (repI ns)) .nil, rfl, hg ns hl, fun v H' _ nw => by
    obtain ⟨fp, r, _⟩ := nw
    cases r
    rfl⟩
end
end Pd

set_option Elab.async false
set_option linter.all false
set_option maxRecDepth 100000
set_option maxHeartbeats 4000000
/-! Pd16: str(), repr(), tuples and lists turned round, starred calls. -/
namespace Pd
open PySem PySem.Spec PyProof.Rows L2
section
variable {X : Cx}
/-- numbers that may be written -/
def smT (i : Int) : Bool := decide (i.natAbs < 2 ^ 1000)
theorem smT_log {i : Int} (h : smT i = true) : i.natAbs.log2 < 1920 := Nat.lt_trans (PySem.Flt.log2_lt_of (by decide) (of_decide_eq_true h)) (by decide : 1000 < 1920)
def gStr : List D → Option D
  | [.int i] => if smT i then some (.str (toString i)) else none
  | [.str x] => some (.str x)
  | _ => none
theorem c_str : CallP X (.type "str") (fun xs H Q => (∃ i, xs = [.int i] ∧ i.natAbs.log2 < 1920 ∧ Q (.str (toString i)) H) ∨ ∃ a, xs = [.str a] ∧ Q (.str a) H) gStr := by
  refine ⟨CallR.or call_str_int SkE.call_str_str, fun vs ds z H Q r q k => ?_⟩
  unfold gStr at q
  split at q
  · obtain ⟨v, rfl, rv1⟩ := rep1 r
    split at q
    · rename_i hc
      cases q; cases rv1
      exact .inl ⟨_, rfl, smT_log hc, k _ H (Same.refl H) newStr⟩
    · cases q
  · obtain ⟨v, rfl, rv1⟩ := rep1 r
    cases q; cases rv1
    exact .inr ⟨_, rfl, k _ H (Same.refl H) newStr⟩
  · cases q
/-! repr of a tuple -/
def cShow (d : D) : Bool := d.plain && d.showable && !d.hasDict && decide (d.depth ≤ 40) && decide (d.shown.length ≤ cap)
def gRepr : List D → Option D
  | [.tuple xs] => if cShow (.tuple xs) then some (.str (PyData.tuple xs).shown) else none
  | _ => none
def rRepr (K : PySem.W.Frag) : List V → Hp → VK → Prop := fun xs H Q => ∃ a ys, xs = [.ref a] ∧ Rep K H (.ref a) (.tuple ys) ∧ cShow (.tuple ys) = true ∧ Q (.str (PyData.tuple ys).shown) H
theorem c_repr {K : PySem.W.Frag} (hu : X.A.units + 64 < cLine) (hg : X.A.guards = some []) (hK : X.K = K := by rfl) : CallP X (.builtin "repr") (rRepr K) gRepr := by
  subst hK
  refine ⟨fun pins s σ H xs us Q I r h => ?_, fun vs ds z H Q r q k => ?_⟩
  · obtain ⟨a, ys, rfl, rd, hc, q⟩ := h
    simp only [cShow, Bool.and_eq_true, decide_eq_true_eq, Bool.not_eq_true'] at hc
    obtain ⟨u, rfl, ru⟩ : ∃ u, us = [u] ∧ RelV (.ref a) u := by
      cases r with
      | cons h t => cases t; exact ⟨_, rfl, h⟩
    cases ru
    obtain ⟨as, hr⟩ := rd.reads I rfl hc.1.1.1.1
    refine repr_of_reads' hr hc.1.1.1.2 (fun z => by rw [hc.1.1.2] at z; cases z) hg (by omega) (fun _ _ z => z) (fun h' u tk hk => ?_) (cap_le hc.2)
    exact ⟨.str _, H, I.kept (t' := tk) hk, ⟨_, rfl⟩, q⟩
  · unfold gRepr at q
    split at q
    · obtain ⟨v, rfl, rv1⟩ := rep1 r
      split at q
      · rename_i hc
        cases q
        cases rv1 with
        | tup h r => exact ⟨_, _, rfl, .tup h r, hc, k _ H (Same.refl H) newStr⟩
      · cases q
    · cases q
/-! xs[::-1] -/
section
variable {prog : Program} {w : World} {A : Around} {E : Value → Shared → Prop} {s : Shared}
theorem slice_rev {sl : Addr} {vl vu vs : Value} {n : Nat} {Q : Int × Int × Nat → Shared → Prop} (hs : s.heap.IsSliceOf sl vl vu vs) (pl : IsPart vl none) (pu : IsPart vu none) (ps : IsPart vs (some (-1))) (h : Q ((n : Int) - 1, -1, n) s) :
    wpAny (model prog w) A (Builtin.Slice.sliceApplied (.ref sl) (pure (n : Int))) Q E s := by
  obtain ⟨os, h1, h2, h3⟩ := hs
  unfold Builtin.Slice.sliceApplied Builtin.Slice.sliceFields
  refine wpAny_bind (wpAny_bind (wpAny_field h1 h3 (x := vl) rfl (wpAny_bind (wpAny_field h1 h3 (x := vu) rfl (wpAny_bind (wpAny_field h1 h3 (x := vs) rfl (wpAny_pure ?_)))))))
  refine wpAny_bind (HT.slicePart_ ps ?_)
  show wpAny _ _ (if ((-1 : Int) == 0) = true then _ else _) _ _ s
  rw [if_neg (by decide)]
  refine wpAny_bind (HT.slicePart_ pl (wpAny_bind (HT.slicePart_ pu (wpAny_bind (wpAny_pure ?_)))))
  have ad : Builtin.Slice.sliceAdjust none none (-1) (n : Int) = ((n : Int) - 1, -1) := rfl
  have pc : Builtin.Slice.slicePlaces ((n : Int) - 1) (-1) (-1) = n := by
    unfold Builtin.Slice.slicePlaces
    rw [if_neg (by decide)]
    split
    · have : ((n : Int) - 1 - (-1) - 1) / (- -1) = (n : Int) - 1 := by
        show ((n : Int) - 1 - (-1) - 1) / 1 = _
        rw [Int.ediv_one]
        omega
      omega
    · omega
  show wpAny _ _ (match Builtin.Slice.sliceAdjust none none (-1) (n : Int) with | (lo, hi) => pure (lo, (-1 : Int), Builtin.Slice.slicePlaces lo hi (-1))) _ _ s
  rw [ad]
  show wpAny _ _ (pure ((n : Int) - 1, (-1 : Int), Builtin.Slice.slicePlaces ((n : Int) - 1) (-1) (-1))) _ _ s
  rw [pc]
  exact wpAny_pure h
theorem pick_rev (xs : Array Value) : ((List.range xs.size).filterMap fun (m : Nat) => xs[((xs.size : Int) - 1 + (m : Int) * (-1)).toNat]?).toArray = xs.toList.reverse.toArray := by
  congr 1
  have e : (List.range xs.size).filterMap (fun (m : Nat) => xs[((xs.size : Int) - 1 + (m : Int) * (-1)).toNat]?) = (List.range xs.size).map fun m => xs.toList.reverse[m]?.getD .none := by
    have key : ∀ l : List Nat, (∀ m ∈ l, m < xs.size) → l.filterMap (fun (m : Nat) => xs[((xs.size : Int) - 1 + (m : Int) * (-1)).toNat]?) = l.map fun m => xs.toList.reverse[m]?.getD .none := by
      intro l
      induction l with
      | nil => intro _; rfl
      | cons m l ih =>
        intro h
        have hm := h m List.mem_cons_self
        have e1 : ((xs.size : Int) - 1 + (m : Int) * (-1)).toNat = xs.size - 1 - m := by omega
        have hlt : xs.size - 1 - m < xs.size := by omega
        rw [List.filterMap_cons, e1, Array.getElem?_eq_getElem hlt, List.map_cons, ih fun x hx => h x (List.mem_cons_of_mem _ hx)]
        congr 1
        rw [List.getElem?_reverse (by simpa using hm)]
        simp [hlt]
    exact key _ fun m hm => List.mem_range.mp hm
  rw [e]
  refine List.ext_getElem (by simp) fun i h1 h2 => ?_
  have : i < xs.toList.reverse.length := h2
  simp only [List.getElem_map, List.getElem_range, List.getElem?_eq_getElem h2]
  rfl
theorem getItem_rev {t sl : Addr} {items : Array Value} {vl vu vs : Value} {Q : Value → Shared → Prop} (ht : IsTup s.heap t items) (hs : s.heap.IsSliceOf sl vl vu vs) (pl : IsPart vl none) (pu : IsPart vu none) (ps : IsPart vs (some (-1))) (hz : items.size ≤ sizeLine)
    (h : Q (.ref s.heap.objs.size) { s with heap := s.heap.push { cls := .type "tuple", data := .seq items.toList.reverse.toArray } }) : wpAny (model prog w) A (getItem (.ref t) (.ref sl)) Q E s := by
  have sz : sizeOk (.seq items.toList.reverse.toArray) := by
    show items.toList.reverse.toArray.size ≤ sizeLine
    simpa using hz
  obtain ⟨os, h1, h2, h3⟩ := id hs
  have ty : s.TypeIs (.ref sl) "slice" := ⟨os, h1, h2⟩
  unfold getItem
  try with_reducible refine wpAny_holding ?_
  first | refine wpAny_bind (wpAny_pure ?_) | skip
  refine wpAny_bind (wpAny_sequenceKey ht.typeIs (by decide) ?_)
  refine wpAny_bind (wpAny_callSpecial?_slot (name := Str.ofString "__getitem__") ht.typeIs PyProof.Rows.slot_tuple_getitem (wpAny_call_entry PyProof.Rows.slot_tuple_getitem ht.typeIs entry_tuple_getitem ?_ (args_tuple_getitem _ _)))
  show wpAny _ _ (Builtin.Tuple.tupleItemsOf (.ref t) >>= _) _ _ s
  refine wpAny_bind (tupleItemsOf_ ht (wpAny_bind (wpAny_typeOf ty ?_)))
  rw [if_pos (by decide)]
  refine wpAny_bind (slice_rev hs pl pu ps ?_)
  have no : ¬ ((((items.size : Int) - 1) == 0 && (-1 : Int) == 1 && items.size == items.size) = true) := by simp
  show wpAny _ _ (if (((items.size : Int) - 1) == 0 && (-1 : Int) == 1 && items.size == items.size) = true then _ else _) _ _ s
  rw [if_neg no, pick_rev]
  first
    | exact wpAny_bind (m := Builtin.Tuple.tupleExact _) (wpAny_newObj_type (wpAny_pure ⟨_, rfl, wpAny_pure h⟩) sz)
    | exact wpAny_bind (m := Builtin.Tuple.tupleExact _) (wpAny_newObj_type (wpAny_bind (wpAny_pure (wpAny_pure ⟨_, rfl, wpAny_pure h⟩))) sz)
    | exact wpAny_bind (wpAny_bind (m := Builtin.Tuple.tupleExact _) (wpAny_newObj_type (wpAny_pure (wpAny_pure ⟨_, rfl, wpAny_pure h⟩)) sz))
    | exact wpAny_bind (wpAny_bind (m := Builtin.Tuple.tupleExact _) (wpAny_newObj_type (wpAny_pure ⟨_, rfl, wpAny_pure h⟩) sz))
end
def gRev : D → Option D
  | .tuple xs => if frozenL xs then some (.tuple xs.reverse) else none
  | .list xs => if frozenL xs then some (.list xs.reverse) else none
  | _ => none
def tRevA (K : PySem.W.Frag) (te : TE) : TE := fun σ H Q => te σ H fun x H1 => ∃ a xs, x = .ref a ∧ ((SqL K H1 a xs ∧ ∀ p, H1 p = none → Q (.ref p) (upd H1 p (.lst xs.reverse))) ∨ (SqT K H1 a xs ∧ ∀ p, H1 p = none → Q (.ref p) (upd H1 p (.tup xs.reverse))))
theorem pe_revA {e : Expr} {te : TE} {k : Nat} {p1 p2 p3 pos : Pos} (he : PE X e te) : PE X (.Subscript e (.Slice none none (some (.UnaryOp .USub (.Constant (.int 1) k p1) p2)) p3) pos) (tRevA X.K te) := by
  refine ⟨fun pins s σ H Q I h => ?_⟩
  refine Subscript_ (thn (he.run pins s σ H _ I h) fun v s1 ⟨x, H1, I1, r1, a, xs, ex, hx⟩ => ?_)
  subst ex
  cases r1
  have step : PO X (some (.UnaryOp .USub (.Constant (.int 1) k p1) p2)) (tPart (tUn (rU fun i => .int (-i)) (tC (.int 1)))) := po_some (pe_un un_neg pe_int)
  refine wpAny_Slice (thn (po_none.run pins s1 σ H1 (fun o Hz => o = none ∧ Hz = H1) I1 ⟨rfl, rfl⟩) ?_)
  rintro vl s2 ⟨l, H2, I2, pl, rfl, rfl⟩
  refine thn (po_none.run pins s2 σ H2 (fun o Hz => o = none ∧ Hz = H2) I2 ⟨rfl, rfl⟩) ?_
  rintro vu s3 ⟨u, H3, I3, pu, rfl, rfl⟩
  refine thn (step.run pins s3 σ H3 (fun o Hz => o = some (-1) ∧ Hz = H3) I3 ⟨1, rfl, -1, rfl, rfl, rfl⟩) ?_
  rintro vs s4 ⟨o, H4, I4, ps, rfl, rfl⟩
  have I5 : Inv X pins σ H4 { s4 with heap := s4.heap.push { cls := .type "slice", data := .fields #[vl, vu, vs] } } := I4.kept (t' := s4.toks) fun b ob q => Heap.get?_push_of_some _ q
  show wpAny (model X.prog X.w) X.A (subscriptTail e _ (.ref a) (.ref s4.heap.objs.size)) (EP X pins σ Q) X.xe { s4 with heap := s4.heap.push { cls := .type "slice", data := .fields #[vl, vu, vs] } }
  rcases hx with ⟨hx, q⟩ | ⟨hx, q⟩
  · obtain ⟨its, r, ht, hz⟩ := I5.list hx
    have hlen := r.length
    refine tail_any (ops := [.ref a, .ref s4.heap.objs.size]) ht.isList.typeIs (PySem.slot_list_getitem.lookup) ?_ (by with_unfolding_all rfl)
    refine wpAny_getItem_list_slice ht.isList (Heap.IsSliceOf.new _ vl vu vs) pl pu ps (by decide) ?_ (by rw [List.size_toArray]; omega)
    rw [PySem.W.krv_pick]
    refine ⟨.ref _, _, I5.laid (t' := s4.toks) (o := .lst xs.reverse) (fun b ob q => Heap.get?_push_of_some _ q) (Nat.le_refl _) ?_, rfl, q _ (I5.hok.fresh (Nat.le_refl _))⟩
    exact ⟨by rw [List.length_reverse]; exact hz, _, 0, r.reverse, Heap.get?_push_size _ rfl⟩
  · obtain ⟨its, r, ht, hz⟩ := I5.tuple hx
    have hlen := r.length
    refine tail_any (ops := [.ref a, .ref s4.heap.objs.size]) ht.typeIs (PyProof.Rows.slot_tuple_getitem.lookup) ?_ (by with_unfolding_all rfl)
    refine getItem_rev ht (Heap.IsSliceOf.new _ vl vu vs) pl pu ps (by rw [List.size_toArray]; omega) ?_
    refine ⟨.ref _, _, I5.laid (t' := s4.toks) (o := .tup xs.reverse) (fun b ob q => Heap.get?_push_of_some _ q) (Nat.le_refl _) ?_, rfl, q _ (I5.hok.fresh (Nat.le_refl _))⟩
    exact ⟨by rw [List.length_reverse]; exact hz, _, r.reverse, IsTup.new _ _⟩
theorem pf_rev {K : PySem.W.Frag} {e : Expr} {te : TE} {fe : FE} {k : Nat} {p1 p2 p3 pos : Pos} (he : PP X e te fe) (hK : X.K = K := by rfl) : PF X (.Subscript e (.Slice none none (some (.UnaryOp .USub (.Constant (.int 1) k p1) p2)) p3) pos) (tRevA K te) (e1 gRev fe) := by
  subst hK
  refine ⟨pe_revA he.pe, fun ε σ H d Q ok q kk => ?_⟩
  obtain ⟨x, q1, q2⟩ := bindSome q
  refine he.so ε σ H x _ ok q1 fun v H1 s1 r1 => ?_
  unfold gRev at q2
  split at q2
  · split at q2
    · rename_i hf
      cases q2
      cases r1 with
      | tup hx r => exact ⟨_, _, rfl, .inr ⟨hx, fun p hp => kk _ _ (s1.trans (sameNew hp _)) ((New.tup (H := H1) (NewL.frz r.reverse (frozenL_of hf fun d hd => List.mem_reverse.mp hd)) hp).back s1)⟩⟩
    · cases q2
  · split at q2
    · rename_i hf
      cases q2
      cases r1 with
      | lst hx r => exact ⟨_, _, rfl, .inl ⟨SqL.of hx, fun p hp => kk _ _ (s1.trans (sameNew hp _)) (New.lst (NewL.frz r.reverse (frozenL_of hf fun d hd => List.mem_reverse.mp hd)) s1 hp)⟩⟩
    · cases q2
  · cases q2
/-! f(*y): all arguments from a tuple or a list -/
def eFnS (n : Nat) (g : List D → Option D) (fe : FE) : FE := fun ε => (fe ε).bind fun d => (itemsD d).bind fun ds => if ds.length = n then g ds else none
theorem pe_callG1 {f : Addr} {lvl : Nat} {sp : Sp} {x : Str} {e : Expr} {te : TE} {p sp_ pos : Pos} (F : FnRG X.prog X.w X.K X.mg X.base lvl f sp) (hr : RoomG lvl X.A) (hk : PySem.W.keepIn X.K (.ref f) = true) (hg : Gl X x) (hm : X.mg x = some (.ref f)) (he : PE X e te) (hd : (x == ("__debug__" : Str)) = false) (hst : starEach [.Starred e sp_] X.env = [(true, eval e X.env)]) :
    PE X (.Call (.Name x p) [.Starred e sp_] [] pos) (fun σ H Q => te σ H fun y H1 => ∃ a xs, y = V.ref a ∧ (SqT X.K H1 a xs ∨ SqL X.K H1 a xs) ∧ sp xs H1 Q E0) := by
  constructor
  intro pins s σ H Q I h
  apply wpAny_Call_Name_kw
  apply ld_glob I hg hm _ hd
  refine PySem.W.callWith_S (h₀ := X.base) I.ok.mod.kin hk (thn (he.run pins s σ H _ I h) ?_) hst
  rintro v s1 ⟨y, H1, I1, ry, a, xs, rfl, hxs, q⟩
  obtain rfl : v = Value.ref a := ry
  exact StX.star_any I1 hxs fun us s2 I2 rv => ⟨I2.kIn, wpAny_call (run_fnG F hr I2 rv q)⟩
theorem pf_fnS1 {K : PySem.W.Frag} {n lvl : Nat} {g : List D → Option D} {x : Str} {e : Expr} {te : TE} {fe : FE} {p sp_ pos : Pos} (F : FnD X.prog X.w X.K X.mg X.base x lvl (spP K n g)) (hr : RoomG lvl X.A) (he : PP X e te fe) (hK : X.K = K := by rfl) (hg : Gl X x := by rfl) (hdb : (x == ("__debug__" : Str)) = false := by decide)
    (hst : starEach [.Starred e sp_] X.env = [(true, eval e X.env)] := by rfl) : PF X (.Call (.Name x p) [.Starred e sp_] [] pos) (fun σ H Q => te σ H fun y H1 => ∃ a xs, y = V.ref a ∧ (SqT K H1 a xs ∨ SqL K H1 a xs) ∧ spP K n g xs H1 Q E0) (eFnS n g fe) := by
  subst hK
  obtain ⟨fa, hF, hm, hk⟩ := F.ex
  refine ⟨pe_callG1 hF hr hk hg hm he.pe hdb hst, fun ε σ H d Q ok q kk => ?_⟩
  obtain ⟨y, q1, q2⟩ := bindSome q
  obtain ⟨ds, q3, q4⟩ := bindSome q2
  split at q4
  · rename_i hn
    refine he.so ε σ H y _ ok q1 fun v H1 s1 r1 => ?_
    unfold itemsD at q3
    split at q3
    · cases q3
      cases r1 with
      | lst hx r => exact ⟨_, _, rfl, .inr (SqL.of hx), ds, d, r, hn, q4, fun v H' s nw => kk v H' (s1.trans s) (nw.back s1)⟩
    · cases q3
      cases r1 with
      | tup hx r => exact ⟨_, _, rfl, .inl hx, ds, d, r, hn, q4, fun v H' s nw => kk v H' (s1.trans s) (nw.back s1)⟩
    · cases q3
  · cases q4
end
end Pd

set_option Elab.async false
set_option linter.all false
set_option maxRecDepth 100000
set_option maxHeartbeats 4000000
/-! Pd17: kinds of data with their encodings, contracts over them, loops by invariants. -/
namespace Pd
open PySem PySem.Spec PyProof.Rows L2
class Enc (α : Type) where
  enc : α → D
  inj : ∀ a b : α, enc a = enc b → a = b
open Enc
instance : Enc Int := ⟨.int, fun a b h => by simpa using h⟩
instance : Enc Nat := ⟨fun n => .int (n : Int), fun a b h => by
  simp only [PyData.int.injEq] at h
  omega⟩
instance : Enc Bool := ⟨.bool, fun a b h => by simpa using h⟩
instance : Enc Str := ⟨.str, fun a b h => by simpa using h⟩
instance : Enc D := ⟨id, fun a b h => h⟩
instance : Enc Unit := ⟨fun _ => .none, fun _ _ _ => rfl⟩
theorem map_inj_of {α : Type} {f : α → D} (h : ∀ a b, f a = f b → a = b) : ∀ {xs ys : List α}, xs.map f = ys.map f → xs = ys
  | [], [], _ => rfl
  | [], _ :: _, q => by simp at q
  | _ :: _, [], q => by simp at q
  | x :: xs, y :: ys, q => by
    simp only [List.map_cons, List.cons.injEq] at q
    rw [h x y q.1, map_inj_of h q.2]
instance {α : Type} [Enc α] : Enc (List α) := ⟨fun xs => .tuple (xs.map enc), fun a b h => by
  simp only [PyData.tuple.injEq] at h
  exact map_inj_of inj h⟩
instance {α β : Type} [Enc α] [Enc β] : Enc (α × β) := ⟨fun p => .tuple [enc p.1, enc p.2], fun a b h => by
  simp only [PyData.tuple.injEq, List.cons.injEq, and_true] at h
  exact Prod.ext (inj _ _ h.1) (inj _ _ h.2)⟩
/-- a list of Python -/
structure Lst (α : Type) where
  of : List α
instance {α : Type} [Enc α] : Enc (Lst α) := ⟨fun xs => .list (xs.of.map enc), fun a b h => by
  simp only [PyData.list.injEq] at h
  cases a; cases b
  simp only at h
  rw [map_inj_of inj h]⟩
/-- a triple -/
structure Tri (α β γ : Type) where
  a : α
  b : β
  c : γ
instance {α β γ : Type} [Enc α] [Enc β] [Enc γ] : Enc (Tri α β γ) := ⟨fun p => .tuple [enc p.a, enc p.b, enc p.c], fun x y h => by
  simp only [PyData.tuple.injEq, List.cons.injEq, and_true] at h
  cases x; cases y
  simp only at h
  rw [inj _ _ h.1, inj _ _ h.2.1, inj _ _ h.2.2]⟩
/-- fractions (top, bottom) in lowest terms -/
abbrev frD (q : Rat) : D := .tuple [.int q.num, .int (q.den : Int)]
instance : Enc Rat := ⟨frD, fun a b h => by
  simp only [PyData.tuple.injEq, List.cons.injEq, PyData.int.injEq, and_true] at h
  exact Rat.ext h.1 (by omega)⟩
/-- kinds that are never None -/
class NotNone (α : Type) [Enc α] : Prop where
  ne : ∀ a : α, enc a ≠ PyData.none
instance : NotNone Int := ⟨fun _ h => by cases h⟩
instance : NotNone Nat := ⟨fun _ h => by cases h⟩
instance : NotNone Rat := ⟨fun _ h => by cases h⟩
instance : NotNone Str := ⟨fun _ h => by cases h⟩
instance {α : Type} [Enc α] : NotNone (List α) := ⟨fun _ h => by cases h⟩
instance {α β : Type} [Enc α] [Enc β] : NotNone (α × β) := ⟨fun _ h => by cases h⟩
def encO {α : Type} [Enc α] : Option α → D
  | none => .none
  | some a => enc a
instance {α : Type} [Enc α] [NotNone α] : Enc (Option α) := ⟨encO, fun a b h => by
  cases a <;> cases b
  · rfl
  · exact absurd h.symm (NotNone.ne _)
  · exact absurd h (NotNone.ne _)
  · rw [inj _ _ h]⟩
@[simp] theorem enc_int : (enc : Int → D) = PyData.int := rfl
@[simp] theorem enc_bool : (enc : Bool → D) = PyData.bool := rfl
@[simp] theorem enc_str : (enc : Str → D) = PyData.str := rfl
@[simp] theorem enc_D : (enc : D → D) = id := rfl
abbrev natD (n : Nat) : D := .int (n : Int)
@[simp] theorem enc_nat : (enc : Nat → D) = natD := rfl
@[simp] theorem enc_rat : (enc : Rat → D) = frD := rfl
abbrev prD (p : Int × Int) : D := .tuple [.int p.1, .int p.2]
@[simp] theorem enc_prII : (enc : Int × Int → D) = prD := rfl
@[simp] theorem enc_pair {α β : Type} [Enc α] [Enc β] (p : α × β) : enc p = PyData.tuple [enc p.1, enc p.2] := rfl
@[simp] theorem enc_tri {α β γ : Type} [Enc α] [Enc β] [Enc γ] (p : Tri α β γ) : enc p = PyData.tuple [enc p.a, enc p.b, enc p.c] := rfl
abbrev triD (p : Tri Int Int Int) : D := .tuple [.int p.a, .int p.b, .int p.c]
@[simp] theorem enc_triI : (enc : Tri Int Int Int → D) = triD := rfl
@[simp] theorem enc_opt {α : Type} [Enc α] [NotNone α] : (enc : Option α → D) = encO := rfl
@[simp] theorem encO_none {α : Type} [Enc α] : encO (none : Option α) = PyData.none := rfl
@[simp] theorem encO_some {α : Type} [Enc α] (a : α) : encO (some a) = enc a := rfl
@[simp] theorem enc_list {α : Type} [Enc α] (xs : List α) : enc xs = PyData.tuple (xs.map enc) := rfl
@[simp] theorem enc_lst {α : Type} [Enc α] (xs : Lst α) : enc xs = PyData.list (xs.of.map enc) := rfl
/-! contracts -/
section
variable {α β γ δ ε ζ : Type} [Enc α] [Enc β] [Enc γ] [Enc δ] [Enc ε] [Enc ζ]
noncomputable def fn1 (dom : α → Prop) (r : α → ζ) : List D → Option D := gOf (fun a : α => [enc a]) dom (fun a => enc (r a))
noncomputable def fn2 (dom : α → β → Prop) (r : α → β → ζ) : List D → Option D := gOf (fun a : α × β => [enc a.1, enc a.2]) (fun a => dom a.1 a.2) (fun a => enc (r a.1 a.2))
noncomputable def fn3 (dom : α → β → γ → Prop) (r : α → β → γ → ζ) : List D → Option D := gOf (fun a : α × β × γ => [enc a.1, enc a.2.1, enc a.2.2]) (fun a => dom a.1 a.2.1 a.2.2) (fun a => enc (r a.1 a.2.1 a.2.2))
noncomputable def fn4 (dom : α → β → γ → δ → Prop) (r : α → β → γ → δ → ζ) : List D → Option D := gOf (fun a : α × β × γ × δ => [enc a.1, enc a.2.1, enc a.2.2.1, enc a.2.2.2]) (fun a => dom a.1 a.2.1 a.2.2.1 a.2.2.2) (fun a => enc (r a.1 a.2.1 a.2.2.1 a.2.2.2))
noncomputable def fn5 (dom : α → β → γ → δ → ε → Prop) (r : α → β → γ → δ → ε → ζ) : List D → Option D := gOf (fun a : α × β × γ × δ × ε => [enc a.1, enc a.2.1, enc a.2.2.1, enc a.2.2.2.1, enc a.2.2.2.2]) (fun a => dom a.1 a.2.1 a.2.2.1 a.2.2.2.1 a.2.2.2.2) (fun a => enc (r a.1 a.2.1 a.2.2.1 a.2.2.2.1 a.2.2.2.2))
theorem fn1_eq {dom : α → Prop} {r : α → ζ} {a : α} (h : dom a) : fn1 dom r [enc a] = some (enc (r a)) := gOf_eq (f := fun a : α => [enc a]) (fun x y h => by
  simp only [List.cons.injEq, and_true] at h
  rw [inj _ _ h]) (a := a) h
theorem fn2_eq {dom : α → β → Prop} {r : α → β → ζ} {a : α} {b : β} (h : dom a b) : fn2 dom r [enc a, enc b] = some (enc (r a b)) := gOf_eq (f := fun a : α × β => [enc a.1, enc a.2]) (fun x y h => by
  simp only [List.cons.injEq, and_true] at h
  rw [inj _ _ h.1, inj _ _ h.2]) (a := (a, b)) h
theorem fn3_eq {dom : α → β → γ → Prop} {r : α → β → γ → ζ} {a : α} {b : β} {c : γ} (h : dom a b c) : fn3 dom r [enc a, enc b, enc c] = some (enc (r a b c)) := gOf_eq (f := fun a : α × β × γ => [enc a.1, enc a.2.1, enc a.2.2]) (fun x y h => by
  simp only [List.cons.injEq, and_true] at h
  rw [inj _ _ h.1, inj _ _ h.2.1, inj _ _ h.2.2]) (a := (a, b, c)) h
theorem fn4_eq {dom : α → β → γ → δ → Prop} {r : α → β → γ → δ → ζ} {a : α} {b : β} {c : γ} {d : δ} (h : dom a b c d) : fn4 dom r [enc a, enc b, enc c, enc d] = some (enc (r a b c d)) := gOf_eq (f := fun a : α × β × γ × δ => [enc a.1, enc a.2.1, enc a.2.2.1, enc a.2.2.2]) (fun x y h => by
  simp only [List.cons.injEq, and_true] at h
  rw [inj _ _ h.1, inj _ _ h.2.1, inj _ _ h.2.2.1, inj _ _ h.2.2.2]) (a := (a, b, c, d)) h
theorem fn5_eq {dom : α → β → γ → δ → ε → Prop} {r : α → β → γ → δ → ε → ζ} {a : α} {b : β} {c : γ} {d : δ} {e : ε} (h : dom a b c d e) : fn5 dom r [enc a, enc b, enc c, enc d, enc e] = some (enc (r a b c d e)) := gOf_eq (f := fun a : α × β × γ × δ × ε => [enc a.1, enc a.2.1, enc a.2.2.1, enc a.2.2.2.1, enc a.2.2.2.2]) (fun x y h => by
  simp only [List.cons.injEq, and_true] at h
  rw [inj _ _ h.1, inj _ _ h.2.1, inj _ _ h.2.2.1, inj _ _ h.2.2.2.1, inj _ _ h.2.2.2.2]) (a := (a, b, c, d, e)) h
/-- to show that a def keeps its contract -/
theorem fn1_law {dom : α → Prop} {r : α → ζ} {P : List D → D → Prop} (h : ∀ a, dom a → P [enc a] (enc (r a))) (n : Nat) : ∀ ds d, ds.length = n → fn1 dom r ds = some d → P ds d := by
  intro ds d _ q
  obtain ⟨a, z, rfl, rfl⟩ := gOf_inv q
  exact h a z
theorem fn2_law {dom : α → β → Prop} {r : α → β → ζ} {P : List D → D → Prop} (h : ∀ a b, dom a b → P [enc a, enc b] (enc (r a b))) (n : Nat) : ∀ ds d, ds.length = n → fn2 dom r ds = some d → P ds d := by
  intro ds d _ q
  obtain ⟨a, z, rfl, rfl⟩ := gOf_inv q
  exact h _ _ z
theorem fn3_law {dom : α → β → γ → Prop} {r : α → β → γ → ζ} {P : List D → D → Prop} (h : ∀ a b c, dom a b c → P [enc a, enc b, enc c] (enc (r a b c))) (n : Nat) : ∀ ds d, ds.length = n → fn3 dom r ds = some d → P ds d := by
  intro ds d _ q
  obtain ⟨a, z, rfl, rfl⟩ := gOf_inv q
  exact h _ _ _ z
theorem fn4_law {dom : α → β → γ → δ → Prop} {r : α → β → γ → δ → ζ} {P : List D → D → Prop} (h : ∀ a b c d, dom a b c d → P [enc a, enc b, enc c, enc d] (enc (r a b c d))) (n : Nat) : ∀ ds d, ds.length = n → fn4 dom r ds = some d → P ds d := by
  intro ds d _ q
  obtain ⟨a, z, rfl, rfl⟩ := gOf_inv q
  exact h _ _ _ _ z
theorem fn5_law {dom : α → β → γ → δ → ε → Prop} {r : α → β → γ → δ → ε → ζ} {P : List D → D → Prop} (h : ∀ a b c d e, dom a b c d e → P [enc a, enc b, enc c, enc d, enc e] (enc (r a b c d e))) (n : Nat) : ∀ ds d, ds.length = n → fn5 dom r ds = some d → P ds d := by
  intro ds d _ q
  obtain ⟨a, z, rfl, rfl⟩ := gOf_inv q
  exact h _ _ _ _ _ z
end
/-! loops -/
theorem fm_inv {α : Type} {bd : Bd} {s : FS} {S : SE} {f : α → D} {xs : List α} (Inv : List α → En → Prop)
    (step : ∀ (pre : List α) (x : α) (post : List α) (e : En) (S' : SE), xs = pre ++ x :: post → Inv pre e → S'.rt = S.rt → S'.bk = S.nx → (∀ e', Inv (pre ++ [x]) e' → S'.nx e') → (∀ e', Inv (pre ++ [x]) e' → S'.ct e') → onSome (bd (f x) e) (s S'))
    (hS : ∀ e, Inv xs e → S.nx e) {e : En} (h0 : Inv [] e) : forM bd s (xs.map f) S e := by
  have key : ∀ (post pre : List α) (e : En), xs = pre ++ post → Inv pre e → forM bd s (post.map f) S e := by
    intro post
    induction post with
    | nil =>
      intro pre e hx h
      rw [List.append_nil] at hx
      subst hx
      exact hS e h
    | cons x post ih =>
      intro pre e hx h
      have go : ∀ e', Inv (pre ++ [x]) e' → forM bd s (post.map f) S e' := fun e' h' => ih (pre ++ [x]) e' (by rw [hx, List.append_assoc]; rfl) h'
      exact step pre x post e ⟨forM bd s (post.map f) S, S.rt, S.nx, forM bd s (post.map f) S⟩ hx h rfl rfl go go
  exact key xs [] e rfl h0
/-- a while, by a measure -/
theorem wh_inv {c : En → Option (Bool × En)} {s : FS} {S : SE} (Inv : Nat → En → Prop)
    (step : ∀ (m : Nat) (e : En) (S' : SE), Inv m e → S'.rt = S.rt → S'.bk = S.nx → (∀ k e', k < m → Inv k e' → S'.nx e') → (∀ k e', k < m → Inv k e' → S'.ct e') → onSome (c e) fun x => if x.1 then s S' x.2 else S.nx x.2)
    {m : Nat} {e : En} (h0 : Inv m e) : sWhile c s S e := by
  refine ⟨m + 1, ?_⟩
  have key : ∀ (n m : Nat) (e : En), m < n → Inv m e → whM c s n S e := by
    intro n
    induction n with
    | zero => intro m e h; omega
    | succ n ih =>
      intro m e h hi
      rw [ev_wh]
      have go : ∀ k e', k < m → Inv k e' → whM c s n S e' := fun k e' hk h' => ih k e' (by omega) h'
      exact step m e ⟨whM c s n S, S.rt, S.nx, whM c s n S⟩ hi rfl rfl go go
  exact key (m + 1) m e (by omega) h0
end Pd

set_option Elab.async false
set_option linter.all false
set_option maxRecDepth 100000
set_option maxHeartbeats 4000000
/-! Pd18: the same thing twice compared; things that may be compared. -/
namespace Pd
open PySem PySem.Spec PyProof.Rows L2
theorem cn_same {d : D} (h : okD 40 d) : cmpNe d d = some (.bool false) := by
  rw [cn_of h h, PySem.SeqAt.eqv_refl_plain d h.1]; rfl
theorem cq_same {d : D} (h : okD 40 d) : cmpEq d d = some (.bool true) := by
  rw [cq_of h h, PySem.SeqAt.eqv_refl_plain d h.1]
theorem okD_mapT {α : Type} {f : α → D} {n : Nat} (h : ∀ x, okD n (f x)) {xs : List α} : okD (n + 1) (.tuple (xs.map f)) := okD_tup fun y hy => by
  obtain ⟨x, _, rfl⟩ := List.mem_map.mp hy
  exact h x
theorem okD_mapL {α : Type} {f : α → D} {n : Nat} (h : ∀ x, okD n (f x)) {xs : List α} : okD (n + 1) (.list (xs.map f)) := okD_list fun y hy => by
  obtain ⟨x, _, rfl⟩ := List.mem_map.mp hy
  exact h x
theorem okD_frD {q : Rat} {n : Nat} : okD (n + 2) (frD q) := okD_tup fun y hy => by
  simp at hy
  rcases hy with rfl | rfl <;> exact okD_int
theorem okD_optR {q : Option Rat} {n : Nat} : okD (n + 2) (encO q) := by
  cases q with
  | none => exact okD_none
  | some q => exact okD_frD
theorem okD_nil {n : Nat} : okD (n + 1) (.tuple []) := okD_tup fun y h => by cases h
theorem okD_cons {x : D} {xs : List D} {n : Nat} (h : okD n x) (h2 : okD (n + 1) (.tuple xs)) : okD (n + 1) (.tuple (x :: xs)) := by
  obtain ⟨a, b⟩ := h
  obtain ⟨c, d⟩ := h2
  refine ⟨?_, ?_⟩
  · show (x.plain && PyData.plainAll xs) = true
    rw [a]
    exact c
  · show max x.depth (PyData.depthAll xs) + 1 ≤ n + 1
    have : PyData.depthAll xs + 1 ≤ n + 1 := d
    have := Nat.max_le.mpr ⟨b, Nat.le_of_succ_le_succ this⟩
    omega
theorem cn_frD {q : Rat} : cmpNe (frD q) (frD q) = some (.bool false) := cn_same (okD_mono (okD_frD (n := 0)) (by decide))
theorem cn_frs {qs : List Rat} : cmpNe (.tuple (qs.map frD)) (.tuple (qs.map frD)) = some (.bool false) := cn_same (okD_mono (okD_mapT (f := frD) (n := 2) fun _ => okD_frD) (by decide))
theorem cn_optRs {qs : List (Option Rat)} : cmpNe (.tuple (qs.map encO)) (.tuple (qs.map encO)) = some (.bool false) := cn_same (okD_mono (okD_mapT (f := encO) (n := 2) fun _ => okD_optR) (by decide))
end Pd

set_option Elab.async false
set_option linter.all false
set_option maxRecDepth 100000
set_option maxHeartbeats 4000000
/-! KF: fractions as rationals, and how large they are. -/
namespace KF
open PySem PySem.Spec PyProof.Rows L2 Pd
/-- at most so many bits -/
def ib (k : Nat) (i : Int) : Prop := i.natAbs < 2 ^ k
theorem ib.mono {k l : Nat} {i : Int} (h : ib k i) (hl : k ≤ l) : ib l i := Nat.lt_of_lt_of_le h (Nat.pow_le_pow_right (by decide) hl)
theorem ib.mul {k l : Nat} {i j : Int} (h : ib k i) (g : ib l j) : ib (k + l) (i * j) := by
  unfold ib at *
  rw [Int.natAbs_mul, Nat.pow_add]
  exact Nat.mul_lt_mul'' h g
theorem ib.add {k l : Nat} {i j : Int} (h : ib k i) (g : ib l j) : ib (max k l + 1) (i + j) := by
  have h1 := h.mono (Nat.le_max_left k l)
  have g1 := g.mono (Nat.le_max_right k l)
  unfold ib at *
  have := Int.natAbs_add_le i j
  rw [Nat.pow_succ]
  omega
theorem ib.neg {k : Nat} {i : Int} (h : ib k i) : ib k (-i) := by
  unfold ib at *
  rwa [Int.natAbs_neg]
theorem ib.sub {k l : Nat} {i j : Int} (h : ib k i) (g : ib l j) : ib (max k l + 1) (i - j) := by
  rw [Int.sub_eq_add_neg]
  exact h.add g.neg
theorem ib.sm {k : Nat} {i : Int} (h : ib k i) (hk : k ≤ 4000 := by decide) : sm i = true := by
  unfold Pd.sm
  exact decide_eq_true (Nat.lt_of_lt_of_le h (Nat.pow_le_pow_right (by decide) hk))
theorem ib.of {k : Nat} {i : Int} (h1 : -(2 ^ k : Nat) < i) (h2 : i < (2 ^ k : Nat)) : ib k i := by
  unfold ib
  omega
theorem ib.le {k : Nat} {i j : Int} (h : ib k j) (h1 : i.natAbs ≤ j.natAbs) : ib k i := Nat.lt_of_le_of_lt h1 h
/-- a fraction of so many bits -/
structure Sz (k : Nat) (q : Rat) : Prop where
  n : ib k q.num
  d : ib k (q.den : Int)
theorem Sz.mono {k l : Nat} {q : Rat} (h : Sz k q) (hl : k ≤ l) : Sz l q := ⟨h.n.mono hl, h.d.mono hl⟩
theorem den_pos' (q : Rat) : 0 < (q.den : Int) := by have := q.den_pos; omega
theorem den_ne' (q : Rat) : (q.den : Int) ≠ 0 := by have := q.den_pos; omega
theorem num_gcd (t b : Int) (h : 0 < b) : (Rat.divInt t b).num = t / (Int.gcd t b : Int) := by
  rw [Rat.num_divInt, Int.sign_eq_one_of_pos h, Int.one_mul, Int.gcd_comm]
theorem den_gcd (t b : Int) (h : 0 < b) : ((Rat.divInt t b).den : Int) = b / (Int.gcd t b : Int) := by
  rw [Rat.den_divInt, if_neg (by omega), Int.natCast_ediv, Int.natAbs_of_nonneg (by omega), Int.gcd_comm]
theorem sz_divInt {k : Nat} {t b : Int} (h : b ≠ 0) (ht : ib k t) (hb : ib k b) : Sz k (Rat.divInt t b) := by
  constructor
  · refine ht.le ?_
    rw [Rat.num_divInt]
    have e1 : (b.sign * t / (b.gcd t : Int)).natAbs ≤ (b.sign * t).natAbs := Int.natAbs_ediv_le_natAbs _ _
    have e2 : (b.sign * t).natAbs ≤ t.natAbs := by
      rw [Int.natAbs_mul, Int.natAbs_sign_of_ne_zero h, Nat.one_mul]
      exact Nat.le_refl _
    omega
  · refine hb.le ?_
    rw [Rat.den_divInt, if_neg h]
    show b.natAbs / b.gcd t ≤ b.natAbs
    exact Nat.div_le_self _ _
theorem mul_div (a b : Rat) : Rat.divInt (a.num * b.num) ((a.den : Int) * (b.den : Int)) = a * b := by
  rw [← Rat.divInt_mul_divInt, Rat.num_divInt_den, Rat.num_divInt_den]
theorem add_div (a b : Rat) : Rat.divInt (a.num * (b.den : Int) + b.num * (a.den : Int)) ((a.den : Int) * (b.den : Int)) = a + b := by
  rw [← Rat.divInt_add_divInt _ _ (den_ne' a) (den_ne' b), Rat.num_divInt_den, Rat.num_divInt_den]
theorem sub_div (a b : Rat) : Rat.divInt (a.num * (b.den : Int) - b.num * (a.den : Int)) ((a.den : Int) * (b.den : Int)) = a - b := by
  rw [← Rat.divInt_sub_divInt _ _ (den_ne' a) (den_ne' b), Rat.num_divInt_den, Rat.num_divInt_den]
theorem div_div (a b : Rat) : Rat.divInt (a.num * (b.den : Int)) ((a.den : Int) * b.num) = a / b := by
  rw [← Rat.divInt_mul_divInt, Rat.num_divInt_den, ← Rat.inv_def]
  rfl
theorem Sz.mul {k l : Nat} {a b : Rat} (h : Sz k a) (g : Sz l b) : Sz (k + l) (a * b) := by
  rw [← mul_div]
  exact sz_divInt (Int.mul_ne_zero (den_ne' a) (den_ne' b)) (h.n.mul g.n) (h.d.mul g.d)
theorem Sz.add {k l : Nat} {a b : Rat} (h : Sz k a) (g : Sz l b) : Sz (k + l + 1) (a + b) := by
  rw [← add_div]
  have e := (h.n.mul g.d).add (g.n.mul h.d)
  exact sz_divInt (Int.mul_ne_zero (den_ne' a) (den_ne' b)) (e.mono (by omega)) ((h.d.mul g.d).mono (by omega))
theorem Sz.sub {k l : Nat} {a b : Rat} (h : Sz k a) (g : Sz l b) : Sz (k + l + 1) (a - b) := by
  rw [← sub_div]
  have e := (h.n.mul g.d).sub (g.n.mul h.d)
  exact sz_divInt (Int.mul_ne_zero (den_ne' a) (den_ne' b)) (e.mono (by omega)) ((h.d.mul g.d).mono (by omega))
theorem num_ne {q : Rat} (h : q ≠ 0) : q.num ≠ 0 := fun e => h (Rat.num_eq_zero.mp e)
theorem Sz.div {k l : Nat} {a b : Rat} (h : Sz k a) (g : Sz l b) (hb : b ≠ 0) : Sz (k + l) (a / b) := by
  rw [← div_div]
  exact sz_divInt (Int.mul_ne_zero (den_ne' a) (num_ne hb)) (h.n.mul g.d) (h.d.mul g.n)
theorem Sz.int {k : Nat} {i : Int} (h : ib k i) (hk : 1 ≤ k) : Sz k (i : Rat) := ⟨h, by
  show ib k 1
  unfold ib
  exact Nat.lt_of_lt_of_le (by decide : 1 < 2 ^ 1) (Nat.pow_le_pow_right (by decide) hk)⟩
theorem gcd_num (q : Rat) : (Int.gcd q.num (q.den : Int) : Int) = 1 := by
  have := q.reduced
  show ((Nat.gcd q.num.natAbs q.den : Nat) : Int) = 1
  rw [this.gcd_eq_one]
  rfl
end KF

set_option Elab.async false
set_option linter.all false
set_option maxRecDepth 100000
set_option maxHeartbeats 4000000
/-! KS: how long repr's texts are. -/
namespace Pd
open PySem PySem.Spec PyProof.Rows L2
mutual
def numD : D → Bool
  | .none => true
  | .bool _ => true
  | .int i => smT i
  | .tuple xs => numAll xs
  | _ => false
def numAll : List D → Bool
  | [] => true
  | x :: xs => numD x && numAll xs
end
mutual
def nodes : D → Nat
  | .tuple xs => 1 + nodesAll xs
  | _ => 1
def nodesAll : List D → Nat
  | [] => 0
  | x :: xs => nodes x + nodesAll xs
end
mutual
theorem num_plain : ∀ d : D, numD d = true → d.plain = true ∧ d.showable = true ∧ d.hasDict = false
  | .none, _ => ⟨rfl, by simp [PyData.showable], by simp [PyData.hasDict]⟩
  | .bool _, _ => ⟨rfl, by simp [PyData.showable], by simp [PyData.hasDict]⟩
  | .int i, h => ⟨rfl, by simp only [PyData.showable, decide_eq_true_eq]; exact smT_log h, by simp [PyData.hasDict]⟩
  | .str _, h => by simp [numD] at h
  | .list _, h => by simp [numD] at h
  | .dict _, h => by simp [numD] at h
  | .tuple xs, h => by
    obtain ⟨a, b, c⟩ := num_plainAll xs (by simpa [numD] using h)
    exact ⟨a, by simpa [PyData.showable] using b, by simpa [PyData.hasDict] using c⟩
theorem num_plainAll : ∀ xs : List D, numAll xs = true → PyData.plainAll xs = true ∧ PyData.showableAll xs = true ∧ PyData.hasDictAll xs = false
  | [], _ => ⟨rfl, by simp [PyData.showableAll], by simp [PyData.hasDictAll]⟩
  | x :: xs, h => by
    simp only [numAll, Bool.and_eq_true] at h
    obtain ⟨a, b, c⟩ := num_plain x h.1
    obtain ⟨a', b', c'⟩ := num_plainAll xs h.2
    exact ⟨by show (x.plain && PyData.plainAll xs) = true; rw [a, a']; rfl, by simp [PyData.showableAll, b, b'], by simp [PyData.hasDictAll, c, c']⟩
end
theorem len_tup (ts : List Str) : (tupleText ts).length ≤ piled ts + 3 := by
  have e1 : ("(" : Str).length = 1 := rfl
  have e2 : (Str.ofString ",)").length = 2 := rfl
  have e3 : (Str.ofString ")").length = 1 := rfl
  unfold tupleText
  rw [strLen_append, strLen_append]
  have : (Str.join ", " ts).length ≤ piled ts := by
    cases ts with
    | nil => simp [Str.join, piled]; rfl
    | cons t ts => have := join_length_add (t :: ts) (by simp); omega
  split <;> omega
mutual
theorem shown_len : ∀ d : D, numD d = true → d.shown.length + 10 ≤ 2000 * nodes d
  | .none, _ => by simp only [PyData.shown, nodes]; decide
  | .bool true, _ => by simp only [PyData.shown, nodes]; decide
  | .bool false, _ => by simp only [PyData.shown, nodes]; decide
  | .int i, h => by
    have := PyProof.Rows.int_text_len_1921 (i := i) (smT_log h)
    simp only [PyData.shown, nodes]
    omega
  | .str _, h => by simp [numD] at h
  | .list _, h => by simp [numD] at h
  | .dict _, h => by simp [numD] at h
  | .tuple xs, h => by
    have := shown_lenAll xs (by simpa [numD] using h)
    have := len_tup (PyData.shownAll xs)
    simp only [PyData.shown, nodes]
    omega
theorem shown_lenAll : ∀ xs : List D, numAll xs = true → piled (PyData.shownAll xs) ≤ 2000 * nodesAll xs
  | [], _ => by simp [PyData.shownAll, piled]
  | x :: xs, h => by
    simp only [numAll, Bool.and_eq_true] at h
    have a := shown_len x h.1
    have b := shown_lenAll xs h.2
    simp only [PyData.shownAll, nodesAll]
    rw [piled_cons]
    omega
end
theorem numAll_map {α : Type} {f : α → D} : ∀ {xs : List α}, (∀ x ∈ xs, numD (f x) = true) → numAll (xs.map f) = true
  | [], _ => rfl
  | x :: xs, h => by
    simp only [List.map_cons, numAll, Bool.and_eq_true]
    exact ⟨h x List.mem_cons_self, numAll_map fun y hy => h y (List.mem_cons_of_mem _ hy)⟩
theorem nodes_map {α : Type} {f : α → D} {k : Nat} : ∀ {xs : List α}, (∀ x ∈ xs, nodes (f x) ≤ k) → nodesAll (xs.map f) ≤ k * xs.length
  | [], _ => by simp [nodesAll]
  | x :: xs, h => by
    have := h x List.mem_cons_self
    have := nodes_map (xs := xs) fun y hy => h y (List.mem_cons_of_mem _ hy)
    simp only [List.map_cons, nodesAll, List.length_cons]
    rw [Nat.mul_succ]
    omega
/-- repr of a tuple of numbers -/
theorem repr_num {xs : List D} (h : numAll xs = true) (h2 : nodesAll xs ≤ 400) (h3 : (PyData.tuple xs).depth ≤ 40) : gRepr [.tuple xs] = some (.str (PyData.tuple xs).shown) := by
  have n : numD (.tuple xs) = true := by simpa [numD] using h
  obtain ⟨a, b, c⟩ := num_plain _ n
  have l := shown_len _ n
  simp only [nodes] at l
  refine if_pos ?_
  unfold cShow
  rw [a, b, c, decide_eq_true h3, decide_eq_true (show (PyData.tuple xs).shown.length ≤ cap from Nat.le_trans (show _ ≤ 802000 by omega) (by decide))]
  rfl
end Pd

set_option Elab.async false
set_option linter.all false
set_option maxRecDepth 100000
set_option maxHeartbeats 4000000
/-! KN: gcd, lcm, remainders (no program in sight). -/
namespace KN
/-- the program's own least common multiple of two -/
theorem lcm_two {f b : Int} (hf : 0 < f) (hb : 0 < b) : f * b / (Int.gcd f b : Int) = (Int.lcm f b : Int) := by
  rw [Int.lcm_eq_mul_div, Int.natCast_ediv, Int.natCast_mul, Int.natAbs_of_nonneg (by omega), Int.natAbs_of_nonneg (by omega)]
theorem lcm_pos {f b : Int} (hf : 0 < f) (hb : 0 < b) : 0 < (Int.lcm f b : Int) := by
  have : Int.lcm f b ≠ 0 := fun h => by
    rcases Int.lcm_eq_zero_iff.mp h with h | h <;> omega
  omega
theorem lcm_le {f b : Int} (hf : 0 < f) (hb : 0 < b) : (Int.lcm f b : Int) ≤ f * b := by
  refine Int.le_of_dvd (Int.mul_pos hf hb) (Int.coe_lcm_dvd (Int.dvd_mul_right f b) (Int.dvd_mul_left f b))
def lcmF (f : Int) (bs : List Int) : Int := bs.foldl (fun f b => (Int.lcm f b : Int)) f
theorem lcmF_cons {f b : Int} {bs : List Int} : lcmF f (b :: bs) = lcmF (Int.lcm f b : Int) bs := rfl
theorem lcmF_pos : ∀ {bs : List Int} {f : Int}, 0 < f → (∀ b ∈ bs, 0 < b) → 0 < lcmF f bs
  | [], _, h, _ => h
  | b :: bs, f, h, hb => lcmF_pos (bs := bs) (lcm_pos h (hb b List.mem_cons_self)) fun x hx => hb x (List.mem_cons_of_mem _ hx)
theorem lcmF_left : ∀ {bs : List Int} {f : Int}, f ∣ lcmF f bs
  | [], f => Int.dvd_refl f
  | b :: bs, f => Int.dvd_trans (Int.dvd_lcm_left f b) (lcmF_left (bs := bs))
theorem lcmF_mem : ∀ {bs : List Int} {f b : Int}, b ∈ bs → b ∣ lcmF f bs
  | c :: bs, f, b, h => by
    rcases List.mem_cons.mp h with rfl | h
    · exact Int.dvd_trans (Int.dvd_lcm_right f b) (lcmF_left (bs := bs))
    · exact lcmF_mem (bs := bs) h
theorem lcmF_min : ∀ {bs : List Int} {f x : Int}, f ∣ x → (∀ b ∈ bs, b ∣ x) → lcmF f bs ∣ x
  | [], _, _, h, _ => h
  | b :: bs, f, x, h, hb => lcmF_min (bs := bs) (Int.coe_lcm_dvd h (hb b List.mem_cons_self)) fun y hy => hb y (List.mem_cons_of_mem _ hy)
theorem lcmF_le : ∀ {bs : List Int} {f M : Int} (k : Nat), 0 < f → f ≤ M → (∀ b ∈ bs, 0 < b ∧ b ≤ 400) → bs.length ≤ k → 0 < M → lcmF f bs ≤ M * 400 ^ k
  | [], f, M, k, h0, h1, _, _, hM => by
    have : (1 : Int) ≤ 400 ^ k := by
      have : (0 : Int) < 400 ^ k := Int.pow_pos (by decide)
      omega
    have h2 : M * 1 ≤ M * 400 ^ k := Int.mul_le_mul_of_nonneg_left this (by omega)
    show f ≤ _
    omega
  | b :: bs, f, M, 0, h0, h1, hb, hl, hM => by simp at hl
  | b :: bs, f, M, k + 1, h0, h1, hb, hl, hM => by
    have q := hb b List.mem_cons_self
    have h2 : (Int.lcm f b : Int) ≤ M * 400 := by
      have a1 := lcm_le h0 q.1
      have a2 : f * b ≤ M * 400 := Int.mul_le_mul h1 q.2 (by omega) (by omega)
      omega
    have h3 := lcmF_le (bs := bs) (M := M * 400) k (lcm_pos h0 q.1) h2 (fun x hx => hb x (List.mem_cons_of_mem _ hx)) (by simpa using hl) (by omega)
    rw [lcmF_cons, Int.pow_succ, Int.mul_comm (400 ^ k) 400, ← Int.mul_assoc]
    exact h3
/-! Bezout -/
theorem bezoutN : ∀ (a b : Nat), ∃ x y : Int, (a : Int) * x + (b : Int) * y = (Nat.gcd a b : Int) := by
  intro a
  induction a using Nat.strongRecOn with
  | _ a ih =>
    intro b
    by_cases h : a = 0
    · subst h
      exact ⟨0, 1, by simp⟩
    · have hlt : b % a < a := Nat.mod_lt _ (by omega)
      obtain ⟨x, y, e⟩ := ih (b % a) hlt a
      rw [← Nat.gcd_rec] at e
      refine ⟨y - (b / a : Nat) * x, x, ?_⟩
      have hd : (b : Int) = (a : Int) * ((b / a : Nat) : Int) + ((b % a : Nat) : Int) := by
        have := Nat.div_add_mod b a
        have h2 : ((a * (b / a) + b % a : Nat) : Int) = (b : Int) := by rw [this]
        rw [Int.natCast_add, Int.natCast_mul] at h2
        omega
      rw [← e]
      generalize hq : ((b / a : Nat) : Int) = q at hd
      generalize hr : ((b % a : Nat) : Int) = r at hd
      have : (a : Int) * (y - q * x) + (b : Int) * x = (a : Int) * y - (a : Int) * q * x + ((a : Int) * q + r) * x := by
        rw [hd, Int.mul_sub, Int.mul_assoc]
      rw [this, Int.add_mul]
      omega
theorem bezout {a b : Int} (ha : 0 < a) (hb : 0 < b) : ∃ x y : Int, a * x + b * y = (Int.gcd a b : Int) := by
  obtain ⟨x, y, e⟩ := bezoutN a.natAbs b.natAbs
  refine ⟨x, y, ?_⟩
  rw [Int.natAbs_of_nonneg (by omega), Int.natAbs_of_nonneg (by omega)] at e
  exact e
theorem emod_eq_of_dvd {a b n : Int} (h : n ∣ a - b) : a % n = b % n := Int.emod_eq_emod_iff_emod_sub_eq_zero.mpr (Int.emod_eq_zero_of_dvd h)
theorem dvd_of_emod_eq {a b n : Int} (h : a % n = b % n) : n ∣ a - b := Int.dvd_of_emod_eq_zero (Int.emod_eq_emod_iff_emod_sub_eq_zero.mp h)
/-- how often the step is to be made -/
theorem steps {s t m v : Int} (hs : 0 < s) (ht : 0 < t) (hm : 0 ≤ m) (hm2 : m < t) (h : (Int.gcd s t : Int) ∣ m - v) : ∃ k : Nat, (k : Int) * s < (Int.lcm s t : Int) ∧ (v + (k : Int) * s) % t = m := by
  obtain ⟨x, y, e⟩ := bezout hs ht
  obtain ⟨c, hc⟩ := h
  have hL := lcm_pos hs ht
  -- k0 = x * c, then below lcm / s
  have hsL : s ∣ (Int.lcm s t : Int) := Int.dvd_lcm_left s t
  obtain ⟨q, hq⟩ := hsL
  have hq0 : 0 < q := by
    rcases Int.lt_trichotomy q 0 with h | h | h
    · have := Int.mul_neg_of_pos_of_neg hs h
      omega
    · subst h
      simp at hq
      omega
    · exact h
  have hk := Int.emod_nonneg (x * c) (show q ≠ 0 by omega)
  have hk2 := Int.emod_lt_of_pos (x * c) hq0
  refine ⟨((x * c) % q).toNat, ?_, ?_⟩
  · rw [Int.toNat_of_nonneg hk, hq, Int.mul_comm s q]
    exact Int.mul_lt_mul_of_pos_right hk2 hs
  · rw [Int.toNat_of_nonneg hk]
    have e2 : m % t = m := Int.emod_eq_of_lt hm hm2
    rw [← e2]
    refine emod_eq_of_dvd ?_
    -- v + k s - m = (k - x c) s + (x c s - (m - v)) ; both multiples of t
    have h1 : t ∣ ((x * c) % q - x * c) * s := by
      have : q ∣ (x * c) % q - x * c := by
        refine dvd_of_emod_eq ?_
        rw [Int.emod_emod_of_dvd _ (Int.dvd_refl q)]
      obtain ⟨z, hz⟩ := this
      rw [hz, Int.mul_comm q z, Int.mul_assoc, Int.mul_comm q s, ← hq]
      exact Int.dvd_trans (Int.dvd_lcm_right s t) (Int.dvd_mul_left _ _)
    have h2 : t ∣ x * c * s - (m - v) := by
      rw [hc, ← e]
      refine ⟨-(y * c), ?_⟩
      rw [Int.add_mul, Int.mul_neg, ← Int.mul_assoc t y c]
      have : x * c * s = s * x * c := by rw [Int.mul_comm (x * c) s, Int.mul_assoc]
      omega
    have h3 := Int.dvd_add h1 h2
    have e3 : ((x * c) % q - x * c) * s + (x * c * s - (m - v)) = v + (x * c) % q * s - m := by
      rw [Int.sub_mul]
      omega
    rwa [e3] at h3
/-- the greatest divisor of a least multiple -/
theorem gcd_lcm_dvd {a b c y : Int} (h1 : (Int.gcd a c : Int) ∣ y) (h2 : (Int.gcd b c : Int) ∣ y) (ha : 0 < a) (hb : 0 < b) (hc : 0 < c) : (Int.gcd (Int.lcm a b : Int) c : Int) ∣ y := by
  refine Int.dvd_trans ?_ (Int.coe_lcm_dvd h1 h2)
  -- in natural numbers
  have key : ∀ a b c : Nat, 0 < a → 0 < b → 0 < c → Nat.gcd (Nat.lcm a b) c ∣ Nat.lcm (Nat.gcd a c) (Nat.gcd b c) := by
    intro a b c ha hb hc
    have g1 : 0 < Nat.gcd (Nat.gcd a c) (Nat.gcd b c) := Nat.gcd_pos_of_pos_left _ (Nat.gcd_pos_of_pos_left _ ha)
    refine Nat.dvd_of_mul_dvd_mul_left g1 ?_
    rw [Nat.gcd_mul_lcm]
    have e : Nat.gcd (Nat.gcd a c) (Nat.gcd b c) ∣ Nat.gcd a b := Nat.dvd_gcd (Nat.dvd_trans (Nat.gcd_dvd_left _ _) (Nat.gcd_dvd_left _ _)) (Nat.dvd_trans (Nat.gcd_dvd_right _ _) (Nat.gcd_dvd_left _ _))
    have e1 : Nat.gcd (Nat.gcd a c) (Nat.gcd b c) ∣ a := Nat.dvd_trans (Nat.gcd_dvd_left _ _) (Nat.gcd_dvd_left _ _)
    have e2 : Nat.gcd (Nat.gcd a c) (Nat.gcd b c) ∣ b := Nat.dvd_trans (Nat.gcd_dvd_right _ _) (Nat.gcd_dvd_left _ _)
    have e3 : Nat.gcd (Nat.gcd a c) (Nat.gcd b c) ∣ c := Nat.dvd_trans (Nat.gcd_dvd_left _ _) (Nat.gcd_dvd_right _ _)
    have f1 : Nat.gcd (Nat.lcm a b) c ∣ Nat.lcm a b := Nat.gcd_dvd_left _ _
    have f2 : Nat.gcd (Nat.lcm a b) c ∣ c := Nat.gcd_dvd_right _ _
    have m1 : Nat.gcd (Nat.gcd a c) (Nat.gcd b c) * Nat.gcd (Nat.lcm a b) c ∣ a * b := by
      have := Nat.mul_dvd_mul e f1
      rwa [Nat.gcd_mul_lcm] at this
    have m2 : Nat.gcd (Nat.gcd a c) (Nat.gcd b c) * Nat.gcd (Nat.lcm a b) c ∣ a * c := Nat.mul_dvd_mul e1 f2
    have m3 : Nat.gcd (Nat.gcd a c) (Nat.gcd b c) * Nat.gcd (Nat.lcm a b) c ∣ b * c := Nat.mul_dvd_mul e2 f2
    have m4 : Nat.gcd (Nat.gcd a c) (Nat.gcd b c) * Nat.gcd (Nat.lcm a b) c ∣ c * c := Nat.mul_dvd_mul e3 f2
    have n1 : Nat.gcd (Nat.gcd a c) (Nat.gcd b c) * Nat.gcd (Nat.lcm a b) c ∣ a * Nat.gcd b c := by
      have := Nat.dvd_gcd m1 m2
      rwa [Nat.gcd_mul_left] at this
    have n2 : Nat.gcd (Nat.gcd a c) (Nat.gcd b c) * Nat.gcd (Nat.lcm a b) c ∣ c * Nat.gcd b c := by
      have m3' : Nat.gcd (Nat.gcd a c) (Nat.gcd b c) * Nat.gcd (Nat.lcm a b) c ∣ c * b := by rw [Nat.mul_comm c b]; exact m3
      have := Nat.dvd_gcd m3' m4
      rwa [Nat.gcd_mul_left] at this
    have n3 := Nat.dvd_gcd n1 n2
    rwa [Nat.gcd_mul_right] at n3
  have z := key a.natAbs b.natAbs c.natAbs (by omega) (by omega) (by omega)
  have z2 := Int.natCast_dvd_natCast.mpr z
  exact z2
theorem gcd_lcmF_dvd {c y : Int} (hc : 0 < c) : ∀ {bs : List Int} {f : Int}, 0 < f → (∀ b ∈ bs, 0 < b) → (Int.gcd f c : Int) ∣ y → (∀ b ∈ bs, (Int.gcd b c : Int) ∣ y) → (Int.gcd (lcmF f bs) c : Int) ∣ y
  | [], _, _, _, h, _ => h
  | b :: bs, f, hf, hb, h, hbs => by
    have q := hb b List.mem_cons_self
    exact gcd_lcmF_dvd hc (bs := bs) (lcm_pos hf q) (fun x hx => hb x (List.mem_cons_of_mem _ hx)) (gcd_lcm_dvd h (hbs b List.mem_cons_self) hf q hc) fun x hx => hbs x (List.mem_cons_of_mem _ hx)
end KN

set_option Elab.async false
set_option linter.all false
set_option maxRecDepth 100000
set_option maxHeartbeats 4000000
namespace Gen
open PySem PySem.Spec PyProof.Rows L2 Pd
section
variable {P : Program} {w : World} {K : PySem.W.Frag} {mg : Str → Option Value} {base : Heap}
abbrev N_law_hand : List Str := ["script", "cells", "cell"]
theorem sc_law_hand : FnScope N_law_hand ["script"] (defScope s_law_hand) := ⟨rfl, rfl, rfl, by decide +kernel, rfl, by decide +kernel, by decide +kernel⟩
noncomputable def m_law_hand  : FS := (sSeq (sSet 1 (mP (eLc [2] (iSelf (eSl (eVar 0) oNone (oSome (eC (.int 63))))) (bName 2) bTrue (e2 gMod (eCall gInt (aCons (eCall gAbs (aCons (eCall gInt (aCons (eVar 2) aNil)) aNil)) aNil)) (e2 gPow (eC (.int 10)) (eC (.int 36)))))))
  (sRet (mLstOwn 1 (aCons (eC (.int 0)) (aCons (eC (.int 0)) (aCons (e2 gAdd (eC (.int 211)) (e2 gMul (eC (.int 7)) (eCall gLen (aCons (eVar 1) aNil)))) (aCons (eC (.int 0)) aNil)))))))
theorem F_law_hand {f : Addr} {fd : FuncData} (F : Fun K "_law_hand" "_law_hand" s_law_hand f fd) (hb : L2.Binds K fd ["script"] []) (hm : mg "_law_hand" = some (.ref f)) (z_len : mg "len" = none) (z_int : mg "int" = none) (z_abs : mg "abs" = none)
    {g : List D → Option D} (law : ∀ ds d, ds.length = 1 → g ds = some d → m_law_hand  (seP d) (envP ds 2)) : FnD P w K mg base "_law_hand" 1 (spP K 1 g) := by
  refine fnP (k := 0) F sc_law_hand hb hm (fun cdv A outer s H E hr => ?_) law
  have hu := hu64 hr
  have hu1 := hu1G hr
  have nd := sc_law_hand.nd
  exact ⟨_, (ss_cons (ss_setLc (i := 1) (own := [("cell", 2)]) nd (pi_self (PF.pp (pf_sl (pv' 0) or_none (or_some (PF.pp pk_int))))) (blkOk_by (own := [("cell", 2)]) (N := N_law_hand) (sc := defScope s_law_hand) (by decide +kernel)) (fun _ _ _ _ _ => (gt_name 2 nd)) (fun _ _ _ _ _ => ts_nil) (fun _ _ _ _ _ => (pf_op o_mod (PF.pp (pf_ct c_int z_int (ar_cons (PF.pp (pf_cb (c_abs) z_abs (ar_cons (PF.pp (pf_ct c_int z_int (ar_cons (pv' 2) ar_nil))) ar_nil))) ar_nil))) (PF.pp (pf_op o_pow (PF.pp pk_int) (PF.pp pk_int))))) (sw_true rfl rfl rfl (by decide +kernel)))
    (ss_one (ss_ret (mm_lstOwn (i := 1) (ar_cons (PF.pp pk_int) (ar_cons (PF.pp pk_int) (ar_cons (PF.pp (pf_op o_add (PF.pp pk_int) (PF.pp (pf_op o_mul (PF.pp pk_int) (PF.pp (pf_cb (c_len) z_len (ar_cons (pv' 1) ar_nil))))))) (ar_cons (PF.pp pk_int) ar_nil))))))))⟩
abbrev N_law_low : List Str := ["top", "bottom", "one", "other"]
theorem sc_law_low : FnScope N_law_low ["top", "bottom"] (defScope s_law_low) := ⟨rfl, rfl, rfl, by decide +kernel, rfl, by decide +kernel, by decide +kernel⟩
noncomputable def m_law_low  : FS := (sSeq (sIf (mT (tst (e2 cmpLt (eVar 1) (eC (.int 0))))) (sPar 0 1 (mP (e2 gSub (eC (.int 0)) (eVar 0))) (mP (e2 gSub (eC (.int 0)) (eVar 1)))) sNext)
  (sSeq (sPar 2 3 (mP (eCall gAbs (aCons (eVar 0) aNil))) (mVar 1))
  (sSeq (sWhile (mT (tst (e2 cmpGt (eVar 3) (eC (.int 0))))) (sPar 2 3 (mVar 3) (mP (e2 gMod (eCall gInt (aCons (eVar 2) aNil)) (eVar 3)))))
  (sRet (mP (eTup (aCons (e2 gFdiv (eVar 0) (eVar 2)) (aCons (e2 gFdiv (eVar 1) (eVar 2)) aNil))))))))
theorem F_law_low {f : Addr} {fd : FuncData} (F : Fun K "_law_low" "_law_low" s_law_low f fd) (hb : L2.Binds K fd ["top", "bottom"] []) (hm : mg "_law_low" = some (.ref f)) (z_int : mg "int" = none) (z_abs : mg "abs" = none)
    {g : List D → Option D} (law : ∀ ds d, ds.length = 2 → g ds = some d → m_law_low  (seP d) (envP ds 2)) : FnD P w K mg base "_law_low" 1 (spP K 2 g) := by
  refine fnP (k := 0) F sc_law_low hb hm (fun cdv A outer s H E hr => ?_) law
  have hu := hu64 hr
  have hu1 := hu1G hr
  have nd := sc_law_low.nd
  exact ⟨_, (ss_cons (ss_if (mt_pt (tt_cmp (o_lt hu) (pv' 1) (PF.pp pk_int))) (ss_one (ss_par (i := 0) (j := 1) nd (mm_pf (pf_op o_sub (PF.pp pk_int) (pv' 0))) (mm_pf (pf_op o_sub (PF.pp pk_int) (pv' 1))))) ss_nil)
    (ss_cons (ss_par (i := 2) (j := 3) nd (mm_pf (pf_cb (c_abs) z_abs (ar_cons (pv' 0) ar_nil))) (mm_var 1))
    (ss_cons (ss_while (mt_pt (tt_cmp (o_gt hu) (pv' 3) (PF.pp pk_int))) (ss_one (ss_par (i := 2) (j := 3) nd (mm_var 3) (mm_pf (pf_op o_mod (PF.pp (pf_ct c_int z_int (ar_cons (pv' 2) ar_nil))) (pv' 3))))))
    (ss_one (ss_ret (mm_pf (pf_tup (an_cons (pf_op o_fdiv (pv' 0) (pv' 2)) (an_cons (pf_op o_fdiv (pv' 1) (pv' 2)) an_nil)))))))))⟩
abbrev N_law_times : List Str := ["one", "other"]
theorem sc_law_times : FnScope N_law_times ["one", "other"] (defScope s_law_times) := ⟨rfl, rfl, rfl, by decide +kernel, rfl, by decide +kernel, by decide +kernel⟩
noncomputable def m_law_times (g_law_low : List D → Option D) : FS := (sRet (mP (eFn 2 g_law_low (aCons (e2 gMul (e2 gIx (eVar 0) (eC (.int 0))) (e2 gIx (eVar 1) (eC (.int 0)))) (aCons (e2 gMul (e2 gIx (eVar 0) (eC (.int 1))) (e2 gIx (eVar 1) (eC (.int 1)))) aNil)))))
theorem F_law_times {f : Addr} {fd : FuncData} (F : Fun K "_law_times" "_law_times" s_law_times f fd) (hb : L2.Binds K fd ["one", "other"] []) (hm : mg "_law_times" = some (.ref f)) {g_law_low : List D → Option D} (F_law_low : FnD P w K mg base "_law_low" 1 (spP K 2 g_law_low))
    {g : List D → Option D} (law : ∀ ds d, ds.length = 2 → g ds = some d → m_law_times g_law_low (seP d) (envP ds 0)) : FnD P w K mg base "_law_times" 2 (spP K 2 g) := by
  refine fnP (k := 1) F sc_law_times hb hm (fun cdv A outer s H E hr => ?_) law
  have hu := hu64 hr
  have hu1 := hu1G hr
  have nd := sc_law_times.nd
  exact ⟨_, (ss_one (ss_ret (mm_pf (pf_fn F_law_low (hr.mono (by decide)) (ar_cons (PF.pp (pf_op o_mul (pp_ix (pv' 0) (PF.pp pk_int)) (pp_ix (pv' 1) (PF.pp pk_int)))) (ar_cons (PF.pp (pf_op o_mul (pp_ix (pv' 0) (PF.pp pk_int)) (pp_ix (pv' 1) (PF.pp pk_int)))) ar_nil))))))⟩
abbrev N_law_draw : List Str := ["hand", "many", "number", "cell", "digit"]
theorem sc_law_draw : FnScope N_law_draw ["hand", "many"] (defScope s_law_draw) := ⟨rfl, rfl, rfl, by decide +kernel, rfl, by decide +kernel, by decide +kernel⟩
noncomputable def m_law_draw  : FS := (sSeq (sIf (mT (bAnd (tst (e2 cmpEq (e2 gIx (eVar 0) (eC (.int 2))) (eC (.int 0)))) (tst (e2 cmpLt (e2 gIx (eVar 0) (eC (.int 1))) (eCall gLen (aCons (e2 gIx (eVar 0) (eC (.int 0))) aNil)))))) (sSeq (sSet 3 (mP (eFrz (e2 gIx (e2 gIx (eVar 0) (eC (.int 0))) (e2 gIx (eVar 0) (eC (.int 1)))))))
  (sSeq (sAsg (bSub 0 (eC (.int 1))) (mP (e2 gAdd (e2 gIx (eVar 0) (eC (.int 1))) (eC (.int 1)))))
  (sSeq (sAsg (bSub 0 (eC (.int 3))) (mP (e2 gMod (eCall gInt (aCons (e2 gAdd (e2 gAdd (e2 gMul (e2 gIx (eVar 0) (eC (.int 3))) (eC (.int 69621))) (e2 gMul (eVar 3) (eC (.int 48271)))) (eC (.int 17))) aNil)) (eC (.int 2147483629)))))
  (sIf (mT (tst (e2 cmpGe (eVar 3) (e2 gPow (eC (.int 10)) (eC (.int 18)))))) (sAsg (bSub 0 (eC (.int 2))) (mVar 3)) sNext)))) sNext)
  (sSeq (sIf (mT (tst (e2 cmpGt (e2 gIx (eVar 0) (eC (.int 2))) (eC (.int 0))))) (sSeq (sSet 4 (mP (e2 gMod (eCall gInt (aCons (e2 gIx (eVar 0) (eC (.int 2))) aNil)) (eVar 1))))
  (sSeq (sAsg (bSub 0 (eC (.int 2))) (mP (e2 gFdiv (e2 gIx (eVar 0) (eC (.int 2))) (eVar 1))))
  (sRet (mVar 4)))) sNext)
  (sSeq (sAsg (bSub 0 (eC (.int 4))) (mP (e2 gAdd (e2 gIx (eVar 0) (eC (.int 4))) (eC (.int 1)))))
  (sSeq (sSet 2 (mP (e2 gMod (eCall gInt (aCons (e2 gMul (eCall gInt (aCons (e2 gAdd (e2 gIx (eVar 0) (eC (.int 3))) (e2 gMul (eC (.int 7919)) (e2 gIx (eVar 0) (eC (.int 4))))) aNil)) (eC (.int 40692))) aNil)) (eC (.int 2147483647)))))
  (sSeq (sSet 2 (mP (e2 gMod (eCall gInt (aCons (e2 gMul (eVar 2) (e2 gAdd (e2 gFdiv (eVar 2) (eC (.int 1009))) (eC (.int 69621)))) aNil)) (eC (.int 2147483647)))))
  (sSeq (sSet 2 (mP (e2 gMod (eCall gInt (aCons (e2 gMul (eVar 2) (e2 gAdd (e2 gFdiv (eVar 2) (eC (.int 2003))) (eC (.int 40014)))) aNil)) (eC (.int 2147483563)))))
  (sRet (mP (e2 gMod (eCall gInt (aCons (e2 gFdiv (eVar 2) (eC (.int 16))) aNil)) (eVar 1))))))))))
theorem F_law_draw {f : Addr} {fd : FuncData} (F : Fun K "_law_draw" "_law_draw" s_law_draw f fd) (hb : L2.Binds K fd ["hand", "many"] []) (hm : mg "_law_draw" = some (.ref f)) (z_int : mg "int" = none) (z_len : mg "len" = none)
    {g : List D → Option (D × D)} (law : ∀ dpre d dpost r d', dpre.length = 0 → dpre.length + 1 + dpost.length = 2 → g (dpre ++ d :: dpost) = some (r, d') → m_law_draw  (seI 0 r d') (envI dpre d dpost 3)) : FnD P w K mg base "_law_draw" 1 (spI K 2 0 g) := by
  refine fnI (k := 0) 0 F sc_law_draw hb hm (fun cdv A outer s H E hr => ?_) law
  have hu := hu64 hr
  have hu1 := hu1G hr
  have nd := sc_law_draw.nd
  exact ⟨_, (ss_cons (ss_if (mt_pt (PWt.pt (tw_and (tt_cmp (o_eq hu) (pp_ix (pv' 0) (PF.pp pk_int)) (PF.pp pk_int)) (tw_and1 (tt_cmp (o_lt hu) (pp_ix (pv' 0) (PF.pp pk_int)) (PF.pp (pf_cb (c_len) z_len (ar_cons (pp_ix (pv' 0) (PF.pp pk_int)) ar_nil)))))))) (ss_cons (ss_set (i := 3) nd (mm_pf (PP.frz (pp_ix (pp_ix (pv' 0) (PF.pp pk_int)) (pp_ix (pv' 0) (PF.pp pk_int))))))
    (ss_cons (ss_asg (mm_pf (pf_op o_add (pp_ix (pv' 0) (PF.pp pk_int)) (PF.pp pk_int))) (mg_sub (i := 0) (PF.pp pk_int)))
    (ss_cons (ss_asg (mm_pf (pf_op o_mod (PF.pp (pf_ct c_int z_int (ar_cons (PF.pp (pf_op o_add (PF.pp (pf_op o_add (PF.pp (pf_op o_mul (pp_ix (pv' 0) (PF.pp pk_int)) (PF.pp pk_int))) (PF.pp (pf_op o_mul (pv' 3) (PF.pp pk_int))))) (PF.pp pk_int))) ar_nil))) (PF.pp pk_int))) (mg_sub (i := 0) (PF.pp pk_int)))
    (ss_one (ss_if (mt_pt (tt_cmp (o_ge hu) (pv' 3) (PF.pp (pf_op o_pow (PF.pp pk_int) (PF.pp pk_int))))) (ss_one (ss_asg (mm_var 3) (mg_sub (i := 0) (PF.pp pk_int)))) ss_nil))))) ss_nil)
    (ss_cons (ss_if (mt_pt (tt_cmp (o_gt hu) (pp_ix (pv' 0) (PF.pp pk_int)) (PF.pp pk_int))) (ss_cons (ss_set (i := 4) nd (mm_pf (pf_op o_mod (PF.pp (pf_ct c_int z_int (ar_cons (pp_ix (pv' 0) (PF.pp pk_int)) ar_nil))) (pv' 1))))
    (ss_cons (ss_asg (mm_pf (pf_op o_fdiv (pp_ix (pv' 0) (PF.pp pk_int)) (pv' 1))) (mg_sub (i := 0) (PF.pp pk_int)))
    (ss_one (ss_ret (mm_var 4))))) ss_nil)
    (ss_cons (ss_asg (mm_pf (pf_op o_add (pp_ix (pv' 0) (PF.pp pk_int)) (PF.pp pk_int))) (mg_sub (i := 0) (PF.pp pk_int)))
    (ss_cons (ss_set (i := 2) nd (mm_pf (pf_op o_mod (PF.pp (pf_ct c_int z_int (ar_cons (PF.pp (pf_op o_mul (PF.pp (pf_ct c_int z_int (ar_cons (PF.pp (pf_op o_add (pp_ix (pv' 0) (PF.pp pk_int)) (PF.pp (pf_op o_mul (PF.pp pk_int) (pp_ix (pv' 0) (PF.pp pk_int)))))) ar_nil))) (PF.pp pk_int))) ar_nil))) (PF.pp pk_int))))
    (ss_cons (ss_set (i := 2) nd (mm_pf (pf_op o_mod (PF.pp (pf_ct c_int z_int (ar_cons (PF.pp (pf_op o_mul (pv' 2) (PF.pp (pf_op o_add (PF.pp (pf_op o_fdiv (pv' 2) (PF.pp pk_int))) (PF.pp pk_int))))) ar_nil))) (PF.pp pk_int))))
    (ss_cons (ss_set (i := 2) nd (mm_pf (pf_op o_mod (PF.pp (pf_ct c_int z_int (ar_cons (PF.pp (pf_op o_mul (pv' 2) (PF.pp (pf_op o_add (PF.pp (pf_op o_fdiv (pv' 2) (PF.pp pk_int))) (PF.pp pk_int))))) ar_nil))) (PF.pp pk_int))))
    (ss_one (ss_ret (mm_pf (pf_op o_mod (PF.pp (pf_ct c_int z_int (ar_cons (PF.pp (pf_op o_fdiv (pv' 2) (PF.pp pk_int))) ar_nil))) (pv' 1)))))))))))⟩
abbrev N_law_drive : List Str := ["hand", "box", "here", "gear", "engine", "revs", "step"]
theorem sc_law_drive : FnScope N_law_drive ["hand"] (defScope s_law_drive) := ⟨rfl, rfl, rfl, by decide +kernel, rfl, by decide +kernel, by decide +kernel⟩
noncomputable def m_law_drive (g_law_draw : List D → Option (D × D)) (g_law_times : List D → Option D) (g_law_low : List D → Option D) : FS := (sSeq (sPar 1 2 (mP (eLst aNil)) (mFn 2 g_law_low (maCons (m2 gAdd (mP (eC (.int 20))) (mIo 2 0 g_law_draw (mhHole (maCons (mP (eC (.int 30))) maNil)))) (maCons (m2 gAdd (mP (eC (.int 1))) (mIo 2 0 g_law_draw (mhHole (maCons (mP (eC (.int 4))) maNil)))) maNil))))
  (sSeq (sFor (miOf giRg1 (maCons (m2 gAdd (mP (eC (.int 1))) (mIo 2 0 g_law_draw (mhHole (maCons (mP (eC (.int 4))) maNil)))) maNil)) (bbName 3) (sSeq (sExpr (mApp 1 (mVar 2)))
  (sSet 2 (mP (eFn 2 g_law_times (aCons (eVar 2) (aCons (eTup (aCons (eC (.int 2)) (aCons (eC (.int 3)) aNil))) aNil)))))))
  (sSeq (sPar 4 5 (mP (eLst aNil)) (mP (eC (.int 0))))
  (sSeq (sFor (miOf giRg1 (maCons (m2 gAdd (mP (eC (.int 1))) (mIo 2 0 g_law_draw (mhHole (maCons (mP (eC (.int 3))) maNil)))) maNil)) (bbName 6) (sSeq (sSet 5 (m2 gAdd (mP (e2 gAdd (eVar 5) (eC (.int 1)))) (mIo 2 0 g_law_draw (mhHole (maCons (mP (eC (.int 2500))) maNil)))))
  (sExpr (mApp 4 (mTup (maCons (mVar 5) (maCons (mIo 2 0 g_law_draw (mhHole (maCons (mP (eC (.int 300))) maNil))) maNil)))))))
  (sRet (mTup (maCons (m2 gAdd (mP (eC (.int 5))) (mIo 2 0 g_law_draw (mhHole (maCons (mP (eC (.int 40))) maNil)))) (maCons (m2 gAdd (mP (eC (.int 5))) (mIo 2 0 g_law_draw (mhHole (maCons (mP (eC (.int 40))) maNil)))) (maCons (mP (eCall gTupOf (aCons (eVar 1) aNil))) (maCons (mP (eCall gTupOf (aCons (eVar 4) aNil))) (maCons (m2 gAdd (mP (eC (.int 500))) (mIo 2 0 g_law_draw (mhHole (maCons (mP (eC (.int 2500))) maNil)))) maNil)))))))))))
theorem F_law_drive {f : Addr} {fd : FuncData} (F : Fun K "_law_drive" "_law_drive" s_law_drive f fd) (hb : L2.Binds K fd ["hand"] []) (hm : mg "_law_drive" = some (.ref f)) (z_tuple : mg "tuple" = none) (z_range : mg "range" = none) {g_law_draw : List D → Option (D × D)} (F_law_draw : FnD P w K mg base "_law_draw" 1 (spI K 2 0 g_law_draw)) {g_law_times : List D → Option D} (F_law_times : FnD P w K mg base "_law_times" 2 (spP K 2 g_law_times)) {g_law_low : List D → Option D} (F_law_low : FnD P w K mg base "_law_low" 1 (spP K 2 g_law_low))
    {g : List D → Option (D × D)} (law : ∀ dpre d dpost r d', dpre.length = 0 → dpre.length + 1 + dpost.length = 1 → g (dpre ++ d :: dpost) = some (r, d') → m_law_drive g_law_draw g_law_times g_law_low (seI 0 r d') (envI dpre d dpost 6)) : FnD P w K mg base "_law_drive" 3 (spI K 1 0 g) := by
  refine fnI (k := 2) 0 F sc_law_drive hb hm (fun cdv A outer s H E hr => ?_) law
  have hu := hu64 hr
  have hu1 := hu1G hr
  have nd := sc_law_drive.nd
  exact ⟨_, (ss_cons (ss_par (i := 1) (j := 2) nd (mm_pf (pf_lst an_nil)) (mm_fn F_law_low (hr.mono (by decide)) (ma_cons (mv_mm (mm_op o_add (mv_pf pk_int) (mv_mm (mm_io F_law_draw (hr.mono (by decide)) (mh_hole (i := 0) (ma_cons (mv_pf pk_int) ma_nil)))))) (ma_cons (mv_mm (mm_op o_add (mv_pf pk_int) (mv_mm (mm_io F_law_draw (hr.mono (by decide)) (mh_hole (i := 0) (ma_cons (mv_pf pk_int) ma_nil)))))) ma_nil))))
    (ss_cons (ss_for (mi_of (it_rg1 z_range) (ma_cons (mv_mm (mm_op o_add (mv_pf pk_int) (mv_mm (mm_io F_law_draw (hr.mono (by decide)) (mh_hole (i := 0) (ma_cons (mv_pf pk_int) ma_nil)))))) ma_nil)) (bg_name 3 nd) (ss_cons (ss_expr (mm_app (i := 1) (mm_var 2)))
    (ss_one (ss_set (i := 2) nd (mm_pf (pf_fn F_law_times (hr.mono (by decide)) (ar_cons (pv' 2) (ar_cons (PF.pp (pf_tup (an_cons pk_int (an_cons pk_int an_nil)))) ar_nil))))))))
    (ss_cons (ss_par (i := 4) (j := 5) nd (mm_pf (pf_lst an_nil)) (mm_pf pk_int))
    (ss_cons (ss_for (mi_of (it_rg1 z_range) (ma_cons (mv_mm (mm_op o_add (mv_pf pk_int) (mv_mm (mm_io F_law_draw (hr.mono (by decide)) (mh_hole (i := 0) (ma_cons (mv_pf pk_int) ma_nil)))))) ma_nil)) (bg_name 6 nd) (ss_cons (ss_set (i := 5) nd (mm_op o_add (mv_pf (pf_op o_add (pv' 5) (PF.pp pk_int))) (mv_mm (mm_io F_law_draw (hr.mono (by decide)) (mh_hole (i := 0) (ma_cons (mv_pf pk_int) ma_nil))))))
    (ss_one (ss_expr (mm_app (i := 4) (mm_tup (mn_cons (mm_var 5) (mn_cons (mm_io F_law_draw (hr.mono (by decide)) (mh_hole (i := 0) (ma_cons (mv_pf pk_int) ma_nil))) mn_nil))))))))
    (ss_one (ss_ret (mm_tup (mn_cons (mm_op o_add (mv_pf pk_int) (mv_mm (mm_io F_law_draw (hr.mono (by decide)) (mh_hole (i := 0) (ma_cons (mv_pf pk_int) ma_nil))))) (mn_cons (mm_op o_add (mv_pf pk_int) (mv_mm (mm_io F_law_draw (hr.mono (by decide)) (mh_hole (i := 0) (ma_cons (mv_pf pk_int) ma_nil))))) (mn_cons (mm_pf (pf_ct c_tuple z_tuple (ar_cons (pv' 1) ar_nil))) (mn_cons (mm_pf (pf_ct c_tuple z_tuple (ar_cons (pv' 4) ar_nil))) (mn_cons (mm_op o_add (mv_pf pk_int) (mv_mm (mm_io F_law_draw (hr.mono (by decide)) (mh_hole (i := 0) (ma_cons (mv_pf pk_int) ma_nil))))) mn_nil))))))))))))⟩
abbrev N_is_less : List Str := ["one", "other"]
theorem sc_is_less : FnScope N_is_less ["one", "other"] (defScope s_is_less) := ⟨rfl, rfl, rfl, by decide +kernel, rfl, by decide +kernel, by decide +kernel⟩
noncomputable def m_is_less  : FS := (sRet (mP (e2 cmpLt (e2 gMul (e2 gIx (eVar 0) (eC (.int 0))) (e2 gIx (eVar 1) (eC (.int 1)))) (e2 gMul (e2 gIx (eVar 1) (eC (.int 0))) (e2 gIx (eVar 0) (eC (.int 1)))))))
theorem F_is_less {f : Addr} {fd : FuncData} (F : Fun K "is_less" "is_less" s_is_less f fd) (hb : L2.Binds K fd ["one", "other"] []) (hm : mg "is_less" = some (.ref f))
    {g : List D → Option D} (law : ∀ ds d, ds.length = 2 → g ds = some d → m_is_less  (seP d) (envP ds 0)) : FnD P w K mg base "is_less" 1 (spP K 2 g) := by
  refine fnP (k := 0) F sc_is_less hb hm (fun cdv A outer s H E hr => ?_) law
  have hu := hu64 hr
  have hu1 := hu1G hr
  have nd := sc_is_less.nd
  exact ⟨_, (ss_one (ss_ret (mm_pf (pf_cmp (o_lt hu) (PF.pp (pf_op o_mul (pp_ix (pv' 0) (PF.pp pk_int)) (pp_ix (pv' 1) (PF.pp pk_int)))) (PF.pp (pf_op o_mul (pp_ix (pv' 1) (PF.pp pk_int)) (pp_ix (pv' 0) (PF.pp pk_int))))))))⟩
abbrev N_shared : List Str := ["one", "other"]
theorem sc_shared : FnScope N_shared ["one", "other"] (defScope s_shared) := ⟨rfl, rfl, rfl, by decide +kernel, rfl, by decide +kernel, by decide +kernel⟩
noncomputable def m_shared  : FS := (sSeq (sPar 0 1 (mP (eCall gAbs (aCons (eVar 0) aNil))) (mP (eCall gAbs (aCons (eVar 1) aNil))))
  (sSeq (sWhile (mT (tst (e2 cmpGt (eVar 1) (eC (.int 0))))) (sPar 0 1 (mVar 1) (mP (e2 gMod (eVar 0) (eVar 1)))))
  (sRet (mVar 0))))
theorem F_shared {f : Addr} {fd : FuncData} (F : Fun K "shared" "shared" s_shared f fd) (hb : L2.Binds K fd ["one", "other"] []) (hm : mg "shared" = some (.ref f)) (z_abs : mg "abs" = none)
    {g : List D → Option D} (law : ∀ ds d, ds.length = 2 → g ds = some d → m_shared  (seP d) (envP ds 0)) : FnD P w K mg base "shared" 1 (spP K 2 g) := by
  refine fnP (k := 0) F sc_shared hb hm (fun cdv A outer s H E hr => ?_) law
  have hu := hu64 hr
  have hu1 := hu1G hr
  have nd := sc_shared.nd
  exact ⟨_, (ss_cons (ss_par (i := 0) (j := 1) nd (mm_pf (pf_cb (c_abs) z_abs (ar_cons (pv' 0) ar_nil))) (mm_pf (pf_cb (c_abs) z_abs (ar_cons (pv' 1) ar_nil))))
    (ss_cons (ss_while (mt_pt (tt_cmp (o_gt hu) (pv' 1) (PF.pp pk_int))) (ss_one (ss_par (i := 0) (j := 1) nd (mm_var 1) (mm_pf (pf_op o_mod (pv' 0) (pv' 1))))))
    (ss_one (ss_ret (mm_var 0)))))⟩
abbrev N_is_integer : List Str := ["thing"]
theorem sc_is_integer : FnScope N_is_integer ["thing"] (defScope s_is_integer) := ⟨rfl, rfl, rfl, by decide +kernel, rfl, by decide +kernel, by decide +kernel⟩
noncomputable def m_is_integer  : FS := (sRet (mP (eAnd (e1 (gIsa "int") (eVar 0)) (eNot (e1 (gIsa "bool") (eVar 0))))))
theorem F_is_integer {f : Addr} {fd : FuncData} (F : Fun K "is_integer" "is_integer" s_is_integer f fd) (hb : L2.Binds K fd ["thing"] []) (hm : mg "is_integer" = some (.ref f)) (z_isinstance : mg "isinstance" = none) (z_bool : mg "bool" = none) (z_int : mg "int" = none)
    {g : List D → Option D} (law : ∀ ds d, ds.length = 1 → g ds = some d → m_is_integer  (seP d) (envP ds 0)) : FnD P w K mg base "is_integer" 1 (spP K 1 g) := by
  refine fnP (k := 0) F sc_is_integer hb hm (fun cdv A outer s H E hr => ?_) law
  have hu := hu64 hr
  have hu1 := hu1G hr
  have nd := sc_is_integer.nd
  exact ⟨_, (ss_one (ss_ret (mm_pf (pf_and (PF.pp (pf_isa z_isinstance z_int (pv' 0))) (pf_one (pf_not (PF.pp (pf_isa z_isinstance z_bool (pv' 0)))))))))⟩
abbrev N_is_fraction : List Str := ["thing", "one"]
theorem sc_is_fraction : FnScope N_is_fraction ["thing"] (defScope s_is_fraction) := ⟨rfl, rfl, rfl, by decide +kernel, rfl, by decide +kernel, by decide +kernel⟩
noncomputable def m_is_fraction (g_shared : List D → Option D) (g_is_integer : List D → Option D) : FS := (sSeq (sIf (mT (bOr (bNot (tst (e1 (gIsa "tuple") (eVar 0)))) (bOr (tst (e2 cmpNe (eCall gLen (aCons (eVar 0) aNil)) (eC (.int 2)))) (bNot (tst (eCall gAll (aCons (eLc [1] (iSelf (eVar 0)) (bName 1) bTrue (eFn 1 g_is_integer (aCons (eVar 1) aNil))) aNil))))))) (sRet (mP (eC (.bool false)))) sNext)
  (sRet (mP (eAnd (e2 cmpGt (e2 gIx (eVar 0) (eC (.int 1))) (eC (.int 0))) (e2 cmpEq (eFn 2 g_shared (aCons (e2 gIx (eVar 0) (eC (.int 0))) (aCons (e2 gIx (eVar 0) (eC (.int 1))) aNil))) (eC (.int 1)))))))
theorem F_is_fraction {f : Addr} {fd : FuncData} (F : Fun K "is_fraction" "is_fraction" s_is_fraction f fd) (hb : L2.Binds K fd ["thing"] []) (hm : mg "is_fraction" = some (.ref f)) (z_all : mg "all" = none) (z_len : mg "len" = none) (z_isinstance : mg "isinstance" = none) (z_tuple : mg "tuple" = none) {g_shared : List D → Option D} (F_shared : FnD P w K mg base "shared" 1 (spP K 2 g_shared)) {g_is_integer : List D → Option D} (F_is_integer : FnD P w K mg base "is_integer" 1 (spP K 1 g_is_integer))
    {g : List D → Option D} (law : ∀ ds d, ds.length = 1 → g ds = some d → m_is_fraction g_shared g_is_integer (seP d) (envP ds 1)) : FnD P w K mg base "is_fraction" 2 (spP K 1 g) := by
  refine fnP (k := 1) F sc_is_fraction hb hm (fun cdv A outer s H E hr => ?_) law
  have hu := hu64 hr
  have hu1 := hu1G hr
  have nd := sc_is_fraction.nd
  exact ⟨_, (ss_cons (ss_if (mt_pt (PWt.pt (tw_or (tt_not (tt_val (PF.pp (pf_isa z_isinstance z_tuple (pv' 0))))) (tw_or (tt_cmp (o_ne hu) (PF.pp (pf_cb (c_len) z_len (ar_cons (pv' 0) ar_nil))) (PF.pp pk_int)) (tw_or1 (tt_not (tt_val (PF.pp (pf_cb (c_all) z_all (ar_cons (PF.pp (pf_lc (own := [("one", 1)]) nd (pi_self (pv' 0)) (blkOk_by (own := [("one", 1)]) (N := N_is_fraction) (sc := defScope s_is_fraction) (by decide +kernel)) (fun _ _ _ _ _ => (gt_name 1 nd)) (fun _ _ _ _ _ => ts_nil) (fun _ _ _ _ _ => (pf_fn F_is_integer (hr.mono (by decide)) (ar_cons (pv' 1) ar_nil))))) ar_nil)))))))))) (ss_one (ss_ret (mm_pf pk_bl))) ss_nil)
    (ss_one (ss_ret (mm_pf (pf_and (PF.pp (pf_cmp (o_gt hu) (pp_ix (pv' 0) (PF.pp pk_int)) (PF.pp pk_int))) (pf_one (pf_cmp (o_eq hu) (PF.pp (pf_fn F_shared (hr.mono (by decide)) (ar_cons (pp_ix (pv' 0) (PF.pp pk_int)) (ar_cons (pp_ix (pv' 0) (PF.pp pk_int)) ar_nil)))) (PF.pp pk_int))))))))⟩
abbrev N_is_part : List Str := ["thing"]
theorem sc_is_part : FnScope N_is_part ["thing"] (defScope s_is_part) := ⟨rfl, rfl, rfl, by decide +kernel, rfl, by decide +kernel, by decide +kernel⟩
noncomputable def m_is_part (g_is_fraction : List D → Option D) : FS := (sRet (mP (eAnd (eFn 1 g_is_fraction (aCons (eVar 0) aNil)) (eAnd (eChain cmpLe cmpLe (eC (.int 1)) (e2 gIx (eVar 0) (eC (.int 0))) (eC (.int 10000))) (e2 cmpLe (e2 gIx (eVar 0) (eC (.int 1))) (eC (.int 10000)))))))
theorem F_is_part {f : Addr} {fd : FuncData} (F : Fun K "is_part" "is_part" s_is_part f fd) (hb : L2.Binds K fd ["thing"] []) (hm : mg "is_part" = some (.ref f)) {t_MOST_gearboxes : Tok} (k_MOST_gearboxes : mg "MOST_gearboxes" = some (.int 10000 t_MOST_gearboxes)) {g_is_fraction : List D → Option D} (F_is_fraction : FnD P w K mg base "is_fraction" 2 (spP K 1 g_is_fraction))
    {g : List D → Option D} (law : ∀ ds d, ds.length = 1 → g ds = some d → m_is_part g_is_fraction (seP d) (envP ds 0)) : FnD P w K mg base "is_part" 3 (spP K 1 g) := by
  refine fnP (k := 2) F sc_is_part hb hm (fun cdv A outer s H E hr => ?_) law
  have hu := hu64 hr
  have hu1 := hu1G hr
  have nd := sc_is_part.nd
  exact ⟨_, (ss_one (ss_ret (mm_pf (pf_and (PF.pp (pf_fn F_is_fraction (hr.mono (by decide)) (ar_cons (pv' 0) ar_nil))) (pf_and (PF.pp (pf_chain (o_le hu) (o_le hu) (PF.pp pk_int) (pp_ix (pv' 0) (PF.pp pk_int)) (PF.pp (pf_glob k_MOST_gearboxes)))) (pf_one (pf_cmp (o_le hu) (pp_ix (pv' 0) (PF.pp pk_int)) (PF.pp (pf_glob k_MOST_gearboxes)))))))))⟩
abbrev N_is_gearbox : List Str := ["thing", "one", "other"]
theorem sc_is_gearbox : FnScope N_is_gearbox ["thing"] (defScope s_is_gearbox) := ⟨rfl, rfl, rfl, by decide +kernel, rfl, by decide +kernel, by decide +kernel⟩
noncomputable def m_is_gearbox (g_is_less : List D → Option D) (g_is_part : List D → Option D) : FS := (sSeq (sIf (mT (bOr (bNot (tst (e1 (gIsa "tuple") (eVar 0)))) (bOr (bNot (tst (eChain cmpLe cmpLe (eC (.int 1)) (eCall gLen (aCons (eVar 0) aNil)) (eC (.int 8))))) (bNot (tst (eCall gAll (aCons (eLc [1] (iSelf (eVar 0)) (bName 1) bTrue (eFn 1 g_is_part (aCons (eVar 1) aNil))) aNil))))))) (sRet (mP (eC (.bool false)))) sNext)
  (sRet (mP (eCall gAll (aCons (eLc [1, 2] (iOf giZip (aCons (eVar 0) (aCons (eSl (eVar 0) (oSome (eC (.int 1))) oNone) aNil))) (bTup (bCons (bName 1) (bCons (bName 2) bNil))) bTrue (eFn 2 g_is_less (aCons (eVar 2) (aCons (eVar 1) aNil)))) aNil)))))
theorem F_is_gearbox {f : Addr} {fd : FuncData} (F : Fun K "is_gearbox" "is_gearbox" s_is_gearbox f fd) (hb : L2.Binds K fd ["thing"] []) (hm : mg "is_gearbox" = some (.ref f)) (z_zip : mg "zip" = none) (z_all : mg "all" = none) (z_len : mg "len" = none) (z_isinstance : mg "isinstance" = none) (z_tuple : mg "tuple" = none) {g_is_less : List D → Option D} (F_is_less : FnD P w K mg base "is_less" 1 (spP K 2 g_is_less)) {g_is_part : List D → Option D} (F_is_part : FnD P w K mg base "is_part" 3 (spP K 1 g_is_part))
    {g : List D → Option D} (law : ∀ ds d, ds.length = 1 → g ds = some d → m_is_gearbox g_is_less g_is_part (seP d) (envP ds 2)) : FnD P w K mg base "is_gearbox" 4 (spP K 1 g) := by
  refine fnP (k := 3) F sc_is_gearbox hb hm (fun cdv A outer s H E hr => ?_) law
  have hu := hu64 hr
  have hu1 := hu1G hr
  have nd := sc_is_gearbox.nd
  exact ⟨_, (ss_cons (ss_if (mt_pt (PWt.pt (tw_or (tt_not (tt_val (PF.pp (pf_isa z_isinstance z_tuple (pv' 0))))) (tw_or (tt_not (tt_chain (o_le hu) (o_le hu) (PF.pp pk_int) (PF.pp (pf_cb (c_len) z_len (ar_cons (pv' 0) ar_nil))) (PF.pp pk_int))) (tw_or1 (tt_not (tt_val (PF.pp (pf_cb (c_all) z_all (ar_cons (PF.pp (pf_lc (own := [("one", 1)]) nd (pi_self (pv' 0)) (blkOk_by (own := [("one", 1)]) (N := N_is_gearbox) (sc := defScope s_is_gearbox) (by decide +kernel)) (fun _ _ _ _ _ => (gt_name 1 nd)) (fun _ _ _ _ _ => ts_nil) (fun _ _ _ _ _ => (pf_fn F_is_part (hr.mono (by decide)) (ar_cons (pv' 1) ar_nil))))) ar_nil)))))))))) (ss_one (ss_ret (mm_pf pk_bl))) ss_nil)
    (ss_one (ss_ret (mm_pf (pf_cb (c_all) z_all (ar_cons (PF.pp (pf_lc (own := [("one", 1), ("other", 2)]) nd (pi_of (it_zip z_zip) (ar_cons (pv' 0) (ar_cons (PF.pp (pf_sl (pv' 0) (or_some (PF.pp pk_int)) or_none)) ar_nil))) (blkOk_by (own := [("one", 1), ("other", 2)]) (N := N_is_gearbox) (sc := defScope s_is_gearbox) (by decide +kernel)) (fun _ _ _ _ _ => (gt_tup (gs_cons (gt_name 1 nd) (gs_cons (gt_name 2 nd) gs_nil)) (bl_cons (bl_cons bl_nil)))) (fun _ _ _ _ _ => ts_nil) (fun _ _ _ _ _ => (pf_fn F_is_less (hr.mono (by decide)) (ar_cons (pv' 2) (ar_cons (pv' 1) ar_nil)))))) ar_nil))))))⟩
abbrev N_is_within : List Str := ["thing", "least", "most"]
theorem sc_is_within : FnScope N_is_within ["thing", "least", "most"] (defScope s_is_within) := ⟨rfl, rfl, rfl, by decide +kernel, rfl, by decide +kernel, by decide +kernel⟩
noncomputable def m_is_within (g_is_integer : List D → Option D) : FS := (sRet (mP (eAnd (eFn 1 g_is_integer (aCons (eVar 0) aNil)) (eChain cmpLe cmpLe (eVar 1) (eVar 0) (eVar 2)))))
theorem F_is_within {f : Addr} {fd : FuncData} (F : Fun K "is_within" "is_within" s_is_within f fd) (hb : L2.Binds K fd ["thing", "least", "most"] []) (hm : mg "is_within" = some (.ref f)) {g_is_integer : List D → Option D} (F_is_integer : FnD P w K mg base "is_integer" 1 (spP K 1 g_is_integer))
    {g : List D → Option D} (law : ∀ ds d, ds.length = 3 → g ds = some d → m_is_within g_is_integer (seP d) (envP ds 0)) : FnD P w K mg base "is_within" 2 (spP K 3 g) := by
  refine fnP (k := 1) F sc_is_within hb hm (fun cdv A outer s H E hr => ?_) law
  have hu := hu64 hr
  have hu1 := hu1G hr
  have nd := sc_is_within.nd
  exact ⟨_, (ss_one (ss_ret (mm_pf (pf_and (PF.pp (pf_fn F_is_integer (hr.mono (by decide)) (ar_cons (pv' 0) ar_nil))) (pf_one (pf_chain (o_le hu) (o_le hu) (pv' 1) (pv' 0) (pv' 2)))))))⟩
abbrev N_is_engine : List Str := ["thing", "pair", "one", "other"]
theorem sc_is_engine : FnScope N_is_engine ["thing"] (defScope s_is_engine) := ⟨rfl, rfl, rfl, by decide +kernel, rfl, by decide +kernel, by decide +kernel⟩
noncomputable def m_is_engine (g_is_within : List D → Option D) : FS := (sSeq (sIf (mT (bOr (bNot (tst (e1 (gIsa "tuple") (eVar 0)))) (bNot (tst (eChain cmpLe cmpLe (eC (.int 1)) (eCall gLen (aCons (eVar 0) aNil)) (eC (.int 8))))))) (sRet (mP (eC (.bool false)))) sNext)
  (sSeq (sFor (miSelf (mLend 0)) (bbName 1) (sSeq (sIf (mT (bOr (bNot (tst (e1 (gIsa "tuple") (eVar 1)))) (bOr (tst (e2 cmpNe (eCall gLen (aCons (eVar 1) aNil)) (eC (.int 2)))) (bNot (tst (eFn 3 g_is_within (aCons (e2 gIx (eVar 1) (eC (.int 0))) (aCons (eC (.int 1)) (aCons (eC (.int 10000)) aNil))))))))) (sRet (mP (eC (.bool false)))) sNext)
  (sIf (mT (bNot (tst (eFn 3 g_is_within (aCons (e2 gIx (eVar 1) (eC (.int 1))) (aCons (eC (.int 0)) (aCons (eC (.int 1000)) aNil))))))) (sRet (mP (eC (.bool false)))) sNext)))
  (sRet (mP (eCall gAll (aCons (eLc [2, 3] (iOf giZip (aCons (eVar 0) (aCons (eSl (eVar 0) (oSome (eC (.int 1))) oNone) aNil))) (bTup (bCons (bName 2) (bCons (bName 3) bNil))) bTrue (e2 cmpLt (e2 gIx (eVar 2) (eC (.int 0))) (e2 gIx (eVar 3) (eC (.int 0))))) aNil))))))
theorem F_is_engine {f : Addr} {fd : FuncData} (F : Fun K "is_engine" "is_engine" s_is_engine f fd) (hb : L2.Binds K fd ["thing"] []) (hm : mg "is_engine" = some (.ref f)) (z_zip : mg "zip" = none) (z_all : mg "all" = none) (z_len : mg "len" = none) (z_isinstance : mg "isinstance" = none) (z_tuple : mg "tuple" = none) {t_MOST_gearboxes : Tok} (k_MOST_gearboxes : mg "MOST_gearboxes" = some (.int 10000 t_MOST_gearboxes)) {g_is_within : List D → Option D} (F_is_within : FnD P w K mg base "is_within" 2 (spP K 3 g_is_within))
    {g : List D → Option D} (law : ∀ ds d, ds.length = 1 → g ds = some d → m_is_engine g_is_within (seP d) (envP ds 3)) : FnD P w K mg base "is_engine" 3 (spP K 1 g) := by
  refine fnP (k := 2) F sc_is_engine hb hm (fun cdv A outer s H E hr => ?_) law
  have hu := hu64 hr
  have hu1 := hu1G hr
  have nd := sc_is_engine.nd
  exact ⟨_, (ss_cons (ss_if (mt_pt (PWt.pt (tw_or (tt_not (tt_val (PF.pp (pf_isa z_isinstance z_tuple (pv' 0))))) (tw_or1 (tt_not (tt_chain (o_le hu) (o_le hu) (PF.pp pk_int) (PF.pp (pf_cb (c_len) z_len (ar_cons (pv' 0) ar_nil))) (PF.pp pk_int))))))) (ss_one (ss_ret (mm_pf pk_bl))) ss_nil)
    (ss_cons (ss_for (mi_self (mv_var 0)) (bg_name 1 nd) (ss_cons (ss_if (mt_pt (PWt.pt (tw_or (tt_not (tt_val (PF.pp (pf_isa z_isinstance z_tuple (pv' 1))))) (tw_or (tt_cmp (o_ne hu) (PF.pp (pf_cb (c_len) z_len (ar_cons (pv' 1) ar_nil))) (PF.pp pk_int)) (tw_or1 (tt_not (tt_val (PF.pp (pf_fn F_is_within (hr.mono (by decide)) (ar_cons (pp_ix (pv' 1) (PF.pp pk_int)) (ar_cons (PF.pp pk_int) (ar_cons (PF.pp (pf_glob k_MOST_gearboxes)) ar_nil)))))))))))) (ss_one (ss_ret (mm_pf pk_bl))) ss_nil)
    (ss_one (ss_if (mt_pt (tt_not (tt_val (PF.pp (pf_fn F_is_within (hr.mono (by decide)) (ar_cons (pp_ix (pv' 1) (PF.pp pk_int)) (ar_cons (PF.pp pk_int) (ar_cons (PF.pp pk_int) ar_nil)))))))) (ss_one (ss_ret (mm_pf pk_bl))) ss_nil))))
    (ss_one (ss_ret (mm_pf (pf_cb (c_all) z_all (ar_cons (PF.pp (pf_lc (own := [("one", 2), ("other", 3)]) nd (pi_of (it_zip z_zip) (ar_cons (pv' 0) (ar_cons (PF.pp (pf_sl (pv' 0) (or_some (PF.pp pk_int)) or_none)) ar_nil))) (blkOk_by (own := [("one", 2), ("other", 3)]) (N := N_is_engine) (sc := defScope s_is_engine) (by decide +kernel)) (fun _ _ _ _ _ => (gt_tup (gs_cons (gt_name 2 nd) (gs_cons (gt_name 3 nd) gs_nil)) (bl_cons (bl_cons bl_nil)))) (fun _ _ _ _ _ => ts_nil) (fun _ _ _ _ _ => (pf_cmp (o_lt hu) (pp_ix (pv' 2) (PF.pp pk_int)) (pp_ix (pv' 3) (PF.pp pk_int)))))) ar_nil)))))))⟩
abbrev N_is_row : List Str := ["thing", "many", "least", "most", "one"]
theorem sc_is_row : FnScope N_is_row ["thing", "many", "least", "most"] (defScope s_is_row) := ⟨rfl, rfl, rfl, by decide +kernel, rfl, by decide +kernel, by decide +kernel⟩
noncomputable def m_is_row (g_is_within : List D → Option D) : FS := (sSeq (sIf (mT (bOr (bNot (tst (e1 (gIsa "tuple") (eVar 0)))) (tst (e2 cmpNe (eCall gLen (aCons (eVar 0) aNil)) (eVar 1))))) (sRet (mP (eC (.bool false)))) sNext)
  (sRet (mP (eCall gAll (aCons (eLc [4] (iSelf (eVar 0)) (bName 4) bTrue (eFn 3 g_is_within (aCons (eVar 4) (aCons (eVar 2) (aCons (eVar 3) aNil))))) aNil)))))
theorem F_is_row {f : Addr} {fd : FuncData} (F : Fun K "is_row" "is_row" s_is_row f fd) (hb : L2.Binds K fd ["thing", "many", "least", "most"] []) (hm : mg "is_row" = some (.ref f)) (z_all : mg "all" = none) (z_len : mg "len" = none) (z_isinstance : mg "isinstance" = none) (z_tuple : mg "tuple" = none) {g_is_within : List D → Option D} (F_is_within : FnD P w K mg base "is_within" 2 (spP K 3 g_is_within))
    {g : List D → Option D} (law : ∀ ds d, ds.length = 4 → g ds = some d → m_is_row g_is_within (seP d) (envP ds 1)) : FnD P w K mg base "is_row" 3 (spP K 4 g) := by
  refine fnP (k := 2) F sc_is_row hb hm (fun cdv A outer s H E hr => ?_) law
  have hu := hu64 hr
  have hu1 := hu1G hr
  have nd := sc_is_row.nd
  exact ⟨_, (ss_cons (ss_if (mt_pt (PWt.pt (tw_or (tt_not (tt_val (PF.pp (pf_isa z_isinstance z_tuple (pv' 0))))) (tw_or1 (tt_cmp (o_ne hu) (PF.pp (pf_cb (c_len) z_len (ar_cons (pv' 0) ar_nil))) (pv' 1)))))) (ss_one (ss_ret (mm_pf pk_bl))) ss_nil)
    (ss_one (ss_ret (mm_pf (pf_cb (c_all) z_all (ar_cons (PF.pp (pf_lc (own := [("one", 4)]) nd (pi_self (pv' 0)) (blkOk_by (own := [("one", 4)]) (N := N_is_row) (sc := defScope s_is_row) (by decide +kernel)) (fun _ _ _ _ _ => (gt_name 4 nd)) (fun _ _ _ _ _ => ts_nil) (fun _ _ _ _ _ => (pf_fn F_is_within (hr.mono (by decide)) (ar_cons (pv' 4) (ar_cons (pv' 2) (ar_cons (pv' 3) ar_nil))))))) ar_nil))))))⟩
abbrev N_is_drive : List Str := ["thing"]
theorem sc_is_drive : FnScope N_is_drive ["thing"] (defScope s_is_drive) := ⟨rfl, rfl, rfl, by decide +kernel, rfl, by decide +kernel, by decide +kernel⟩
noncomputable def m_is_drive (g_is_within : List D → Option D) (g_is_engine : List D → Option D) (g_is_gearbox : List D → Option D) (g_is_row : List D → Option D) : FS := (sSeq (sIf (mT (bOr (bNot (tst (e1 (gIsa "tuple") (eVar 0)))) (bOr (tst (e2 cmpNe (eCall gLen (aCons (eVar 0) aNil)) (eC (.int 5)))) (bNot (tst (eFn 4 g_is_row (aCons (eSl (eVar 0) oNone (oSome (eC (.int 2)))) (aCons (eC (.int 2)) (aCons (eC (.int 2)) (aCons (eC (.int 200)) aNil)))))))))) (sRet (mP (eC (.bool false)))) sNext)
  (sRet (mP (eAnd (eFn 1 g_is_gearbox (aCons (e2 gIx (eVar 0) (eC (.int 2))) aNil)) (eAnd (eFn 1 g_is_engine (aCons (e2 gIx (eVar 0) (eC (.int 3))) aNil)) (eFn 3 g_is_within (aCons (e2 gIx (eVar 0) (eC (.int 4))) (aCons (eC (.int 500)) (aCons (eC (.int 3000)) aNil)))))))))
theorem F_is_drive {f : Addr} {fd : FuncData} (F : Fun K "is_drive" "is_drive" s_is_drive f fd) (hb : L2.Binds K fd ["thing"] []) (hm : mg "is_drive" = some (.ref f)) (z_len : mg "len" = none) (z_isinstance : mg "isinstance" = none) (z_tuple : mg "tuple" = none) {g_is_within : List D → Option D} (F_is_within : FnD P w K mg base "is_within" 2 (spP K 3 g_is_within)) {g_is_engine : List D → Option D} (F_is_engine : FnD P w K mg base "is_engine" 3 (spP K 1 g_is_engine)) {g_is_gearbox : List D → Option D} (F_is_gearbox : FnD P w K mg base "is_gearbox" 4 (spP K 1 g_is_gearbox)) {g_is_row : List D → Option D} (F_is_row : FnD P w K mg base "is_row" 3 (spP K 4 g_is_row))
    {g : List D → Option D} (law : ∀ ds d, ds.length = 1 → g ds = some d → m_is_drive g_is_within g_is_engine g_is_gearbox g_is_row (seP d) (envP ds 0)) : FnD P w K mg base "is_drive" 5 (spP K 1 g) := by
  refine fnP (k := 4) F sc_is_drive hb hm (fun cdv A outer s H E hr => ?_) law
  have hu := hu64 hr
  have hu1 := hu1G hr
  have nd := sc_is_drive.nd
  exact ⟨_, (ss_cons (ss_if (mt_pt (PWt.pt (tw_or (tt_not (tt_val (PF.pp (pf_isa z_isinstance z_tuple (pv' 0))))) (tw_or (tt_cmp (o_ne hu) (PF.pp (pf_cb (c_len) z_len (ar_cons (pv' 0) ar_nil))) (PF.pp pk_int)) (tw_or1 (tt_not (tt_val (PF.pp (pf_fn F_is_row (hr.mono (by decide)) (ar_cons (PF.pp (pf_sl (pv' 0) or_none (or_some (PF.pp pk_int)))) (ar_cons (PF.pp pk_int) (ar_cons (PF.pp pk_int) (ar_cons (PF.pp pk_int) ar_nil))))))))))))) (ss_one (ss_ret (mm_pf pk_bl))) ss_nil)
    (ss_one (ss_ret (mm_pf (pf_and (PF.pp (pf_fn F_is_gearbox (hr.mono (by decide)) (ar_cons (pp_ix (pv' 0) (PF.pp pk_int)) ar_nil))) (pf_and (PF.pp (pf_fn F_is_engine (hr.mono (by decide)) (ar_cons (pp_ix (pv' 0) (PF.pp pk_int)) ar_nil))) (pf_one (pf_fn F_is_within (hr.mono (by decide)) (ar_cons (pp_ix (pv' 0) (PF.pp pk_int)) (ar_cons (PF.pp pk_int) (ar_cons (PF.pp pk_int) ar_nil)))))))))))⟩
abbrev N_is_trip : List Str := ["thing", "part"]
theorem sc_is_trip : FnScope N_is_trip ["thing"] (defScope s_is_trip) := ⟨rfl, rfl, rfl, by decide +kernel, rfl, by decide +kernel, by decide +kernel⟩
noncomputable def m_is_trip (g_is_row : List D → Option D) : FS := (sSeq (sIf (mT (bOr (bNot (tst (e1 (gIsa "tuple") (eVar 0)))) (bNot (tst (eChain cmpLe cmpLe (eC (.int 1)) (eCall gLen (aCons (eVar 0) aNil)) (eC (.int 8))))))) (sRet (mP (eC (.bool false)))) sNext)
  (sSeq (sFor (miSelf (mLend 0)) (bbName 1) (sIf (mT (bOr (bNot (tst (eFn 4 g_is_row (aCons (eVar 1) (aCons (eC (.int 3)) (aCons (eC (.int 0)) (aCons (e2 gPow (eC (.int 10)) (eC (.int 5))) aNil))))))) (bOr (tst (e2 cmpLt (e2 gIx (eVar 1) (eC (.int 0))) (eC (.int 1)))) (bOr (bNot (tst (eChain cmpLe cmpLe (eC (.int 1)) (e2 gIx (eVar 1) (eC (.int 1))) (eC (.int 100))))) (tst (e2 cmpGt (e2 gIx (eVar 1) (eC (.int 2))) (e2 gPow (eC (.int 10)) (eC (.int 4))))))))) (sRet (mP (eC (.bool false)))) sNext))
  (sRet (mP (eC (.bool true))))))
theorem F_is_trip {f : Addr} {fd : FuncData} (F : Fun K "is_trip" "is_trip" s_is_trip f fd) (hb : L2.Binds K fd ["thing"] []) (hm : mg "is_trip" = some (.ref f)) (z_len : mg "len" = none) (z_isinstance : mg "isinstance" = none) (z_tuple : mg "tuple" = none) {g_is_row : List D → Option D} (F_is_row : FnD P w K mg base "is_row" 3 (spP K 4 g_is_row))
    {g : List D → Option D} (law : ∀ ds d, ds.length = 1 → g ds = some d → m_is_trip g_is_row (seP d) (envP ds 1)) : FnD P w K mg base "is_trip" 4 (spP K 1 g) := by
  refine fnP (k := 3) F sc_is_trip hb hm (fun cdv A outer s H E hr => ?_) law
  have hu := hu64 hr
  have hu1 := hu1G hr
  have nd := sc_is_trip.nd
  exact ⟨_, (ss_cons (ss_if (mt_pt (PWt.pt (tw_or (tt_not (tt_val (PF.pp (pf_isa z_isinstance z_tuple (pv' 0))))) (tw_or1 (tt_not (tt_chain (o_le hu) (o_le hu) (PF.pp pk_int) (PF.pp (pf_cb (c_len) z_len (ar_cons (pv' 0) ar_nil))) (PF.pp pk_int))))))) (ss_one (ss_ret (mm_pf pk_bl))) ss_nil)
    (ss_cons (ss_for (mi_self (mv_var 0)) (bg_name 1 nd) (ss_one (ss_if (mt_pt (PWt.pt (tw_or (tt_not (tt_val (PF.pp (pf_fn F_is_row (hr.mono (by decide)) (ar_cons (pv' 1) (ar_cons (PF.pp pk_int) (ar_cons (PF.pp pk_int) (ar_cons (PF.pp (pf_op o_pow (PF.pp pk_int) (PF.pp pk_int))) ar_nil)))))))) (tw_or (tt_cmp (o_lt hu) (pp_ix (pv' 1) (PF.pp pk_int)) (PF.pp pk_int)) (tw_or (tt_not (tt_chain (o_le hu) (o_le hu) (PF.pp pk_int) (pp_ix (pv' 1) (PF.pp pk_int)) (PF.pp pk_int))) (tw_or1 (tt_cmp (o_gt hu) (pp_ix (pv' 1) (PF.pp pk_int)) (PF.pp (pf_op o_pow (PF.pp pk_int) (PF.pp pk_int)))))))))) (ss_one (ss_ret (mm_pf pk_bl))) ss_nil)))
    (ss_one (ss_ret (mm_pf pk_bl)))))⟩
abbrev N_check_drive : List Str := ["drive", "trip"]
theorem sc_check_drive : FnScope N_check_drive ["drive", "trip"] (defScope s_check_drive) := ⟨rfl, rfl, rfl, by decide +kernel, rfl, by decide +kernel, by decide +kernel⟩
noncomputable def m_check_drive (g_is_trip : List D → Option D) (g_is_drive : List D → Option D) : FS := (sSeq (sIf (mT (bNot (tst (eFn 1 g_is_drive (aCons (eVar 0) aNil))))) sNever sNext)
  (sIf (mT (bNot (tst (eFn 1 g_is_trip (aCons (eVar 1) aNil))))) sNever sNext))
theorem F_check_drive {f : Addr} {fd : FuncData} (F : Fun K "check_drive" "check_drive" s_check_drive f fd) (hb : L2.Binds K fd ["drive", "trip"] []) (hm : mg "check_drive" = some (.ref f)) {g_is_trip : List D → Option D} (F_is_trip : FnD P w K mg base "is_trip" 4 (spP K 1 g_is_trip)) {g_is_drive : List D → Option D} (F_is_drive : FnD P w K mg base "is_drive" 5 (spP K 1 g_is_drive))
    {g : List D → Option D} (law : ∀ ds d, ds.length = 2 → g ds = some d → m_check_drive g_is_trip g_is_drive (seP d) (envP ds 0)) : FnD P w K mg base "check_drive" 6 (spP K 2 g) := by
  refine fnP (k := 5) F sc_check_drive hb hm (fun cdv A outer s H E hr => ?_) law
  have hu := hu64 hr
  have hu1 := hu1G hr
  have nd := sc_check_drive.nd
  exact ⟨_, (ss_cons (ss_if (mt_pt (tt_not (tt_val (PF.pp (pf_fn F_is_drive (hr.mono (by decide)) (ar_cons (pv' 0) ar_nil)))))) (ss_one ss_never) ss_nil)
    (ss_one (ss_if (mt_pt (tt_not (tt_val (PF.pp (pf_fn F_is_trip (hr.mono (by decide)) (ar_cons (pv' 1) ar_nil)))))) (ss_one ss_never) ss_nil)))⟩
abbrev N_pull_of : List Str := ["engine", "revs", "most", "pull"]
theorem sc_pull_of : FnScope N_pull_of ["engine", "revs"] (defScope s_pull_of) := ⟨rfl, rfl, rfl, by decide +kernel, rfl, by decide +kernel, by decide +kernel⟩
noncomputable def m_pull_of (g_is_less : List D → Option D) : FS := (sSeq (sFor (miSelf (mLend 0)) (bTup (bCons (bbName 2) (bCons (bbName 3) bNil))) (sIf (mT (bNot (tst (eFn 2 g_is_less (aCons (eTup (aCons (eFrz (eVar 2)) (aCons (eC (.int 1)) aNil))) (aCons (eVar 1) aNil)))))) (sRet (mVar 3)) sNext))
  (sRet (mP (eC .none))))
theorem F_pull_of {f : Addr} {fd : FuncData} (F : Fun K "pull_of" "pull_of" s_pull_of f fd) (hb : L2.Binds K fd ["engine", "revs"] []) (hm : mg "pull_of" = some (.ref f)) {g_is_less : List D → Option D} (F_is_less : FnD P w K mg base "is_less" 1 (spP K 2 g_is_less))
    {g : List D → Option D} (law : ∀ ds d, ds.length = 2 → g ds = some d → m_pull_of g_is_less (seP d) (envP ds 2)) : FnD P w K mg base "pull_of" 2 (spP K 2 g) := by
  refine fnP (k := 1) F sc_pull_of hb hm (fun cdv A outer s H E hr => ?_) law
  have hu := hu64 hr
  have hu1 := hu1G hr
  have nd := sc_pull_of.nd
  exact ⟨_, (ss_cons (ss_for (mi_self (mv_var 0)) (bg_tup (bgs_cons (bg_name 2 nd) (bgs_cons (bg_name 3 nd) bgs_nil)) (bl_cons (bl_cons bl_nil))) (ss_one (ss_if (mt_pt (tt_not (tt_val (PF.pp (pf_fn F_is_less (hr.mono (by decide)) (ar_cons (PF.pp (pf_tup (an_cons (PP.frz (pv' 2)) (an_cons pk_int an_nil)))) (ar_cons (pv' 1) ar_nil))))))) (ss_one (ss_ret (mm_var 3))) ss_nil)))
    (ss_one (ss_ret (mm_pf pk_non))))⟩
abbrev N_low : List Str := ["top", "bottom", "same"]
theorem sc_low : FnScope N_low ["top", "bottom"] (defScope s_low) := ⟨rfl, rfl, rfl, by decide +kernel, rfl, by decide +kernel, by decide +kernel⟩
noncomputable def m_low (g_shared : List D → Option D) : FS := (sSeq (sIf (mT (tst (e2 cmpLt (eVar 1) (eC (.int 0))))) (sPar 0 1 (mP (e1 gNeg (eVar 0))) (mP (e1 gNeg (eVar 1)))) sNext)
  (sSeq (sSet 2 (mP (eFn 2 g_shared (aCons (eVar 0) (aCons (eVar 1) aNil)))))
  (sRet (mP (eTup (aCons (e2 gFdiv (eVar 0) (eVar 2)) (aCons (e2 gFdiv (eVar 1) (eVar 2)) aNil)))))))
theorem F_low {f : Addr} {fd : FuncData} (F : Fun K "low" "low" s_low f fd) (hb : L2.Binds K fd ["top", "bottom"] []) (hm : mg "low" = some (.ref f)) {g_shared : List D → Option D} (F_shared : FnD P w K mg base "shared" 1 (spP K 2 g_shared))
    {g : List D → Option D} (law : ∀ ds d, ds.length = 2 → g ds = some d → m_low g_shared (seP d) (envP ds 1)) : FnD P w K mg base "low" 2 (spP K 2 g) := by
  refine fnP (k := 1) F sc_low hb hm (fun cdv A outer s H E hr => ?_) law
  have hu := hu64 hr
  have hu1 := hu1G hr
  have nd := sc_low.nd
  exact ⟨_, (ss_cons (ss_if (mt_pt (tt_cmp (o_lt hu) (pv' 1) (PF.pp pk_int))) (ss_one (ss_par (i := 0) (j := 1) nd (mm_pf (pf_un o_neg (pv' 0))) (mm_pf (pf_un o_neg (pv' 1))))) ss_nil)
    (ss_cons (ss_set (i := 2) nd (mm_pf (pf_fn F_shared (hr.mono (by decide)) (ar_cons (pv' 0) (ar_cons (pv' 1) ar_nil)))))
    (ss_one (ss_ret (mm_pf (pf_tup (an_cons (pf_op o_fdiv (pv' 0) (pv' 2)) (an_cons (pf_op o_fdiv (pv' 1) (pv' 2)) an_nil))))))))⟩
abbrev N_times : List Str := ["one", "other"]
theorem sc_times : FnScope N_times ["one", "other"] (defScope s_times) := ⟨rfl, rfl, rfl, by decide +kernel, rfl, by decide +kernel, by decide +kernel⟩
noncomputable def m_times (g_low : List D → Option D) : FS := (sRet (mP (eFn 2 g_low (aCons (e2 gMul (e2 gIx (eVar 0) (eC (.int 0))) (e2 gIx (eVar 1) (eC (.int 0)))) (aCons (e2 gMul (e2 gIx (eVar 0) (eC (.int 1))) (e2 gIx (eVar 1) (eC (.int 1)))) aNil)))))
theorem F_times {f : Addr} {fd : FuncData} (F : Fun K "times" "times" s_times f fd) (hb : L2.Binds K fd ["one", "other"] []) (hm : mg "times" = some (.ref f)) {g_low : List D → Option D} (F_low : FnD P w K mg base "low" 2 (spP K 2 g_low))
    {g : List D → Option D} (law : ∀ ds d, ds.length = 2 → g ds = some d → m_times g_low (seP d) (envP ds 0)) : FnD P w K mg base "times" 3 (spP K 2 g) := by
  refine fnP (k := 2) F sc_times hb hm (fun cdv A outer s H E hr => ?_) law
  have hu := hu64 hr
  have hu1 := hu1G hr
  have nd := sc_times.nd
  exact ⟨_, (ss_one (ss_ret (mm_pf (pf_fn F_low (hr.mono (by decide)) (ar_cons (PF.pp (pf_op o_mul (pp_ix (pv' 0) (PF.pp pk_int)) (pp_ix (pv' 1) (PF.pp pk_int)))) (ar_cons (PF.pp (pf_op o_mul (pp_ix (pv' 0) (PF.pp pk_int)) (pp_ix (pv' 1) (PF.pp pk_int)))) ar_nil))))))⟩
abbrev N_pulls_of : List Str := ["box", "engine", "wheel", "found", "ratio", "pull"]
theorem sc_pulls_of : FnScope N_pulls_of ["box", "engine", "wheel"] (defScope s_pulls_of) := ⟨rfl, rfl, rfl, by decide +kernel, rfl, by decide +kernel, by decide +kernel⟩
noncomputable def m_pulls_of (g_times : List D → Option D) (g_pull_of : List D → Option D) : FS := (sSeq (sSet 3 (mP (eLst aNil)))
  (sSeq (sFor (miSelf (mLend 0)) (bbName 4) (sSeq (sSet 5 (mP (eFn 2 g_pull_of (aCons (eVar 1) (aCons (eFn 2 g_times (aCons (eVar 4) (aCons (eVar 2) aNil))) aNil)))))
  (sExpr (mApp 3 (mP (eIf (tst (e2 gIs (eVar 5) (eC .none))) (eC .none) (eFn 2 g_times (aCons (eVar 4) (aCons (eTup (aCons (eFrz (eVar 5)) (aCons (eC (.int 1)) aNil))) aNil)))))))))
  (sRet (mP (eCall gTupOf (aCons (eVar 3) aNil))))))
theorem F_pulls_of {f : Addr} {fd : FuncData} (F : Fun K "pulls_of" "pulls_of" s_pulls_of f fd) (hb : L2.Binds K fd ["box", "engine", "wheel"] []) (hm : mg "pulls_of" = some (.ref f)) (z_tuple : mg "tuple" = none) {g_times : List D → Option D} (F_times : FnD P w K mg base "times" 3 (spP K 2 g_times)) {g_pull_of : List D → Option D} (F_pull_of : FnD P w K mg base "pull_of" 2 (spP K 2 g_pull_of))
    {g : List D → Option D} (law : ∀ ds d, ds.length = 3 → g ds = some d → m_pulls_of g_times g_pull_of (seP d) (envP ds 3)) : FnD P w K mg base "pulls_of" 4 (spP K 3 g) := by
  refine fnP (k := 3) F sc_pulls_of hb hm (fun cdv A outer s H E hr => ?_) law
  have hu := hu64 hr
  have hu1 := hu1G hr
  have nd := sc_pulls_of.nd
  exact ⟨_, (ss_cons (ss_set (i := 3) nd (mm_pf (pf_lst an_nil)))
    (ss_cons (ss_for (mi_self (mv_var 0)) (bg_name 4 nd) (ss_cons (ss_set (i := 5) nd (mm_pf (pf_fn F_pull_of (hr.mono (by decide)) (ar_cons (pv' 1) (ar_cons (PF.pp (pf_fn F_times (hr.mono (by decide)) (ar_cons (pv' 4) (ar_cons (pv' 2) ar_nil)))) ar_nil)))))
    (ss_one (ss_expr (mm_app (i := 3) (mm_pf (pf_if (tt_cmp (o_is) (pv' 5) (PF.pp pk_non)) pk_non (pf_fn F_times (hr.mono (by decide)) (ar_cons (pv' 4) (ar_cons (PF.pp (pf_tup (an_cons (PP.frz (pv' 5)) (an_cons pk_int an_nil)))) ar_nil))))))))))
    (ss_one (ss_ret (mm_pf (pf_ct c_tuple z_tuple (ar_cons (pv' 3) ar_nil)))))))⟩
abbrev N_wheel_pulls_drives : List Str := ["drive", "turns", "found", "pull"]
theorem sc_wheel_pulls_drives : FnScope N_wheel_pulls_drives ["drive", "turns"] (defScope s_wheel_pulls_drives) := ⟨rfl, rfl, rfl, by decide +kernel, rfl, by decide +kernel, by decide +kernel⟩
noncomputable def m_wheel_pulls_drives (g_pulls_of : List D → Option D) (g_times : List D → Option D) (g_low : List D → Option D) : FS := (sSeq (sSet 2 (mP (eLst aNil)))
  (sSeq (sFor (miSelf (mP (eFn 3 g_pulls_of (aCons (e2 gIx (eVar 0) (eC (.int 2))) (aCons (e2 gIx (eVar 0) (eC (.int 3))) (aCons (eVar 1) aNil)))))) (bbName 3) (sExpr (mApp 2 (mP (eIf (tst (e2 gIs (eVar 3) (eC .none))) (eC .none) (eFn 2 g_times (aCons (eVar 3) (aCons (eFn 2 g_low (aCons (e2 gIx (eVar 0) (eC (.int 1))) (aCons (e2 gIx (eVar 0) (eC (.int 0))) aNil))) aNil))))))))
  (sRet (mP (eCall gTupOf (aCons (eVar 2) aNil))))))
theorem F_wheel_pulls_drives {f : Addr} {fd : FuncData} (F : Fun K "wheel_pulls" "wheel_pulls" s_wheel_pulls_drives f fd) (hb : L2.Binds K fd ["drive", "turns"] []) (hm : mg "wheel_pulls_drives" = some (.ref f)) (z_tuple : mg "tuple" = none) {g_pulls_of : List D → Option D} (F_pulls_of : FnD P w K mg base "pulls_of" 4 (spP K 3 g_pulls_of)) {g_times : List D → Option D} (F_times : FnD P w K mg base "times" 3 (spP K 2 g_times)) {g_low : List D → Option D} (F_low : FnD P w K mg base "low" 2 (spP K 2 g_low))
    {g : List D → Option D} (law : ∀ ds d, ds.length = 2 → g ds = some d → m_wheel_pulls_drives g_pulls_of g_times g_low (seP d) (envP ds 2)) : FnD P w K mg base "wheel_pulls_drives" 5 (spP K 2 g) := by
  refine fnP (k := 4) F sc_wheel_pulls_drives hb hm (fun cdv A outer s H E hr => ?_) law
  have hu := hu64 hr
  have hu1 := hu1G hr
  have nd := sc_wheel_pulls_drives.nd
  exact ⟨_, (ss_cons (ss_set (i := 2) nd (mm_pf (pf_lst an_nil)))
    (ss_cons (ss_for (mi_self (mv_pf (pf_fn F_pulls_of (hr.mono (by decide)) (ar_cons (pp_ix (pv' 0) (PF.pp pk_int)) (ar_cons (pp_ix (pv' 0) (PF.pp pk_int)) (ar_cons (pv' 1) ar_nil)))))) (bg_name 3 nd) (ss_one (ss_expr (mm_app (i := 2) (mm_pf (pf_if (tt_cmp (o_is) (pv' 3) (PF.pp pk_non)) pk_non (pf_fn F_times (hr.mono (by decide)) (ar_cons (pv' 3) (ar_cons (PF.pp (pf_fn F_low (hr.mono (by decide)) (ar_cons (pp_ix (pv' 0) (PF.pp pk_int)) (ar_cons (pp_ix (pv' 0) (PF.pp pk_int)) ar_nil)))) ar_nil)))))))))
    (ss_one (ss_ret (mm_pf (pf_ct c_tuple z_tuple (ar_cons (pv' 2) ar_nil)))))))⟩
abbrev N_shaft_turns : List Str := ["drive", "meters"]
theorem sc_shaft_turns : FnScope N_shaft_turns ["drive", "meters"] (defScope s_shaft_turns) := ⟨rfl, rfl, rfl, by decide +kernel, rfl, by decide +kernel, by decide +kernel⟩
noncomputable def m_shaft_turns (g_times : List D → Option D) (g_low : List D → Option D) : FS := (sRet (mP (eFn 2 g_times (aCons (eFn 2 g_times (aCons (eVar 1) (aCons (eFn 2 g_low (aCons (eC (.int 1000)) (aCons (e2 gIx (eVar 0) (eC (.int 4))) aNil))) aNil))) (aCons (eFn 2 g_low (aCons (e2 gIx (eVar 0) (eC (.int 1))) (aCons (e2 gIx (eVar 0) (eC (.int 0))) aNil))) aNil)))))
theorem F_shaft_turns {f : Addr} {fd : FuncData} (F : Fun K "shaft_turns" "shaft_turns" s_shaft_turns f fd) (hb : L2.Binds K fd ["drive", "meters"] []) (hm : mg "shaft_turns" = some (.ref f)) {g_times : List D → Option D} (F_times : FnD P w K mg base "times" 3 (spP K 2 g_times)) {g_low : List D → Option D} (F_low : FnD P w K mg base "low" 2 (spP K 2 g_low))
    {g : List D → Option D} (law : ∀ ds d, ds.length = 2 → g ds = some d → m_shaft_turns g_times g_low (seP d) (envP ds 0)) : FnD P w K mg base "shaft_turns" 4 (spP K 2 g) := by
  refine fnP (k := 3) F sc_shaft_turns hb hm (fun cdv A outer s H E hr => ?_) law
  have hu := hu64 hr
  have hu1 := hu1G hr
  have nd := sc_shaft_turns.nd
  exact ⟨_, (ss_one (ss_ret (mm_pf (pf_fn F_times (hr.mono (by decide)) (ar_cons (PF.pp (pf_fn F_times (hr.mono (by decide)) (ar_cons (pv' 1) (ar_cons (PF.pp (pf_fn F_low (hr.mono (by decide)) (ar_cons (PF.pp pk_int) (ar_cons (pp_ix (pv' 0) (PF.pp pk_int)) ar_nil)))) ar_nil)))) (ar_cons (PF.pp (pf_fn F_low (hr.mono (by decide)) (ar_cons (pp_ix (pv' 0) (PF.pp pk_int)) (ar_cons (pp_ix (pv' 0) (PF.pp pk_int)) ar_nil)))) ar_nil))))))⟩
abbrev N_shaft_at : List Str := ["drive", "speed"]
theorem sc_shaft_at : FnScope N_shaft_at ["drive", "speed"] (defScope s_shaft_at) := ⟨rfl, rfl, rfl, by decide +kernel, rfl, by decide +kernel, by decide +kernel⟩
noncomputable def m_shaft_at (g_times : List D → Option D) (g_shaft_turns : List D → Option D) (g_is_within : List D → Option D) (g_is_drive : List D → Option D) : FS := (sSeq (sIf (mT (bNot (tst (eFn 1 g_is_drive (aCons (eVar 0) aNil))))) sNever sNext)
  (sSeq (sIf (mT (bNot (tst (eFn 3 g_is_within (aCons (eVar 1) (aCons (eC (.int 0)) (aCons (eC (.int 100)) aNil))))))) sNever sNext)
  (sRet (mP (eFn 2 g_times (aCons (eFn 2 g_shaft_turns (aCons (eVar 0) (aCons (eTup (aCons (eFrz (eVar 1)) (aCons (eC (.int 1)) aNil))) aNil))) (aCons (eTup (aCons (eC (.int 60)) (aCons (eC (.int 1)) aNil))) aNil)))))))
theorem F_shaft_at {f : Addr} {fd : FuncData} (F : Fun K "shaft_at" "shaft_at" s_shaft_at f fd) (hb : L2.Binds K fd ["drive", "speed"] []) (hm : mg "shaft_at" = some (.ref f)) {g_times : List D → Option D} (F_times : FnD P w K mg base "times" 3 (spP K 2 g_times)) {g_shaft_turns : List D → Option D} (F_shaft_turns : FnD P w K mg base "shaft_turns" 4 (spP K 2 g_shaft_turns)) {g_is_within : List D → Option D} (F_is_within : FnD P w K mg base "is_within" 2 (spP K 3 g_is_within)) {g_is_drive : List D → Option D} (F_is_drive : FnD P w K mg base "is_drive" 5 (spP K 1 g_is_drive))
    {g : List D → Option D} (law : ∀ ds d, ds.length = 2 → g ds = some d → m_shaft_at g_times g_shaft_turns g_is_within g_is_drive (seP d) (envP ds 0)) : FnD P w K mg base "shaft_at" 6 (spP K 2 g) := by
  refine fnP (k := 5) F sc_shaft_at hb hm (fun cdv A outer s H E hr => ?_) law
  have hu := hu64 hr
  have hu1 := hu1G hr
  have nd := sc_shaft_at.nd
  exact ⟨_, (ss_cons (ss_if (mt_pt (tt_not (tt_val (PF.pp (pf_fn F_is_drive (hr.mono (by decide)) (ar_cons (pv' 0) ar_nil)))))) (ss_one ss_never) ss_nil)
    (ss_cons (ss_if (mt_pt (tt_not (tt_val (PF.pp (pf_fn F_is_within (hr.mono (by decide)) (ar_cons (pv' 1) (ar_cons (PF.pp pk_int) (ar_cons (PF.pp pk_int) ar_nil)))))))) (ss_one ss_never) ss_nil)
    (ss_one (ss_ret (mm_pf (pf_fn F_times (hr.mono (by decide)) (ar_cons (PF.pp (pf_fn F_shaft_turns (hr.mono (by decide)) (ar_cons (pv' 0) (ar_cons (PF.pp (pf_tup (an_cons (PP.frz (pv' 1)) (an_cons pk_int an_nil)))) ar_nil)))) (ar_cons (PF.pp (pf_tup (an_cons pk_int (an_cons pk_int an_nil)))) ar_nil))))))))⟩
abbrev N_gears_good : List Str := ["drive", "part", "found", "gear", "pull"]
theorem sc_gears_good : FnScope N_gears_good ["drive", "part"] (defScope s_gears_good) := ⟨rfl, rfl, rfl, by decide +kernel, rfl, by decide +kernel, by decide +kernel⟩
noncomputable def m_gears_good (g_wheel_pulls_drives : List D → Option D) (g_shaft_at : List D → Option D) : FS := (sSeq (sSet 2 (mP (eLst aNil)))
  (sSeq (sFor (miOf giEnum (maCons (mP (eFn 2 g_wheel_pulls_drives (aCons (eVar 0) (aCons (eFn 2 g_shaft_at (aCons (eVar 0) (aCons (e2 gIx (eVar 1) (eC (.int 1))) aNil))) aNil)))) maNil)) (bTup (bCons (bbName 3) (bCons (bbName 4) bNil))) (sIf (mT (bAnd (tst (e2 gIsNot (eVar 4) (eC .none))) (tst (e2 cmpGe (e2 gIx (eVar 4) (eC (.int 0))) (e2 gMul (e2 gIx (eVar 1) (eC (.int 2))) (e2 gIx (eVar 4) (eC (.int 1)))))))) (sExpr (mApp 2 (mVar 3))) sNext))
  (sRet (mVar 2))))
theorem F_gears_good {f : Addr} {fd : FuncData} (F : Fun K "gears_good" "gears_good" s_gears_good f fd) (hb : L2.Binds K fd ["drive", "part"] []) (hm : mg "gears_good" = some (.ref f)) (z_enumerate : mg "enumerate" = none) {g_wheel_pulls_drives : List D → Option D} (F_wheel_pulls_drives : FnD P w K mg base "wheel_pulls_drives" 5 (spP K 2 g_wheel_pulls_drives)) {g_shaft_at : List D → Option D} (F_shaft_at : FnD P w K mg base "shaft_at" 6 (spP K 2 g_shaft_at))
    {g : List D → Option D} (law : ∀ ds d, ds.length = 2 → g ds = some d → m_gears_good g_wheel_pulls_drives g_shaft_at (seP d) (envP ds 3)) : FnD P w K mg base "gears_good" 7 (spP K 2 g) := by
  refine fnP (k := 6) F sc_gears_good hb hm (fun cdv A outer s H E hr => ?_) law
  have hu := hu64 hr
  have hu1 := hu1G hr
  have nd := sc_gears_good.nd
  exact ⟨_, (ss_cons (ss_set (i := 2) nd (mm_pf (pf_lst an_nil)))
    (ss_cons (ss_for (mi_of (it_enum z_enumerate) (ma_cons (mv_pf (pf_fn F_wheel_pulls_drives (hr.mono (by decide)) (ar_cons (pv' 0) (ar_cons (PF.pp (pf_fn F_shaft_at (hr.mono (by decide)) (ar_cons (pv' 0) (ar_cons (pp_ix (pv' 1) (PF.pp pk_int)) ar_nil)))) ar_nil)))) ma_nil)) (bg_tup (bgs_cons (bg_name 3 nd) (bgs_cons (bg_name 4 nd) bgs_nil)) (bl_cons (bl_cons bl_nil))) (ss_one (ss_if (mt_pt (PWt.pt (tw_and (tt_cmp (o_isNot) (pv' 4) (PF.pp pk_non)) (tw_and1 (tt_cmp (o_ge hu) (pp_ix (pv' 4) (PF.pp pk_int)) (PF.pp (pf_op o_mul (pp_ix (pv' 1) (PF.pp pk_int)) (pp_ix (pv' 4) (PF.pp pk_int))))))))) (ss_one (ss_expr (mm_app (i := 2) (mm_var 3)))) ss_nil)))
    (ss_one (ss_ret (mm_var 2)))))⟩
abbrev N_drive_pulls : List Str := ["drive", "speed", "turns"]
theorem sc_drive_pulls : FnScope N_drive_pulls ["drive", "speed"] (defScope s_drive_pulls) := ⟨rfl, rfl, rfl, by decide +kernel, rfl, by decide +kernel, by decide +kernel⟩
noncomputable def m_drive_pulls (g_wheel_pulls_drives : List D → Option D) (g_shaft_at : List D → Option D) : FS := (sSeq (sSet 2 (mP (eFn 2 g_shaft_at (aCons (eVar 0) (aCons (eVar 1) aNil)))))
  (sRet (mP (eFn 2 g_wheel_pulls_drives (aCons (eVar 0) (aCons (eVar 2) aNil))))))
theorem F_drive_pulls {f : Addr} {fd : FuncData} (F : Fun K "drive_pulls" "drive_pulls" s_drive_pulls f fd) (hb : L2.Binds K fd ["drive", "speed"] []) (hm : mg "drive_pulls" = some (.ref f)) {g_wheel_pulls_drives : List D → Option D} (F_wheel_pulls_drives : FnD P w K mg base "wheel_pulls_drives" 5 (spP K 2 g_wheel_pulls_drives)) {g_shaft_at : List D → Option D} (F_shaft_at : FnD P w K mg base "shaft_at" 6 (spP K 2 g_shaft_at))
    {g : List D → Option D} (law : ∀ ds d, ds.length = 2 → g ds = some d → m_drive_pulls g_wheel_pulls_drives g_shaft_at (seP d) (envP ds 1)) : FnD P w K mg base "drive_pulls" 7 (spP K 2 g) := by
  refine fnP (k := 6) F sc_drive_pulls hb hm (fun cdv A outer s H E hr => ?_) law
  have hu := hu64 hr
  have hu1 := hu1G hr
  have nd := sc_drive_pulls.nd
  exact ⟨_, (ss_cons (ss_set (i := 2) nd (mm_pf (pf_fn F_shaft_at (hr.mono (by decide)) (ar_cons (pv' 0) (ar_cons (pv' 1) ar_nil)))))
    (ss_one (ss_ret (mm_pf (pf_fn F_wheel_pulls_drives (hr.mono (by decide)) (ar_cons (pv' 0) (ar_cons (pv' 2) ar_nil)))))))⟩
abbrev N_trip_told : List Str := ["drive", "trip", "found", "at", "part", "some"]
theorem sc_trip_told : FnScope N_trip_told ["drive", "trip"] (defScope s_trip_told) := ⟨rfl, rfl, rfl, by decide +kernel, rfl, by decide +kernel, by decide +kernel⟩
noncomputable def m_trip_told (g_drive_pulls : List D → Option D) (g_gears_good : List D → Option D) (g_check_drive : List D → Option D) : FS := (sSeq (sExpr (mP (eFn 2 g_check_drive (aCons (eVar 0) (aCons (eVar 1) aNil)))))
  (sSeq (sSet 2 (mP (eLst aNil)))
  (sSeq (sFor (miOf giEnum (maCons (mLend 1) maNil)) (bTup (bCons (bbName 3) (bCons (bbName 4) bNil))) (sSeq (sSet 5 (mP (eFn 2 g_gears_good (aCons (eVar 0) (aCons (eVar 4) aNil)))))
  (sSeq (sIf (mT (tst (e2 cmpEq (eVar 5) (eLst aNil)))) (sRet (mP (eTup (aCons (eC (.str "stop")) (aCons (eTup (aCons (eFrz (eVar 3)) (aCons (eFn 2 g_drive_pulls (aCons (eVar 0) (aCons (e2 gIx (eVar 4) (eC (.int 1))) aNil))) aNil))) aNil))))) sNext)
  (sExpr (mApp 2 (mP (eFrz (e2 gIx (eVar 5) (e1 gNeg (eC (.int 1)))))))))))
  (sRet (mP (eTup (aCons (eC (.str "trip")) (aCons (eCall gTupOf (aCons (eVar 2) aNil)) aNil))))))))
theorem F_trip_told {f : Addr} {fd : FuncData} (F : Fun K "trip_told" "trip_told" s_trip_told f fd) (hb : L2.Binds K fd ["drive", "trip"] []) (hm : mg "trip_told" = some (.ref f)) (z_tuple : mg "tuple" = none) (z_enumerate : mg "enumerate" = none) {g_drive_pulls : List D → Option D} (F_drive_pulls : FnD P w K mg base "drive_pulls" 7 (spP K 2 g_drive_pulls)) {g_gears_good : List D → Option D} (F_gears_good : FnD P w K mg base "gears_good" 7 (spP K 2 g_gears_good)) {g_check_drive : List D → Option D} (F_check_drive : FnD P w K mg base "check_drive" 6 (spP K 2 g_check_drive))
    {g : List D → Option D} (law : ∀ ds d, ds.length = 2 → g ds = some d → m_trip_told g_drive_pulls g_gears_good g_check_drive (seP d) (envP ds 4)) : FnD P w K mg base "trip_told" 8 (spP K 2 g) := by
  refine fnP (k := 7) F sc_trip_told hb hm (fun cdv A outer s H E hr => ?_) law
  have hu := hu64 hr
  have hu1 := hu1G hr
  have nd := sc_trip_told.nd
  exact ⟨_, (ss_cons (ss_expr (mm_pf (pf_fn F_check_drive (hr.mono (by decide)) (ar_cons (pv' 0) (ar_cons (pv' 1) ar_nil)))))
    (ss_cons (ss_set (i := 2) nd (mm_pf (pf_lst an_nil)))
    (ss_cons (ss_for (mi_of (it_enum z_enumerate) (ma_cons (mv_var 1) ma_nil)) (bg_tup (bgs_cons (bg_name 3 nd) (bgs_cons (bg_name 4 nd) bgs_nil)) (bl_cons (bl_cons bl_nil))) (ss_cons (ss_set (i := 5) nd (mm_pf (pf_fn F_gears_good (hr.mono (by decide)) (ar_cons (pv' 0) (ar_cons (pv' 4) ar_nil)))))
    (ss_cons (ss_if (mt_pt (tt_cmp (o_eq hu) (pv' 5) (PF.pp (pf_lst an_nil)))) (ss_one (ss_ret (mm_pf (pf_tup (an_cons pk_str (an_cons (pf_tup (an_cons (PP.frz (pv' 3)) (an_cons (pf_fn F_drive_pulls (hr.mono (by decide)) (ar_cons (pv' 0) (ar_cons (pp_ix (pv' 4) (PF.pp pk_int)) ar_nil))) an_nil))) an_nil)))))) ss_nil)
    (ss_one (ss_expr (mm_app (i := 2) (mm_pf (PP.frz (pp_ix (pv' 5) (PF.pp (pf_un o_neg (PF.pp pk_int))))))))))))
    (ss_one (ss_ret (mm_pf (pf_tup (an_cons pk_str (an_cons (pf_ct c_tuple z_tuple (ar_cons (pv' 2) ar_nil)) an_nil)))))))))⟩
abbrev N_law_is_less : List Str := ["one", "other"]
theorem sc_law_is_less : FnScope N_law_is_less ["one", "other"] (defScope s_law_is_less) := ⟨rfl, rfl, rfl, by decide +kernel, rfl, by decide +kernel, by decide +kernel⟩
noncomputable def m_law_is_less  : FS := (sRet (mP (e2 cmpLt (e2 gMul (e2 gIx (eVar 0) (eC (.int 0))) (e2 gIx (eVar 1) (eC (.int 1)))) (e2 gMul (e2 gIx (eVar 1) (eC (.int 0))) (e2 gIx (eVar 0) (eC (.int 1)))))))
theorem F_law_is_less {f : Addr} {fd : FuncData} (F : Fun K "_law_is_less" "_law_is_less" s_law_is_less f fd) (hb : L2.Binds K fd ["one", "other"] []) (hm : mg "_law_is_less" = some (.ref f))
    {g : List D → Option D} (law : ∀ ds d, ds.length = 2 → g ds = some d → m_law_is_less  (seP d) (envP ds 0)) : FnD P w K mg base "_law_is_less" 1 (spP K 2 g) := by
  refine fnP (k := 0) F sc_law_is_less hb hm (fun cdv A outer s H E hr => ?_) law
  have hu := hu64 hr
  have hu1 := hu1G hr
  have nd := sc_law_is_less.nd
  exact ⟨_, (ss_one (ss_ret (mm_pf (pf_cmp (o_lt hu) (PF.pp (pf_op o_mul (pp_ix (pv' 0) (PF.pp pk_int)) (pp_ix (pv' 1) (PF.pp pk_int)))) (PF.pp (pf_op o_mul (pp_ix (pv' 1) (PF.pp pk_int)) (pp_ix (pv' 0) (PF.pp pk_int))))))))⟩
abbrev N_check_reading : List Str := ["readings", "one"]
theorem sc_check_reading : FnScope N_check_reading ["readings"] (defScope s_check_reading) := ⟨rfl, rfl, rfl, by decide +kernel, rfl, by decide +kernel, by decide +kernel⟩
noncomputable def m_check_reading (g_is_within : List D → Option D) : FS := (sIf (mT (bNot (tst (eCall gAll (aCons (eLc [1] (iSelf (eVar 0)) (bName 1) bTrue (eFn 3 g_is_within (aCons (eVar 1) (aCons (eC (.int 0)) (aCons (eC (.int 999999999)) aNil))))) aNil))))) sNever sNext)
theorem F_check_reading {f : Addr} {fd : FuncData} (F : Fun K "check_reading" "check_reading" s_check_reading f fd) (hm : mg "check_reading" = some (.ref f)) (z_all : mg "all" = none) {t_MOST_odometers : Tok} (k_MOST_odometers : mg "MOST_odometers" = some (.int 999999999 t_MOST_odometers)) {g_is_within : List D → Option D} (F_is_within : FnD P w K mg base "is_within" 2 (spP K 3 g_is_within)) (hb : ∀ (dV kV doc pm cdv ct : Value) (an : Option Addr) (us rest : List Value), us.length = ([] : List Str).length → bindArgs (PySem.W.fnOf "check_reading" "check_reading" (defArgs s_check_reading) (defBody s_check_reading) (defScope s_check_reading) .none kV doc pm an cdv ct) ⟨us ++ rest, []⟩ = (newTuple rest >>= fun t => pure (([] : List Str).zip us ++ [(("readings" : Str), t)])))
    {g : List D → Option D} {n : Nat} (hn : 0 ≤ n ∧ n ≤ 1000) (law : ∀ ds d, ds.length = 1 → g ds = some d → m_check_reading g_is_within (seP d) (envP ds 1)) : FnD P w K mg base "check_reading" 3 (spP K n (gStar 0 g)) := by
  refine fnS (k := 2) (ps := ([] : List Str)) hn F sc_check_reading hm hb (fun cdv A outer s H E hr => ?_) law
  have hu := hu64 hr
  have hu1 := hu1G hr
  have nd := sc_check_reading.nd
  exact ⟨_, (ss_one (ss_if (mt_pt (tt_not (tt_val (PF.pp (pf_cb (c_all) z_all (ar_cons (PF.pp (pf_lc (own := [("one", 1)]) nd (pi_self (pv' 0)) (blkOk_by (own := [("one", 1)]) (N := N_check_reading) (sc := defScope s_check_reading) (by decide +kernel)) (fun _ _ _ _ _ => (gt_name 1 nd)) (fun _ _ _ _ _ => ts_nil) (fun _ _ _ _ _ => (pf_fn F_is_within (hr.mono (by decide)) (ar_cons (pv' 1) (ar_cons (PF.pp pk_int) (ar_cons (PF.pp (pf_glob k_MOST_odometers)) ar_nil))))))) ar_nil)))))) (ss_one ss_never) ss_nil))⟩
abbrev N_turned_between : List Str := ["one", "other", "found", "power", "wheel"]
theorem sc_turned_between : FnScope N_turned_between ["one", "other"] (defScope s_turned_between) := ⟨rfl, rfl, rfl, by decide +kernel, rfl, by decide +kernel, by decide +kernel⟩
noncomputable def m_turned_between (g_check_reading : List D → Option D) : FS := (sSeq (sExpr (mP (eFn 2 g_check_reading (aCons (eVar 0) (aCons (eVar 1) aNil)))))
  (sSeq (sIf (mT (tst (e2 cmpGt (eVar 0) (eVar 1)))) sNever sNext)
  (sSeq (sAsg (bTup (bCons (mbName 2) (bCons (mbName 3) bNil))) (mP (eTup (aCons (eC (.int 0)) (aCons (eC (.int 1)) aNil)))))
  (sSeq (sFor (miOf giRg1 (maCons (mP (eC (.int 9))) maNil)) (bbName 4) (sSeq (sAug 2 gAddI (mP (e2 gSub (e2 gFdiv (eVar 1) (eVar 3)) (e2 gFdiv (eVar 0) (eVar 3)))))
  (sSet 3 (mP (e2 gMul (eC (.int 10)) (eVar 3))))))
  (sRet (mVar 2))))))
theorem F_turned_between {f : Addr} {fd : FuncData} (F : Fun K "turned_between" "turned_between" s_turned_between f fd) (hb : L2.Binds K fd ["one", "other"] []) (hm : mg "turned_between" = some (.ref f)) (z_range : mg "range" = none) {g_check_reading : List D → Option D} (F_check_reading : FnD P w K mg base "check_reading" 3 (spP K 2 g_check_reading))
    {g : List D → Option D} (law : ∀ ds d, ds.length = 2 → g ds = some d → m_turned_between g_check_reading (seP d) (envP ds 3)) : FnD P w K mg base "turned_between" 4 (spP K 2 g) := by
  refine fnP (k := 3) F sc_turned_between hb hm (fun cdv A outer s H E hr => ?_) law
  have hu := hu64 hr
  have hu1 := hu1G hr
  have nd := sc_turned_between.nd
  exact ⟨_, (ss_cons (ss_expr (mm_pf (pf_fn F_check_reading (hr.mono (by decide)) (ar_cons (pv' 0) (ar_cons (pv' 1) ar_nil)))))
    (ss_cons (ss_if (mt_pt (tt_cmp (o_gt hu) (pv' 0) (pv' 1))) (ss_one ss_never) ss_nil)
    (ss_cons (ss_asg (mm_pf (pf_tup (an_cons pk_int (an_cons pk_int an_nil)))) (mg_tup (mgs_cons (mg_name 2 nd) (mgs_cons (mg_name 3 nd) mgs_nil)) (bl_cons (bl_cons bl_nil))))
    (ss_cons (ss_for (mi_of (it_rg1 z_range) (ma_cons (mv_pf pk_int) ma_nil)) (bg_name 4 nd) (ss_cons (ss_aug (i := 2) nd i_add (mv_pf (pf_op o_sub (PF.pp (pf_op o_fdiv (pv' 1) (pv' 3))) (PF.pp (pf_op o_fdiv (pv' 0) (pv' 3))))))
    (ss_one (ss_set (i := 3) nd (mm_pf (pf_op o_mul (PF.pp pk_int) (pv' 3)))))))
    (ss_one (ss_ret (mm_var 2)))))))⟩
abbrev N_wheel_turns : List Str := ["one", "other", "found", "power", "wheel"]
theorem sc_wheel_turns : FnScope N_wheel_turns ["one", "other"] (defScope s_wheel_turns) := ⟨rfl, rfl, rfl, by decide +kernel, rfl, by decide +kernel, by decide +kernel⟩
noncomputable def m_wheel_turns (g_turned_between : List D → Option D) : FS := (sSeq (sExpr (mP (eFn 2 g_turned_between (aCons (eVar 0) (aCons (eVar 1) aNil)))))
  (sSeq (sPar 2 3 (mP (eLst aNil)) (mP (eC (.int 1))))
  (sSeq (sFor (miOf giRg1 (maCons (mP (eC (.int 9))) maNil)) (bbName 4) (sSeq (sExpr (mApp 2 (mP (e2 gSub (e2 gFdiv (eVar 1) (eVar 3)) (e2 gFdiv (eVar 0) (eVar 3))))))
  (sSet 3 (mP (e2 gMul (eC (.int 10)) (eVar 3))))))
  (sRet (mP (eCall gTupOf (aCons (eVar 2) aNil)))))))
theorem F_wheel_turns {f : Addr} {fd : FuncData} (F : Fun K "wheel_turns" "wheel_turns" s_wheel_turns f fd) (hb : L2.Binds K fd ["one", "other"] []) (hm : mg "wheel_turns" = some (.ref f)) (z_tuple : mg "tuple" = none) (z_range : mg "range" = none) {g_turned_between : List D → Option D} (F_turned_between : FnD P w K mg base "turned_between" 4 (spP K 2 g_turned_between))
    {g : List D → Option D} (law : ∀ ds d, ds.length = 2 → g ds = some d → m_wheel_turns g_turned_between (seP d) (envP ds 3)) : FnD P w K mg base "wheel_turns" 5 (spP K 2 g) := by
  refine fnP (k := 4) F sc_wheel_turns hb hm (fun cdv A outer s H E hr => ?_) law
  have hu := hu64 hr
  have hu1 := hu1G hr
  have nd := sc_wheel_turns.nd
  exact ⟨_, (ss_cons (ss_expr (mm_pf (pf_fn F_turned_between (hr.mono (by decide)) (ar_cons (pv' 0) (ar_cons (pv' 1) ar_nil)))))
    (ss_cons (ss_par (i := 2) (j := 3) nd (mm_pf (pf_lst an_nil)) (mm_pf pk_int))
    (ss_cons (ss_for (mi_of (it_rg1 z_range) (ma_cons (mv_pf pk_int) ma_nil)) (bg_name 4 nd) (ss_cons (ss_expr (mm_app (i := 2) (mm_pf (pf_op o_sub (PF.pp (pf_op o_fdiv (pv' 1) (pv' 3))) (PF.pp (pf_op o_fdiv (pv' 0) (pv' 3)))))))
    (ss_one (ss_set (i := 3) nd (mm_pf (pf_op o_mul (PF.pp pk_int) (pv' 3)))))))
    (ss_one (ss_ret (mm_pf (pf_ct c_tuple z_tuple (ar_cons (pv' 2) ar_nil))))))))⟩
abbrev N_plus : List Str := ["one", "other"]
theorem sc_plus : FnScope N_plus ["one", "other"] (defScope s_plus) := ⟨rfl, rfl, rfl, by decide +kernel, rfl, by decide +kernel, by decide +kernel⟩
noncomputable def m_plus (g_low : List D → Option D) : FS := (sRet (mP (eFn 2 g_low (aCons (e2 gAdd (e2 gMul (e2 gIx (eVar 0) (eC (.int 0))) (e2 gIx (eVar 1) (eC (.int 1)))) (e2 gMul (e2 gIx (eVar 1) (eC (.int 0))) (e2 gIx (eVar 0) (eC (.int 1))))) (aCons (e2 gMul (e2 gIx (eVar 0) (eC (.int 1))) (e2 gIx (eVar 1) (eC (.int 1)))) aNil)))))
theorem F_plus {f : Addr} {fd : FuncData} (F : Fun K "plus" "plus" s_plus f fd) (hb : L2.Binds K fd ["one", "other"] []) (hm : mg "plus" = some (.ref f)) {g_low : List D → Option D} (F_low : FnD P w K mg base "low" 2 (spP K 2 g_low))
    {g : List D → Option D} (law : ∀ ds d, ds.length = 2 → g ds = some d → m_plus g_low (seP d) (envP ds 0)) : FnD P w K mg base "plus" 3 (spP K 2 g) := by
  refine fnP (k := 2) F sc_plus hb hm (fun cdv A outer s H E hr => ?_) law
  have hu := hu64 hr
  have hu1 := hu1G hr
  have nd := sc_plus.nd
  exact ⟨_, (ss_one (ss_ret (mm_pf (pf_fn F_low (hr.mono (by decide)) (ar_cons (PF.pp (pf_op o_add (PF.pp (pf_op o_mul (pp_ix (pv' 0) (PF.pp pk_int)) (pp_ix (pv' 1) (PF.pp pk_int)))) (PF.pp (pf_op o_mul (pp_ix (pv' 1) (PF.pp pk_int)) (pp_ix (pv' 0) (PF.pp pk_int)))))) (ar_cons (PF.pp (pf_op o_mul (pp_ix (pv' 0) (PF.pp pk_int)) (pp_ix (pv' 1) (PF.pp pk_int)))) ar_nil))))))⟩
abbrev N_sum_of : List Str := ["some", "found", "one"]
theorem sc_sum_of : FnScope N_sum_of ["some"] (defScope s_sum_of) := ⟨rfl, rfl, rfl, by decide +kernel, rfl, by decide +kernel, by decide +kernel⟩
noncomputable def m_sum_of (g_plus : List D → Option D) : FS := (sSeq (sSet 1 (mP (eTup (aCons (eC (.int 0)) (aCons (eC (.int 1)) aNil)))))
  (sSeq (sFor (miSelf (mLend 0)) (bbName 2) (sSet 1 (mP (eFn 2 g_plus (aCons (eVar 1) (aCons (eVar 2) aNil))))))
  (sRet (mVar 1))))
theorem F_sum_of {f : Addr} {fd : FuncData} (F : Fun K "sum_of" "sum_of" s_sum_of f fd) (hb : L2.Binds K fd ["some"] []) (hm : mg "sum_of" = some (.ref f)) {g_plus : List D → Option D} (F_plus : FnD P w K mg base "plus" 3 (spP K 2 g_plus))
    {g : List D → Option D} (law : ∀ ds d, ds.length = 1 → g ds = some d → m_sum_of g_plus (seP d) (envP ds 2)) : FnD P w K mg base "sum_of" 4 (spP K 1 g) := by
  refine fnP (k := 3) F sc_sum_of hb hm (fun cdv A outer s H E hr => ?_) law
  have hu := hu64 hr
  have hu1 := hu1G hr
  have nd := sc_sum_of.nd
  exact ⟨_, (ss_cons (ss_set (i := 1) nd (mm_pf (pf_tup (an_cons pk_int (an_cons pk_int an_nil)))))
    (ss_cons (ss_for (mi_self (mv_var 0)) (bg_name 2 nd) (ss_one (ss_set (i := 1) nd (mm_pf (pf_fn F_plus (hr.mono (by decide)) (ar_cons (pv' 1) (ar_cons (pv' 2) ar_nil)))))))
    (ss_one (ss_ret (mm_var 1)))))⟩
abbrev N_trip_time : List Str := ["trip", "part"]
theorem sc_trip_time : FnScope N_trip_time ["trip"] (defScope s_trip_time) := ⟨rfl, rfl, rfl, by decide +kernel, rfl, by decide +kernel, by decide +kernel⟩
noncomputable def m_trip_time (g_sum_of : List D → Option D) (g_low : List D → Option D) (g_is_trip : List D → Option D) : FS := (sSeq (sIf (mT (bNot (tst (eFn 1 g_is_trip (aCons (eVar 0) aNil))))) sNever sNext)
  (sRet (mP (eFn 1 g_sum_of (aCons (eLc [1] (iSelf (eVar 0)) (bName 1) bTrue (eFn 2 g_low (aCons (e2 gIx (eVar 1) (eC (.int 0))) (aCons (e2 gIx (eVar 1) (eC (.int 1))) aNil)))) aNil)))))
theorem F_trip_time {f : Addr} {fd : FuncData} (F : Fun K "trip_time" "trip_time" s_trip_time f fd) (hb : L2.Binds K fd ["trip"] []) (hm : mg "trip_time" = some (.ref f)) {g_sum_of : List D → Option D} (F_sum_of : FnD P w K mg base "sum_of" 4 (spP K 1 g_sum_of)) {g_low : List D → Option D} (F_low : FnD P w K mg base "low" 2 (spP K 2 g_low)) {g_is_trip : List D → Option D} (F_is_trip : FnD P w K mg base "is_trip" 4 (spP K 1 g_is_trip))
    {g : List D → Option D} (law : ∀ ds d, ds.length = 1 → g ds = some d → m_trip_time g_sum_of g_low g_is_trip (seP d) (envP ds 1)) : FnD P w K mg base "trip_time" 5 (spP K 1 g) := by
  refine fnP (k := 4) F sc_trip_time hb hm (fun cdv A outer s H E hr => ?_) law
  have hu := hu64 hr
  have hu1 := hu1G hr
  have nd := sc_trip_time.nd
  exact ⟨_, (ss_cons (ss_if (mt_pt (tt_not (tt_val (PF.pp (pf_fn F_is_trip (hr.mono (by decide)) (ar_cons (pv' 0) ar_nil)))))) (ss_one ss_never) ss_nil)
    (ss_one (ss_ret (mm_pf (pf_fn F_sum_of (hr.mono (by decide)) (ar_cons (PF.pp (pf_lc (own := [("part", 1)]) nd (pi_self (pv' 0)) (blkOk_by (own := [("part", 1)]) (N := N_trip_time) (sc := defScope s_trip_time) (by decide +kernel)) (fun _ _ _ _ _ => (gt_name 1 nd)) (fun _ _ _ _ _ => ts_nil) (fun _ _ _ _ _ => (pf_fn F_low (hr.mono (by decide)) (ar_cons (pp_ix (pv' 1) (PF.pp pk_int)) (ar_cons (pp_ix (pv' 1) (PF.pp pk_int)) ar_nil)))))) ar_nil))))))⟩
abbrev N_law_plus : List Str := ["one", "other"]
theorem sc_law_plus : FnScope N_law_plus ["one", "other"] (defScope s_law_plus) := ⟨rfl, rfl, rfl, by decide +kernel, rfl, by decide +kernel, by decide +kernel⟩
noncomputable def m_law_plus (g_law_low : List D → Option D) : FS := (sRet (mP (eFn 2 g_law_low (aCons (e2 gAdd (e2 gMul (e2 gIx (eVar 0) (eC (.int 0))) (e2 gIx (eVar 1) (eC (.int 1)))) (e2 gMul (e2 gIx (eVar 1) (eC (.int 0))) (e2 gIx (eVar 0) (eC (.int 1))))) (aCons (e2 gMul (e2 gIx (eVar 0) (eC (.int 1))) (e2 gIx (eVar 1) (eC (.int 1)))) aNil)))))
theorem F_law_plus {f : Addr} {fd : FuncData} (F : Fun K "_law_plus" "_law_plus" s_law_plus f fd) (hb : L2.Binds K fd ["one", "other"] []) (hm : mg "_law_plus" = some (.ref f)) {g_law_low : List D → Option D} (F_law_low : FnD P w K mg base "_law_low" 1 (spP K 2 g_law_low))
    {g : List D → Option D} (law : ∀ ds d, ds.length = 2 → g ds = some d → m_law_plus g_law_low (seP d) (envP ds 0)) : FnD P w K mg base "_law_plus" 2 (spP K 2 g) := by
  refine fnP (k := 1) F sc_law_plus hb hm (fun cdv A outer s H E hr => ?_) law
  have hu := hu64 hr
  have hu1 := hu1G hr
  have nd := sc_law_plus.nd
  exact ⟨_, (ss_one (ss_ret (mm_pf (pf_fn F_law_low (hr.mono (by decide)) (ar_cons (PF.pp (pf_op o_add (PF.pp (pf_op o_mul (pp_ix (pv' 0) (PF.pp pk_int)) (pp_ix (pv' 1) (PF.pp pk_int)))) (PF.pp (pf_op o_mul (pp_ix (pv' 1) (PF.pp pk_int)) (pp_ix (pv' 0) (PF.pp pk_int)))))) (ar_cons (PF.pp (pf_op o_mul (pp_ix (pv' 0) (PF.pp pk_int)) (pp_ix (pv' 1) (PF.pp pk_int)))) ar_nil))))))⟩
abbrev N_law_sum : List Str := ["some", "found", "one"]
theorem sc_law_sum : FnScope N_law_sum ["some"] (defScope s_law_sum) := ⟨rfl, rfl, rfl, by decide +kernel, rfl, by decide +kernel, by decide +kernel⟩
noncomputable def m_law_sum (g_law_plus : List D → Option D) : FS := (sSeq (sSet 1 (mP (eTup (aCons (eC (.int 0)) (aCons (eC (.int 1)) aNil)))))
  (sSeq (sFor (miSelf (mLend 0)) (bbName 2) (sSet 1 (mP (eFn 2 g_law_plus (aCons (eVar 1) (aCons (eVar 2) aNil))))))
  (sRet (mVar 1))))
theorem F_law_sum {f : Addr} {fd : FuncData} (F : Fun K "_law_sum" "_law_sum" s_law_sum f fd) (hb : L2.Binds K fd ["some"] []) (hm : mg "_law_sum" = some (.ref f)) {g_law_plus : List D → Option D} (F_law_plus : FnD P w K mg base "_law_plus" 2 (spP K 2 g_law_plus))
    {g : List D → Option D} (law : ∀ ds d, ds.length = 1 → g ds = some d → m_law_sum g_law_plus (seP d) (envP ds 2)) : FnD P w K mg base "_law_sum" 3 (spP K 1 g) := by
  refine fnP (k := 2) F sc_law_sum hb hm (fun cdv A outer s H E hr => ?_) law
  have hu := hu64 hr
  have hu1 := hu1G hr
  have nd := sc_law_sum.nd
  exact ⟨_, (ss_cons (ss_set (i := 1) nd (mm_pf (pf_tup (an_cons pk_int (an_cons pk_int an_nil)))))
    (ss_cons (ss_for (mi_self (mv_var 0)) (bg_name 2 nd) (ss_one (ss_set (i := 1) nd (mm_pf (pf_fn F_law_plus (hr.mono (by decide)) (ar_cons (pv' 1) (ar_cons (pv' 2) ar_nil)))))))
    (ss_one (ss_ret (mm_var 1)))))⟩
abbrev N_check_gearbox : List Str := ["box"]
theorem sc_check_gearbox : FnScope N_check_gearbox ["box"] (defScope s_check_gearbox) := ⟨rfl, rfl, rfl, by decide +kernel, rfl, by decide +kernel, by decide +kernel⟩
noncomputable def m_check_gearbox (g_is_gearbox : List D → Option D) : FS := (sIf (mT (bNot (tst (eFn 1 g_is_gearbox (aCons (eVar 0) aNil))))) sNever sNext)
theorem F_check_gearbox {f : Addr} {fd : FuncData} (F : Fun K "check_gearbox" "check_gearbox" s_check_gearbox f fd) (hb : L2.Binds K fd ["box"] []) (hm : mg "check_gearbox" = some (.ref f)) {g_is_gearbox : List D → Option D} (F_is_gearbox : FnD P w K mg base "is_gearbox" 4 (spP K 1 g_is_gearbox))
    {g : List D → Option D} (law : ∀ ds d, ds.length = 1 → g ds = some d → m_check_gearbox g_is_gearbox (seP d) (envP ds 0)) : FnD P w K mg base "check_gearbox" 5 (spP K 1 g) := by
  refine fnP (k := 4) F sc_check_gearbox hb hm (fun cdv A outer s H E hr => ?_) law
  have hu := hu64 hr
  have hu1 := hu1G hr
  have nd := sc_check_gearbox.nd
  exact ⟨_, (ss_one (ss_if (mt_pt (tt_not (tt_val (PF.pp (pf_fn F_is_gearbox (hr.mono (by decide)) (ar_cons (pv' 0) ar_nil)))))) (ss_one ss_never) ss_nil))⟩
abbrev N_check_both : List Str := ["box", "engine"]
theorem sc_check_both : FnScope N_check_both ["box", "engine"] (defScope s_check_both) := ⟨rfl, rfl, rfl, by decide +kernel, rfl, by decide +kernel, by decide +kernel⟩
noncomputable def m_check_both (g_is_engine : List D → Option D) (g_check_gearbox : List D → Option D) : FS := (sSeq (sExpr (mP (eFn 1 g_check_gearbox (aCons (eVar 0) aNil))))
  (sIf (mT (bNot (tst (eFn 1 g_is_engine (aCons (eVar 1) aNil))))) sNever sNext))
theorem F_check_both {f : Addr} {fd : FuncData} (F : Fun K "check_both" "check_both" s_check_both f fd) (hb : L2.Binds K fd ["box", "engine"] []) (hm : mg "check_both" = some (.ref f)) {g_is_engine : List D → Option D} (F_is_engine : FnD P w K mg base "is_engine" 3 (spP K 1 g_is_engine)) {g_check_gearbox : List D → Option D} (F_check_gearbox : FnD P w K mg base "check_gearbox" 5 (spP K 1 g_check_gearbox))
    {g : List D → Option D} (law : ∀ ds d, ds.length = 2 → g ds = some d → m_check_both g_is_engine g_check_gearbox (seP d) (envP ds 0)) : FnD P w K mg base "check_both" 6 (spP K 2 g) := by
  refine fnP (k := 5) F sc_check_both hb hm (fun cdv A outer s H E hr => ?_) law
  have hu := hu64 hr
  have hu1 := hu1G hr
  have nd := sc_check_both.nd
  exact ⟨_, (ss_cons (ss_expr (mm_pf (pf_fn F_check_gearbox (hr.mono (by decide)) (ar_cons (pv' 0) ar_nil))))
    (ss_one (ss_if (mt_pt (tt_not (tt_val (PF.pp (pf_fn F_is_engine (hr.mono (by decide)) (ar_cons (pv' 1) ar_nil)))))) (ss_one ss_never) ss_nil)))⟩
abbrev N_is_speed : List Str := ["thing"]
theorem sc_is_speed : FnScope N_is_speed ["thing"] (defScope s_is_speed) := ⟨rfl, rfl, rfl, by decide +kernel, rfl, by decide +kernel, by decide +kernel⟩
noncomputable def m_is_speed (g_is_fraction : List D → Option D) : FS := (sRet (mP (eAnd (eFn 1 g_is_fraction (aCons (eVar 0) aNil)) (eAnd (eChain cmpLe cmpLe (eC (.int 0)) (e2 gIx (eVar 0) (eC (.int 0))) (e2 gPow (eC (.int 10)) (eC (.int 6)))) (e2 cmpLe (e2 gIx (eVar 0) (eC (.int 1))) (eC (.int 10000)))))))
theorem F_is_speed {f : Addr} {fd : FuncData} (F : Fun K "is_speed" "is_speed" s_is_speed f fd) (hb : L2.Binds K fd ["thing"] []) (hm : mg "is_speed" = some (.ref f)) {t_MOST_gearboxes : Tok} (k_MOST_gearboxes : mg "MOST_gearboxes" = some (.int 10000 t_MOST_gearboxes)) {g_is_fraction : List D → Option D} (F_is_fraction : FnD P w K mg base "is_fraction" 2 (spP K 1 g_is_fraction))
    {g : List D → Option D} (law : ∀ ds d, ds.length = 1 → g ds = some d → m_is_speed g_is_fraction (seP d) (envP ds 0)) : FnD P w K mg base "is_speed" 3 (spP K 1 g) := by
  refine fnP (k := 2) F sc_is_speed hb hm (fun cdv A outer s H E hr => ?_) law
  have hu := hu64 hr
  have hu1 := hu1G hr
  have nd := sc_is_speed.nd
  exact ⟨_, (ss_one (ss_ret (mm_pf (pf_and (PF.pp (pf_fn F_is_fraction (hr.mono (by decide)) (ar_cons (pv' 0) ar_nil))) (pf_and (PF.pp (pf_chain (o_le hu) (o_le hu) (PF.pp pk_int) (pp_ix (pv' 0) (PF.pp pk_int)) (PF.pp (pf_op o_pow (PF.pp pk_int) (PF.pp pk_int))))) (pf_one (pf_cmp (o_le hu) (pp_ix (pv' 0) (PF.pp pk_int)) (PF.pp (pf_glob k_MOST_gearboxes)))))))))⟩
abbrev N_wheel_pulls_gearboxes : List Str := ["box", "engine", "wheel"]
theorem sc_wheel_pulls_gearboxes : FnScope N_wheel_pulls_gearboxes ["box", "engine", "wheel"] (defScope s_wheel_pulls_gearboxes) := ⟨rfl, rfl, rfl, by decide +kernel, rfl, by decide +kernel, by decide +kernel⟩
noncomputable def m_wheel_pulls_gearboxes (g_pulls_of : List D → Option D) (g_is_speed : List D → Option D) (g_check_both : List D → Option D) : FS := (sSeq (sExpr (mP (eFn 2 g_check_both (aCons (eVar 0) (aCons (eVar 1) aNil)))))
  (sSeq (sIf (mT (bNot (tst (eFn 1 g_is_speed (aCons (eVar 2) aNil))))) sNever sNext)
  (sRet (mP (eFn 3 g_pulls_of (aCons (eVar 0) (aCons (eVar 1) (aCons (eVar 2) aNil))))))))
theorem F_wheel_pulls_gearboxes {f : Addr} {fd : FuncData} (F : Fun K "wheel_pulls" "wheel_pulls" s_wheel_pulls_gearboxes f fd) (hb : L2.Binds K fd ["box", "engine", "wheel"] []) (hm : mg "wheel_pulls_gearboxes" = some (.ref f)) {g_pulls_of : List D → Option D} (F_pulls_of : FnD P w K mg base "pulls_of" 4 (spP K 3 g_pulls_of)) {g_is_speed : List D → Option D} (F_is_speed : FnD P w K mg base "is_speed" 3 (spP K 1 g_is_speed)) {g_check_both : List D → Option D} (F_check_both : FnD P w K mg base "check_both" 6 (spP K 2 g_check_both))
    {g : List D → Option D} (law : ∀ ds d, ds.length = 3 → g ds = some d → m_wheel_pulls_gearboxes g_pulls_of g_is_speed g_check_both (seP d) (envP ds 0)) : FnD P w K mg base "wheel_pulls_gearboxes" 7 (spP K 3 g) := by
  refine fnP (k := 6) F sc_wheel_pulls_gearboxes hb hm (fun cdv A outer s H E hr => ?_) law
  have hu := hu64 hr
  have hu1 := hu1G hr
  have nd := sc_wheel_pulls_gearboxes.nd
  exact ⟨_, (ss_cons (ss_expr (mm_pf (pf_fn F_check_both (hr.mono (by decide)) (ar_cons (pv' 0) (ar_cons (pv' 1) ar_nil)))))
    (ss_cons (ss_if (mt_pt (tt_not (tt_val (PF.pp (pf_fn F_is_speed (hr.mono (by decide)) (ar_cons (pv' 2) ar_nil)))))) (ss_one ss_never) ss_nil)
    (ss_one (ss_ret (mm_pf (pf_fn F_pulls_of (hr.mono (by decide)) (ar_cons (pv' 0) (ar_cons (pv' 1) (ar_cons (pv' 2) ar_nil)))))))))⟩
abbrev N_check_speed : List Str := ["box", "gear", "speed"]
theorem sc_check_speed : FnScope N_check_speed ["box", "gear", "speed"] (defScope s_check_speed) := ⟨rfl, rfl, rfl, by decide +kernel, rfl, by decide +kernel, by decide +kernel⟩
noncomputable def m_check_speed (g_is_speed : List D → Option D) (g_is_within : List D → Option D) (g_check_gearbox : List D → Option D) : FS := (sSeq (sExpr (mP (eFn 1 g_check_gearbox (aCons (eVar 0) aNil))))
  (sSeq (sIf (mT (bNot (tst (eFn 3 g_is_within (aCons (eVar 1) (aCons (eC (.int 0)) (aCons (e2 gSub (eCall gLen (aCons (eVar 0) aNil)) (eC (.int 1))) aNil))))))) sNever sNext)
  (sIf (mT (bNot (tst (eFn 1 g_is_speed (aCons (eVar 2) aNil))))) sNever sNext)))
theorem F_check_speed {f : Addr} {fd : FuncData} (F : Fun K "check_speed" "check_speed" s_check_speed f fd) (hb : L2.Binds K fd ["box", "gear", "speed"] []) (hm : mg "check_speed" = some (.ref f)) (z_len : mg "len" = none) {g_is_speed : List D → Option D} (F_is_speed : FnD P w K mg base "is_speed" 3 (spP K 1 g_is_speed)) {g_is_within : List D → Option D} (F_is_within : FnD P w K mg base "is_within" 2 (spP K 3 g_is_within)) {g_check_gearbox : List D → Option D} (F_check_gearbox : FnD P w K mg base "check_gearbox" 5 (spP K 1 g_check_gearbox))
    {g : List D → Option D} (law : ∀ ds d, ds.length = 3 → g ds = some d → m_check_speed g_is_speed g_is_within g_check_gearbox (seP d) (envP ds 0)) : FnD P w K mg base "check_speed" 6 (spP K 3 g) := by
  refine fnP (k := 5) F sc_check_speed hb hm (fun cdv A outer s H E hr => ?_) law
  have hu := hu64 hr
  have hu1 := hu1G hr
  have nd := sc_check_speed.nd
  exact ⟨_, (ss_cons (ss_expr (mm_pf (pf_fn F_check_gearbox (hr.mono (by decide)) (ar_cons (pv' 0) ar_nil))))
    (ss_cons (ss_if (mt_pt (tt_not (tt_val (PF.pp (pf_fn F_is_within (hr.mono (by decide)) (ar_cons (pv' 1) (ar_cons (PF.pp pk_int) (ar_cons (PF.pp (pf_op o_sub (PF.pp (pf_cb (c_len) z_len (ar_cons (pv' 0) ar_nil))) (PF.pp pk_int))) ar_nil)))))))) (ss_one ss_never) ss_nil)
    (ss_one (ss_if (mt_pt (tt_not (tt_val (PF.pp (pf_fn F_is_speed (hr.mono (by decide)) (ar_cons (pv' 2) ar_nil)))))) (ss_one ss_never) ss_nil))))⟩
abbrev N_revs_at : List Str := ["box", "gear", "wheel"]
theorem sc_revs_at : FnScope N_revs_at ["box", "gear", "wheel"] (defScope s_revs_at) := ⟨rfl, rfl, rfl, by decide +kernel, rfl, by decide +kernel, by decide +kernel⟩
noncomputable def m_revs_at (g_times : List D → Option D) (g_check_speed : List D → Option D) : FS := (sSeq (sExpr (mP (eFn 3 g_check_speed (aCons (eVar 0) (aCons (eVar 1) (aCons (eVar 2) aNil))))))
  (sRet (mP (eFn 2 g_times (aCons (e2 gIx (eVar 0) (eVar 1)) (aCons (eVar 2) aNil))))))
theorem F_revs_at {f : Addr} {fd : FuncData} (F : Fun K "revs_at" "revs_at" s_revs_at f fd) (hb : L2.Binds K fd ["box", "gear", "wheel"] []) (hm : mg "revs_at" = some (.ref f)) {g_times : List D → Option D} (F_times : FnD P w K mg base "times" 3 (spP K 2 g_times)) {g_check_speed : List D → Option D} (F_check_speed : FnD P w K mg base "check_speed" 6 (spP K 3 g_check_speed))
    {g : List D → Option D} (law : ∀ ds d, ds.length = 3 → g ds = some d → m_revs_at g_times g_check_speed (seP d) (envP ds 0)) : FnD P w K mg base "revs_at" 7 (spP K 3 g) := by
  refine fnP (k := 6) F sc_revs_at hb hm (fun cdv A outer s H E hr => ?_) law
  have hu := hu64 hr
  have hu1 := hu1G hr
  have nd := sc_revs_at.nd
  exact ⟨_, (ss_cons (ss_expr (mm_pf (pf_fn F_check_speed (hr.mono (by decide)) (ar_cons (pv' 0) (ar_cons (pv' 1) (ar_cons (pv' 2) ar_nil))))))
    (ss_one (ss_ret (mm_pf (pf_fn F_times (hr.mono (by decide)) (ar_cons (pp_ix (pv' 0) (pv' 1)) (ar_cons (pv' 2) ar_nil)))))))⟩
abbrev N_top_speed : List Str := ["drive", "load", "some", "speed"]
theorem sc_top_speed : FnScope N_top_speed ["drive", "load"] (defScope s_top_speed) := ⟨rfl, rfl, rfl, by decide +kernel, rfl, by decide +kernel, by decide +kernel⟩
noncomputable def m_top_speed (g_gears_good : List D → Option D) (g_is_within : List D → Option D) (g_is_drive : List D → Option D) : FS := (sSeq (sIf (mT (bNot (tst (eFn 1 g_is_drive (aCons (eVar 0) aNil))))) sNever sNext)
  (sSeq (sIf (mT (bNot (tst (eFn 3 g_is_within (aCons (eVar 1) (aCons (eC (.int 0)) (aCons (e2 gPow (eC (.int 10)) (eC (.int 4))) aNil))))))) sNever sNext)
  (sSeq (sSet 2 (mP (eLc [3] (iOf giRg2 (aCons (eC (.int 1)) (aCons (eC (.int 101)) aNil))) (bName 3) (tst (e2 cmpNe (eFn 2 g_gears_good (aCons (eVar 0) (aCons (eTup (aCons (eC (.int 1)) (aCons (eFrz (eVar 3)) (aCons (eFrz (eVar 1)) aNil)))) aNil))) (eLst aNil))) (eFrz (eVar 3)))))
  (sRet (mP (eIf (tst (e2 cmpNe (eVar 2) (eLst aNil))) (eFrz (e2 gIx (eVar 2) (e1 gNeg (eC (.int 1))))) (eC .none)))))))
theorem F_top_speed {f : Addr} {fd : FuncData} (F : Fun K "top_speed" "top_speed" s_top_speed f fd) (hb : L2.Binds K fd ["drive", "load"] []) (hm : mg "top_speed" = some (.ref f)) (z_range : mg "range" = none) {g_gears_good : List D → Option D} (F_gears_good : FnD P w K mg base "gears_good" 7 (spP K 2 g_gears_good)) {g_is_within : List D → Option D} (F_is_within : FnD P w K mg base "is_within" 2 (spP K 3 g_is_within)) {g_is_drive : List D → Option D} (F_is_drive : FnD P w K mg base "is_drive" 5 (spP K 1 g_is_drive))
    {g : List D → Option D} (law : ∀ ds d, ds.length = 2 → g ds = some d → m_top_speed g_gears_good g_is_within g_is_drive (seP d) (envP ds 2)) : FnD P w K mg base "top_speed" 8 (spP K 2 g) := by
  refine fnP (k := 7) F sc_top_speed hb hm (fun cdv A outer s H E hr => ?_) law
  have hu := hu64 hr
  have hu1 := hu1G hr
  have nd := sc_top_speed.nd
  exact ⟨_, (ss_cons (ss_if (mt_pt (tt_not (tt_val (PF.pp (pf_fn F_is_drive (hr.mono (by decide)) (ar_cons (pv' 0) ar_nil)))))) (ss_one ss_never) ss_nil)
    (ss_cons (ss_if (mt_pt (tt_not (tt_val (PF.pp (pf_fn F_is_within (hr.mono (by decide)) (ar_cons (pv' 1) (ar_cons (PF.pp pk_int) (ar_cons (PF.pp (pf_op o_pow (PF.pp pk_int) (PF.pp pk_int))) ar_nil)))))))) (ss_one ss_never) ss_nil)
    (ss_cons (ss_setLc (i := 2) (own := [("speed", 3)]) nd (pi_of (it_rg2 z_range) (ar_cons (PF.pp pk_int) (ar_cons (PF.pp pk_int) ar_nil))) (blkOk_by (own := [("speed", 3)]) (N := N_top_speed) (sc := defScope s_top_speed) (by decide +kernel)) (fun _ _ _ _ _ => (gt_name 3 nd)) (fun _ _ _ _ _ => (ts_one (tt_cmp (o_ne hu) (PF.pp (pf_fn F_gears_good (hr.mono (by decide)) (ar_cons (pv' 0) (ar_cons (PF.pp (pf_tup (an_cons pk_int (an_cons (PP.frz (pv' 3)) (an_cons (PP.frz (pv' 1)) an_nil))))) ar_nil)))) (PF.pp (pf_lst an_nil))))) (fun _ _ _ _ _ => (PP.frz (pv' 3))) (sw_true rfl rfl rfl (by decide +kernel)))
    (ss_one (ss_ret (mm_pf (pf_if (tt_cmp (o_ne hu) (pv' 2) (PF.pp (pf_lst an_nil))) (PP.frz (pp_ix (pv' 2) (PF.pp (pf_un o_neg (PF.pp pk_int))))) pk_non)))))))⟩
abbrev N_odometer_after : List Str := ["reading", "trip", "part"]
theorem sc_odometer_after : FnScope N_odometer_after ["reading", "trip"] (defScope s_odometer_after) := ⟨rfl, rfl, rfl, by decide +kernel, rfl, by decide +kernel, by decide +kernel⟩
noncomputable def m_odometer_after (g_is_within : List D → Option D) (g_is_trip : List D → Option D) : FS := (sSeq (sIf (mT (bOr (bNot (tst (eFn 1 g_is_trip (aCons (eVar 1) aNil)))) (bNot (tst (eFn 3 g_is_within (aCons (eVar 0) (aCons (eC (.int 0)) (aCons (e2 gPow (eC (.int 10)) (eC (.int 6))) aNil)))))))) sNever sNext)
  (sRet (mP (e2 gAdd (eVar 0) (e2 gFdiv (eCall gSum (aCons (eLc [2] (iSelf (eVar 1)) (bName 2) bTrue (eFrz (e2 gIx (eVar 2) (eC (.int 0))))) aNil)) (eC (.int 1000)))))))
theorem F_odometer_after {f : Addr} {fd : FuncData} (F : Fun K "odometer_after" "odometer_after" s_odometer_after f fd) (hb : L2.Binds K fd ["reading", "trip"] []) (hm : mg "odometer_after" = some (.ref f)) (z_sum : mg "sum" = none) {g_is_within : List D → Option D} (F_is_within : FnD P w K mg base "is_within" 2 (spP K 3 g_is_within)) {g_is_trip : List D → Option D} (F_is_trip : FnD P w K mg base "is_trip" 4 (spP K 1 g_is_trip))
    {g : List D → Option D} (law : ∀ ds d, ds.length = 2 → g ds = some d → m_odometer_after g_is_within g_is_trip (seP d) (envP ds 1)) : FnD P w K mg base "odometer_after" 5 (spP K 2 g) := by
  refine fnP (k := 4) F sc_odometer_after hb hm (fun cdv A outer s H E hr => ?_) law
  have hu := hu64 hr
  have hu1 := hu1G hr
  have nd := sc_odometer_after.nd
  exact ⟨_, (ss_cons (ss_if (mt_pt (PWt.pt (tw_or (tt_not (tt_val (PF.pp (pf_fn F_is_trip (hr.mono (by decide)) (ar_cons (pv' 1) ar_nil))))) (tw_or1 (tt_not (tt_val (PF.pp (pf_fn F_is_within (hr.mono (by decide)) (ar_cons (pv' 0) (ar_cons (PF.pp pk_int) (ar_cons (PF.pp (pf_op o_pow (PF.pp pk_int) (PF.pp pk_int))) ar_nil))))))))))) (ss_one ss_never) ss_nil)
    (ss_one (ss_ret (mm_pf (pf_op o_add (pv' 0) (PF.pp (pf_op o_fdiv (PF.pp (pf_cb (c_sum) z_sum (ar_cons (PF.pp (pf_lc (own := [("part", 2)]) nd (pi_self (pv' 1)) (blkOk_by (own := [("part", 2)]) (N := N_odometer_after) (sc := defScope s_odometer_after) (by decide +kernel)) (fun _ _ _ _ _ => (gt_name 2 nd)) (fun _ _ _ _ _ => ts_nil) (fun _ _ _ _ _ => (PP.frz (pp_ix (pv' 2) (PF.pp pk_int)))))) ar_nil))) (PF.pp pk_int))))))))⟩
abbrev N_pull_at : List Str := ["engine", "revs"]
theorem sc_pull_at : FnScope N_pull_at ["engine", "revs"] (defScope s_pull_at) := ⟨rfl, rfl, rfl, by decide +kernel, rfl, by decide +kernel, by decide +kernel⟩
noncomputable def m_pull_at (g_pull_of : List D → Option D) (g_is_speed : List D → Option D) (g_is_engine : List D → Option D) : FS := (sSeq (sIf (mT (bNot (tst (eFn 1 g_is_engine (aCons (eVar 0) aNil))))) sNever sNext)
  (sSeq (sIf (mT (bNot (tst (eFn 1 g_is_speed (aCons (eVar 1) aNil))))) sNever sNext)
  (sRet (mP (eFn 2 g_pull_of (aCons (eVar 0) (aCons (eVar 1) aNil)))))))
theorem F_pull_at {f : Addr} {fd : FuncData} (F : Fun K "pull_at" "pull_at" s_pull_at f fd) (hb : L2.Binds K fd ["engine", "revs"] []) (hm : mg "pull_at" = some (.ref f)) {g_pull_of : List D → Option D} (F_pull_of : FnD P w K mg base "pull_of" 2 (spP K 2 g_pull_of)) {g_is_speed : List D → Option D} (F_is_speed : FnD P w K mg base "is_speed" 3 (spP K 1 g_is_speed)) {g_is_engine : List D → Option D} (F_is_engine : FnD P w K mg base "is_engine" 3 (spP K 1 g_is_engine))
    {g : List D → Option D} (law : ∀ ds d, ds.length = 2 → g ds = some d → m_pull_at g_pull_of g_is_speed g_is_engine (seP d) (envP ds 0)) : FnD P w K mg base "pull_at" 4 (spP K 2 g) := by
  refine fnP (k := 3) F sc_pull_at hb hm (fun cdv A outer s H E hr => ?_) law
  have hu := hu64 hr
  have hu1 := hu1G hr
  have nd := sc_pull_at.nd
  exact ⟨_, (ss_cons (ss_if (mt_pt (tt_not (tt_val (PF.pp (pf_fn F_is_engine (hr.mono (by decide)) (ar_cons (pv' 0) ar_nil)))))) (ss_one ss_never) ss_nil)
    (ss_cons (ss_if (mt_pt (tt_not (tt_val (PF.pp (pf_fn F_is_speed (hr.mono (by decide)) (ar_cons (pv' 1) ar_nil)))))) (ss_one ss_never) ss_nil)
    (ss_one (ss_ret (mm_pf (pf_fn F_pull_of (hr.mono (by decide)) (ar_cons (pv' 0) (ar_cons (pv' 1) ar_nil))))))))⟩
abbrev N_over : List Str := ["one", "other"]
theorem sc_over : FnScope N_over ["one", "other"] (defScope s_over) := ⟨rfl, rfl, rfl, by decide +kernel, rfl, by decide +kernel, by decide +kernel⟩
noncomputable def m_over (g_low : List D → Option D) : FS := (sRet (mP (eFn 2 g_low (aCons (e2 gMul (e2 gIx (eVar 0) (eC (.int 0))) (e2 gIx (eVar 1) (eC (.int 1)))) (aCons (e2 gMul (e2 gIx (eVar 0) (eC (.int 1))) (e2 gIx (eVar 1) (eC (.int 0)))) aNil)))))
theorem F_over {f : Addr} {fd : FuncData} (F : Fun K "over" "over" s_over f fd) (hb : L2.Binds K fd ["one", "other"] []) (hm : mg "over" = some (.ref f)) {g_low : List D → Option D} (F_low : FnD P w K mg base "low" 2 (spP K 2 g_low))
    {g : List D → Option D} (law : ∀ ds d, ds.length = 2 → g ds = some d → m_over g_low (seP d) (envP ds 0)) : FnD P w K mg base "over" 3 (spP K 2 g) := by
  refine fnP (k := 2) F sc_over hb hm (fun cdv A outer s H E hr => ?_) law
  have hu := hu64 hr
  have hu1 := hu1G hr
  have nd := sc_over.nd
  exact ⟨_, (ss_one (ss_ret (mm_pf (pf_fn F_low (hr.mono (by decide)) (ar_cons (PF.pp (pf_op o_mul (pp_ix (pv' 0) (PF.pp pk_int)) (pp_ix (pv' 1) (PF.pp pk_int)))) (ar_cons (PF.pp (pf_op o_mul (pp_ix (pv' 0) (PF.pp pk_int)) (pp_ix (pv' 1) (PF.pp pk_int)))) ar_nil))))))⟩
abbrev N_steps_of : List Str := ["box", "one", "other"]
theorem sc_steps_of : FnScope N_steps_of ["box"] (defScope s_steps_of) := ⟨rfl, rfl, rfl, by decide +kernel, rfl, by decide +kernel, by decide +kernel⟩
noncomputable def m_steps_of (g_over : List D → Option D) (g_check_gearbox : List D → Option D) : FS := (sSeq (sExpr (mP (eFn 1 g_check_gearbox (aCons (eVar 0) aNil))))
  (sRet (mP (eCall gTupOf (aCons (eLc [1, 2] (iOf giZip (aCons (eVar 0) (aCons (eSl (eVar 0) (oSome (eC (.int 1))) oNone) aNil))) (bTup (bCons (bName 1) (bCons (bName 2) bNil))) bTrue (eFn 2 g_over (aCons (eVar 1) (aCons (eVar 2) aNil)))) aNil)))))
theorem F_steps_of {f : Addr} {fd : FuncData} (F : Fun K "steps_of" "steps_of" s_steps_of f fd) (hb : L2.Binds K fd ["box"] []) (hm : mg "steps_of" = some (.ref f)) (z_zip : mg "zip" = none) (z_tuple : mg "tuple" = none) {g_over : List D → Option D} (F_over : FnD P w K mg base "over" 3 (spP K 2 g_over)) {g_check_gearbox : List D → Option D} (F_check_gearbox : FnD P w K mg base "check_gearbox" 5 (spP K 1 g_check_gearbox))
    {g : List D → Option D} (law : ∀ ds d, ds.length = 1 → g ds = some d → m_steps_of g_over g_check_gearbox (seP d) (envP ds 2)) : FnD P w K mg base "steps_of" 6 (spP K 1 g) := by
  refine fnP (k := 5) F sc_steps_of hb hm (fun cdv A outer s H E hr => ?_) law
  have hu := hu64 hr
  have hu1 := hu1G hr
  have nd := sc_steps_of.nd
  exact ⟨_, (ss_cons (ss_expr (mm_pf (pf_fn F_check_gearbox (hr.mono (by decide)) (ar_cons (pv' 0) ar_nil))))
    (ss_one (ss_ret (mm_pf (pf_ct c_tuple z_tuple (ar_cons (PF.pp (pf_lc (own := [("one", 1), ("other", 2)]) nd (pi_of (it_zip z_zip) (ar_cons (pv' 0) (ar_cons (PF.pp (pf_sl (pv' 0) (or_some (PF.pp pk_int)) or_none)) ar_nil))) (blkOk_by (own := [("one", 1), ("other", 2)]) (N := N_steps_of) (sc := defScope s_steps_of) (by decide +kernel)) (fun _ _ _ _ _ => (gt_tup (gs_cons (gt_name 1 nd) (gs_cons (gt_name 2 nd) gs_nil)) (bl_cons (bl_cons bl_nil)))) (fun _ _ _ _ _ => ts_nil) (fun _ _ _ _ _ => (pf_fn F_over (hr.mono (by decide)) (ar_cons (pv' 1) (ar_cons (pv' 2) ar_nil)))))) ar_nil))))))⟩
abbrev N_shown : List Str := ["reading", "wheels", "row"]
theorem sc_shown : FnScope N_shown ["reading", "wheels"] (defScope s_shown) := ⟨rfl, rfl, rfl, by decide +kernel, rfl, by decide +kernel, by decide +kernel⟩
noncomputable def m_shown (g_is_within : List D → Option D) (g_check_reading : List D → Option D) : FS := (sSeq (sExpr (mP (eFn 1 g_check_reading (aCons (eVar 0) aNil))))
  (sSeq (sIf (mT (bNot (tst (eFn 3 g_is_within (aCons (eVar 1) (aCons (eC (.int 1)) (aCons (eC (.int 9)) aNil))))))) sNever sNext)
  (sSeq (sSet 2 (mP (eCall gStr (aCons (eVar 0) aNil))))
  (sRet (mP (eSl (e2 gAdd (e2 gMul (eC (.str "0")) (eVar 1)) (eVar 2)) (oSome (e1 gNeg (eVar 1))) oNone))))))
theorem F_shown {f : Addr} {fd : FuncData} (F : Fun K "shown" "shown" s_shown f fd) (hb : L2.Binds K fd ["reading", "wheels"] []) (hm : mg "shown" = some (.ref f)) (z_str : mg "str" = none) {g_is_within : List D → Option D} (F_is_within : FnD P w K mg base "is_within" 2 (spP K 3 g_is_within)) {g_check_reading : List D → Option D} (F_check_reading : FnD P w K mg base "check_reading" 3 (spP K 1 g_check_reading))
    {g : List D → Option D} (law : ∀ ds d, ds.length = 2 → g ds = some d → m_shown g_is_within g_check_reading (seP d) (envP ds 1)) : FnD P w K mg base "shown" 4 (spP K 2 g) := by
  refine fnP (k := 3) F sc_shown hb hm (fun cdv A outer s H E hr => ?_) law
  have hu := hu64 hr
  have hu1 := hu1G hr
  have nd := sc_shown.nd
  exact ⟨_, (ss_cons (ss_expr (mm_pf (pf_fn F_check_reading (hr.mono (by decide)) (ar_cons (pv' 0) ar_nil))))
    (ss_cons (ss_if (mt_pt (tt_not (tt_val (PF.pp (pf_fn F_is_within (hr.mono (by decide)) (ar_cons (pv' 1) (ar_cons (PF.pp pk_int) (ar_cons (PF.pp pk_int) ar_nil)))))))) (ss_one ss_never) ss_nil)
    (ss_cons (ss_set (i := 2) nd (mm_pf (pf_ct c_str z_str (ar_cons (pv' 0) ar_nil))))
    (ss_one (ss_ret (mm_pf (pf_sl (PF.pp (pf_op o_add (PF.pp (pf_op o_mul (PF.pp pk_str) (pv' 1))) (pv' 2))) (or_some (PF.pp (pf_un o_neg (pv' 1)))) or_none)))))))⟩
abbrev N_tops_of : List Str := ["box", "engine", "ratio"]
theorem sc_tops_of : FnScope N_tops_of ["box", "engine"] (defScope s_tops_of) := ⟨rfl, rfl, rfl, by decide +kernel, rfl, by decide +kernel, by decide +kernel⟩
noncomputable def m_tops_of (g_over : List D → Option D) (g_check_both : List D → Option D) : FS := (sSeq (sExpr (mP (eFn 2 g_check_both (aCons (eVar 0) (aCons (eVar 1) aNil)))))
  (sRet (mP (eCall gTupOf (aCons (eLc [2] (iSelf (eVar 0)) (bName 2) bTrue (eFn 2 g_over (aCons (eTup (aCons (eFrz (e2 gIx (e2 gIx (eVar 1) (e1 gNeg (eC (.int 1)))) (eC (.int 0)))) (aCons (eC (.int 1)) aNil))) (aCons (eVar 2) aNil)))) aNil)))))
theorem F_tops_of {f : Addr} {fd : FuncData} (F : Fun K "tops_of" "tops_of" s_tops_of f fd) (hb : L2.Binds K fd ["box", "engine"] []) (hm : mg "tops_of" = some (.ref f)) (z_tuple : mg "tuple" = none) {g_over : List D → Option D} (F_over : FnD P w K mg base "over" 3 (spP K 2 g_over)) {g_check_both : List D → Option D} (F_check_both : FnD P w K mg base "check_both" 6 (spP K 2 g_check_both))
    {g : List D → Option D} (law : ∀ ds d, ds.length = 2 → g ds = some d → m_tops_of g_over g_check_both (seP d) (envP ds 1)) : FnD P w K mg base "tops_of" 7 (spP K 2 g) := by
  refine fnP (k := 6) F sc_tops_of hb hm (fun cdv A outer s H E hr => ?_) law
  have hu := hu64 hr
  have hu1 := hu1G hr
  have nd := sc_tops_of.nd
  exact ⟨_, (ss_cons (ss_expr (mm_pf (pf_fn F_check_both (hr.mono (by decide)) (ar_cons (pv' 0) (ar_cons (pv' 1) ar_nil)))))
    (ss_one (ss_ret (mm_pf (pf_ct c_tuple z_tuple (ar_cons (PF.pp (pf_lc (own := [("ratio", 2)]) nd (pi_self (pv' 0)) (blkOk_by (own := [("ratio", 2)]) (N := N_tops_of) (sc := defScope s_tops_of) (by decide +kernel)) (fun _ _ _ _ _ => (gt_name 2 nd)) (fun _ _ _ _ _ => ts_nil) (fun _ _ _ _ _ => (pf_fn F_over (hr.mono (by decide)) (ar_cons (PF.pp (pf_tup (an_cons (PP.frz (pp_ix (pp_ix (pv' 1) (PF.pp (pf_un o_neg (PF.pp pk_int)))) (PF.pp pk_int))) (an_cons pk_int an_nil)))) (ar_cons (pv' 2) ar_nil)))))) ar_nil))))))⟩
abbrev N_law_shaft : List Str := ["drive", "speed"]
theorem sc_law_shaft : FnScope N_law_shaft ["drive", "speed"] (defScope s_law_shaft) := ⟨rfl, rfl, rfl, by decide +kernel, rfl, by decide +kernel, by decide +kernel⟩
noncomputable def m_law_shaft (g_law_times : List D → Option D) (g_law_low : List D → Option D) : FS := (sRet (mP (eFn 2 g_law_times (aCons (eFn 2 g_law_low (aCons (e2 gMul (e2 gMul (eC (.int 60)) (eC (.int 1000))) (eVar 1)) (aCons (e2 gIx (eVar 0) (eC (.int 4))) aNil))) (aCons (eFn 2 g_law_low (aCons (e2 gIx (eVar 0) (eC (.int 1))) (aCons (e2 gIx (eVar 0) (eC (.int 0))) aNil))) aNil)))))
theorem F_law_shaft {f : Addr} {fd : FuncData} (F : Fun K "_law_shaft" "_law_shaft" s_law_shaft f fd) (hb : L2.Binds K fd ["drive", "speed"] []) (hm : mg "_law_shaft" = some (.ref f)) {g_law_times : List D → Option D} (F_law_times : FnD P w K mg base "_law_times" 2 (spP K 2 g_law_times)) {g_law_low : List D → Option D} (F_law_low : FnD P w K mg base "_law_low" 1 (spP K 2 g_law_low))
    {g : List D → Option D} (law : ∀ ds d, ds.length = 2 → g ds = some d → m_law_shaft g_law_times g_law_low (seP d) (envP ds 0)) : FnD P w K mg base "_law_shaft" 3 (spP K 2 g) := by
  refine fnP (k := 2) F sc_law_shaft hb hm (fun cdv A outer s H E hr => ?_) law
  have hu := hu64 hr
  have hu1 := hu1G hr
  have nd := sc_law_shaft.nd
  exact ⟨_, (ss_one (ss_ret (mm_pf (pf_fn F_law_times (hr.mono (by decide)) (ar_cons (PF.pp (pf_fn F_law_low (hr.mono (by decide)) (ar_cons (PF.pp (pf_op o_mul (PF.pp (pf_op o_mul (PF.pp pk_int) (PF.pp pk_int))) (pv' 1))) (ar_cons (pp_ix (pv' 0) (PF.pp pk_int)) ar_nil)))) (ar_cons (PF.pp (pf_fn F_law_low (hr.mono (by decide)) (ar_cons (pp_ix (pv' 0) (PF.pp pk_int)) (ar_cons (pp_ix (pv' 0) (PF.pp pk_int)) ar_nil)))) ar_nil))))))⟩
abbrev N_law_pulls : List Str := ["drive", "speed", "found", "ratio", "revs", "pull", "most", "force"]
theorem sc_law_pulls : FnScope N_law_pulls ["drive", "speed"] (defScope s_law_pulls) := ⟨rfl, rfl, rfl, by decide +kernel, rfl, by decide +kernel, by decide +kernel⟩
noncomputable def m_law_pulls (g_law_times : List D → Option D) (g_law_low : List D → Option D) (g_law_is_less : List D → Option D) (g_law_shaft : List D → Option D) : FS := (sSeq (sSet 2 (mP (eLst aNil)))
  (sSeq (sFor (miSelf (mP (eFrz (e2 gIx (eVar 0) (eC (.int 2)))))) (bbName 3) (sSeq (sPar 4 5 (mP (eFn 2 g_law_times (aCons (eVar 3) (aCons (eFn 2 g_law_shaft (aCons (eVar 0) (aCons (eVar 1) aNil))) aNil)))) (mP (eC .none)))
  (sSeq (sFor (miSelf (mP (e1 gRev (e2 gIx (eVar 0) (eC (.int 3)))))) (bTup (bCons (bbName 6) (bCons (bbName 7) bNil))) (sSet 5 (mP (eFrz (eIf (tst (eFn 2 g_law_is_less (aCons (eTup (aCons (eFrz (eVar 6)) (aCons (eC (.int 1)) aNil))) (aCons (eVar 4) aNil)))) (eVar 5) (eVar 7))))))
  (sExpr (mApp 2 (mP (eIf (tst (e2 gIs (eVar 5) (eC .none))) (eC .none) (eFn 2 g_law_times (aCons (eFn 2 g_law_times (aCons (eVar 3) (aCons (eTup (aCons (eFrz (eVar 5)) (aCons (eC (.int 1)) aNil))) aNil))) (aCons (eFn 2 g_law_low (aCons (e2 gIx (eVar 0) (eC (.int 1))) (aCons (e2 gIx (eVar 0) (eC (.int 0))) aNil))) aNil))))))))))
  (sRet (mP (eCall gTupOf (aCons (eVar 2) aNil))))))
theorem F_law_pulls {f : Addr} {fd : FuncData} (F : Fun K "_law_pulls" "_law_pulls" s_law_pulls f fd) (hb : L2.Binds K fd ["drive", "speed"] []) (hm : mg "_law_pulls" = some (.ref f)) (z_tuple : mg "tuple" = none) {g_law_times : List D → Option D} (F_law_times : FnD P w K mg base "_law_times" 2 (spP K 2 g_law_times)) {g_law_low : List D → Option D} (F_law_low : FnD P w K mg base "_law_low" 1 (spP K 2 g_law_low)) {g_law_is_less : List D → Option D} (F_law_is_less : FnD P w K mg base "_law_is_less" 1 (spP K 2 g_law_is_less)) {g_law_shaft : List D → Option D} (F_law_shaft : FnD P w K mg base "_law_shaft" 3 (spP K 2 g_law_shaft))
    {g : List D → Option D} (law : ∀ ds d, ds.length = 2 → g ds = some d → m_law_pulls g_law_times g_law_low g_law_is_less g_law_shaft (seP d) (envP ds 6)) : FnD P w K mg base "_law_pulls" 4 (spP K 2 g) := by
  refine fnP (k := 3) F sc_law_pulls hb hm (fun cdv A outer s H E hr => ?_) law
  have hu := hu64 hr
  have hu1 := hu1G hr
  have nd := sc_law_pulls.nd
  exact ⟨_, (ss_cons (ss_set (i := 2) nd (mm_pf (pf_lst an_nil)))
    (ss_cons (ss_for (mi_self (mv_pf (PP.frz (pp_ix (pv' 0) (PF.pp pk_int))))) (bg_name 3 nd) (ss_cons (ss_par (i := 4) (j := 5) nd (mm_pf (pf_fn F_law_times (hr.mono (by decide)) (ar_cons (pv' 3) (ar_cons (PF.pp (pf_fn F_law_shaft (hr.mono (by decide)) (ar_cons (pv' 0) (ar_cons (pv' 1) ar_nil)))) ar_nil)))) (mm_pf pk_non))
    (ss_cons (ss_for (mi_self (mv_pf (pf_rev (pp_ix (pv' 0) (PF.pp pk_int))))) (bg_tup (bgs_cons (bg_name 6 nd) (bgs_cons (bg_name 7 nd) bgs_nil)) (bl_cons (bl_cons bl_nil))) (ss_one (ss_set (i := 5) nd (mm_pf (PP.frz (pp_if (tt_val (PF.pp (pf_fn F_law_is_less (hr.mono (by decide)) (ar_cons (PF.pp (pf_tup (an_cons (PP.frz (pv' 6)) (an_cons pk_int an_nil)))) (ar_cons (pv' 4) ar_nil))))) (pv' 5) (pv' 7)))))))
    (ss_one (ss_expr (mm_app (i := 2) (mm_pf (pf_if (tt_cmp (o_is) (pv' 5) (PF.pp pk_non)) pk_non (pf_fn F_law_times (hr.mono (by decide)) (ar_cons (PF.pp (pf_fn F_law_times (hr.mono (by decide)) (ar_cons (pv' 3) (ar_cons (PF.pp (pf_tup (an_cons (PP.frz (pv' 5)) (an_cons pk_int an_nil)))) ar_nil)))) (ar_cons (PF.pp (pf_fn F_law_low (hr.mono (by decide)) (ar_cons (pp_ix (pv' 0) (PF.pp pk_int)) (ar_cons (pp_ix (pv' 0) (PF.pp pk_int)) ar_nil)))) ar_nil)))))))))))
    (ss_one (ss_ret (mm_pf (pf_ct c_tuple z_tuple (ar_cons (pv' 2) ar_nil)))))))⟩
abbrev N_law_good : List Str := ["drive", "part", "pulls", "gear", "pull"]
theorem sc_law_good : FnScope N_law_good ["drive", "part"] (defScope s_law_good) := ⟨rfl, rfl, rfl, by decide +kernel, rfl, by decide +kernel, by decide +kernel⟩
noncomputable def m_law_good (g_law_is_less : List D → Option D) (g_law_pulls : List D → Option D) : FS := (sSeq (sSet 2 (mP (eFn 2 g_law_pulls (aCons (eVar 0) (aCons (e2 gIx (eVar 1) (eC (.int 1))) aNil)))))
  (sRet (mP (eLc [3, 4] (iOf giEnum (aCons (eVar 2) aNil)) (bTup (bCons (bName 3) (bCons (bName 4) bNil))) (bAnd (tst (e2 gIsNot (eVar 4) (eC .none))) (bNot (tst (eFn 2 g_law_is_less (aCons (eVar 4) (aCons (eTup (aCons (eFrz (e2 gIx (eVar 1) (eC (.int 2)))) (aCons (eC (.int 1)) aNil))) aNil)))))) (eFrz (eVar 3))))))
theorem F_law_good {f : Addr} {fd : FuncData} (F : Fun K "_law_good" "_law_good" s_law_good f fd) (hb : L2.Binds K fd ["drive", "part"] []) (hm : mg "_law_good" = some (.ref f)) (z_enumerate : mg "enumerate" = none) {g_law_is_less : List D → Option D} (F_law_is_less : FnD P w K mg base "_law_is_less" 1 (spP K 2 g_law_is_less)) {g_law_pulls : List D → Option D} (F_law_pulls : FnD P w K mg base "_law_pulls" 4 (spP K 2 g_law_pulls))
    {g : List D → Option D} (law : ∀ ds d, ds.length = 2 → g ds = some d → m_law_good g_law_is_less g_law_pulls (seP d) (envP ds 3)) : FnD P w K mg base "_law_good" 5 (spP K 2 g) := by
  refine fnP (k := 4) F sc_law_good hb hm (fun cdv A outer s H E hr => ?_) law
  have hu := hu64 hr
  have hu1 := hu1G hr
  have nd := sc_law_good.nd
  exact ⟨_, (ss_cons (ss_set (i := 2) nd (mm_pf (pf_fn F_law_pulls (hr.mono (by decide)) (ar_cons (pv' 0) (ar_cons (pp_ix (pv' 1) (PF.pp pk_int)) ar_nil)))))
    (ss_one (ss_ret (mm_pf (pf_lc (own := [("gear", 3), ("pull", 4)]) nd (pi_of (it_enum z_enumerate) (ar_cons (pv' 2) ar_nil)) (blkOk_by (own := [("gear", 3), ("pull", 4)]) (N := N_law_good) (sc := defScope s_law_good) (by decide +kernel)) (fun _ _ _ _ _ => (gt_tup (gs_cons (gt_name 3 nd) (gs_cons (gt_name 4 nd) gs_nil)) (bl_cons (bl_cons bl_nil)))) (fun _ _ _ _ _ => (ts_one (PWt.pt (tw_and (tt_cmp (o_isNot) (pv' 4) (PF.pp pk_non)) (tw_and1 (tt_not (tt_val (PF.pp (pf_fn F_law_is_less (hr.mono (by decide)) (ar_cons (pv' 4) (ar_cons (PF.pp (pf_tup (an_cons (PP.frz (pp_ix (pv' 1) (PF.pp pk_int))) (an_cons pk_int an_nil)))) ar_nil))))))))))) (fun _ _ _ _ _ => (PP.frz (pv' 3))))))))⟩
abbrev N_wheel_at : List Str := ["box", "gear", "revs"]
theorem sc_wheel_at : FnScope N_wheel_at ["box", "gear", "revs"] (defScope s_wheel_at) := ⟨rfl, rfl, rfl, by decide +kernel, rfl, by decide +kernel, by decide +kernel⟩
noncomputable def m_wheel_at (g_over : List D → Option D) (g_check_speed : List D → Option D) : FS := (sSeq (sExpr (mP (eFn 3 g_check_speed (aCons (eVar 0) (aCons (eVar 1) (aCons (eVar 2) aNil))))))
  (sRet (mP (eFn 2 g_over (aCons (eVar 2) (aCons (e2 gIx (eVar 0) (eVar 1)) aNil))))))
theorem F_wheel_at {f : Addr} {fd : FuncData} (F : Fun K "wheel_at" "wheel_at" s_wheel_at f fd) (hb : L2.Binds K fd ["box", "gear", "revs"] []) (hm : mg "wheel_at" = some (.ref f)) {g_over : List D → Option D} (F_over : FnD P w K mg base "over" 3 (spP K 2 g_over)) {g_check_speed : List D → Option D} (F_check_speed : FnD P w K mg base "check_speed" 6 (spP K 3 g_check_speed))
    {g : List D → Option D} (law : ∀ ds d, ds.length = 3 → g ds = some d → m_wheel_at g_over g_check_speed (seP d) (envP ds 0)) : FnD P w K mg base "wheel_at" 7 (spP K 3 g) := by
  refine fnP (k := 6) F sc_wheel_at hb hm (fun cdv A outer s H E hr => ?_) law
  have hu := hu64 hr
  have hu1 := hu1G hr
  have nd := sc_wheel_at.nd
  exact ⟨_, (ss_cons (ss_expr (mm_pf (pf_fn F_check_speed (hr.mono (by decide)) (ar_cons (pv' 0) (ar_cons (pv' 1) (ar_cons (pv' 2) ar_nil))))))
    (ss_one (ss_ret (mm_pf (pf_fn F_over (hr.mono (by decide)) (ar_cons (pv' 2) (ar_cons (pp_ix (pv' 0) (pv' 1)) ar_nil)))))))⟩
abbrev N_law_are_rest_right : List Str := ["hand", "drive", "trip", "reading", "later", "turns", "box", "engine", "load", "wheel", "gear", "pull", "top", "fast", "revs", "own", "part", "speed"]
theorem sc_law_are_rest_right : FnScope N_law_are_rest_right ["hand", "drive", "trip"] (defScope s_law_are_rest_right) := ⟨rfl, rfl, rfl, by decide +kernel, rfl, by decide +kernel, by decide +kernel⟩
noncomputable def m_law_are_rest_right_0 (g_top_speed : List D → Option D) (g_law_good : List D → Option D) (g_tops_of : List D → Option D) (g_steps_of : List D → Option D) (g_law_times : List D → Option D) (g_wheel_pulls_gearboxes : List D → Option D) (g_wheel_at : List D → Option D) (g_pull_at : List D → Option D) (g_revs_at : List D → Option D) (g_law_draw : List D → Option (D × D)) (g_law_low : List D → Option D) (g_trip_time : List D → Option D) (g_law_sum : List D → Option D) (g_turned_between : List D → Option D) (g_wheel_turns : List D → Option D) (g_shown : List D → Option D) (g_odometer_after : List D → Option D) : FS := (sSet 3 (mIo 2 0 g_law_draw (mhHole (maCons (mP (e2 gPow (eC (.int 10)) (eC (.int 5)))) maNil))))
noncomputable def m_law_are_rest_right_1 (g_top_speed : List D → Option D) (g_law_good : List D → Option D) (g_tops_of : List D → Option D) (g_steps_of : List D → Option D) (g_law_times : List D → Option D) (g_wheel_pulls_gearboxes : List D → Option D) (g_wheel_at : List D → Option D) (g_pull_at : List D → Option D) (g_revs_at : List D → Option D) (g_law_draw : List D → Option (D × D)) (g_law_low : List D → Option D) (g_trip_time : List D → Option D) (g_law_sum : List D → Option D) (g_turned_between : List D → Option D) (g_wheel_turns : List D → Option D) (g_shown : List D → Option D) (g_odometer_after : List D → Option D) : FS := (sSet 4 (mP (e2 gAdd (eVar 3) (e2 gFdiv (eCall gSum (aCons (eLc [16] (iSelf (eVar 2)) (bName 16) bTrue (eFrz (e2 gIx (eVar 16) (eC (.int 0))))) aNil)) (eC (.int 1000))))))
noncomputable def m_law_are_rest_right_2 (g_top_speed : List D → Option D) (g_law_good : List D → Option D) (g_tops_of : List D → Option D) (g_steps_of : List D → Option D) (g_law_times : List D → Option D) (g_wheel_pulls_gearboxes : List D → Option D) (g_wheel_at : List D → Option D) (g_pull_at : List D → Option D) (g_revs_at : List D → Option D) (g_law_draw : List D → Option (D × D)) (g_law_low : List D → Option D) (g_trip_time : List D → Option D) (g_law_sum : List D → Option D) (g_turned_between : List D → Option D) (g_wheel_turns : List D → Option D) (g_shown : List D → Option D) (g_odometer_after : List D → Option D) : FS := (sIf (mT (bOr (tst (e2 cmpNe (eFn 2 g_odometer_after (aCons (eVar 3) (aCons (eVar 2) aNil))) (eVar 4))) (tst (e2 cmpNe (eCall gInt (aCons (eFn 2 g_shown (aCons (eVar 4) (aCons (eC (.int 9)) aNil))) aNil)) (eVar 4))))) (sRet (mP (eC (.bool false)))) sNext)
noncomputable def m_law_are_rest_right_3 (g_top_speed : List D → Option D) (g_law_good : List D → Option D) (g_tops_of : List D → Option D) (g_steps_of : List D → Option D) (g_law_times : List D → Option D) (g_wheel_pulls_gearboxes : List D → Option D) (g_wheel_at : List D → Option D) (g_pull_at : List D → Option D) (g_revs_at : List D → Option D) (g_law_draw : List D → Option (D × D)) (g_law_low : List D → Option D) (g_trip_time : List D → Option D) (g_law_sum : List D → Option D) (g_turned_between : List D → Option D) (g_wheel_turns : List D → Option D) (g_shown : List D → Option D) (g_odometer_after : List D → Option D) : FS := (sSet 5 (mP (eFn 2 g_wheel_turns (aCons (eVar 3) (aCons (eVar 4) aNil)))))
noncomputable def m_law_are_rest_right_4 (g_top_speed : List D → Option D) (g_law_good : List D → Option D) (g_tops_of : List D → Option D) (g_steps_of : List D → Option D) (g_law_times : List D → Option D) (g_wheel_pulls_gearboxes : List D → Option D) (g_wheel_at : List D → Option D) (g_pull_at : List D → Option D) (g_revs_at : List D → Option D) (g_law_draw : List D → Option (D × D)) (g_law_low : List D → Option D) (g_trip_time : List D → Option D) (g_law_sum : List D → Option D) (g_turned_between : List D → Option D) (g_wheel_turns : List D → Option D) (g_shown : List D → Option D) (g_odometer_after : List D → Option D) : FS := (sIf (mT (bOr (tst (e2 cmpNe (e2 gIx (eVar 5) (eC (.int 0))) (e2 gSub (eVar 4) (eVar 3)))) (tst (e2 cmpNe (eCall gSum (aCons (eVar 5) aNil)) (eFn 2 g_turned_between (aCons (eVar 3) (aCons (eVar 4) aNil))))))) (sRet (mP (eC (.bool false)))) sNext)
noncomputable def m_law_are_rest_right_5 (g_top_speed : List D → Option D) (g_law_good : List D → Option D) (g_tops_of : List D → Option D) (g_steps_of : List D → Option D) (g_law_times : List D → Option D) (g_wheel_pulls_gearboxes : List D → Option D) (g_wheel_at : List D → Option D) (g_pull_at : List D → Option D) (g_revs_at : List D → Option D) (g_law_draw : List D → Option (D × D)) (g_law_low : List D → Option D) (g_trip_time : List D → Option D) (g_law_sum : List D → Option D) (g_turned_between : List D → Option D) (g_wheel_turns : List D → Option D) (g_shown : List D → Option D) (g_odometer_after : List D → Option D) : FS := (sIf (mT (tst (e2 cmpNe (eFn 1 g_trip_time (aCons (eVar 2) aNil)) (eFn 1 g_law_sum (aCons (eLc [16] (iSelf (eVar 2)) (bName 16) bTrue (eFn 2 g_law_low (aCons (e2 gIx (eVar 16) (eC (.int 0))) (aCons (e2 gIx (eVar 16) (eC (.int 1))) aNil)))) aNil))))) (sRet (mP (eC (.bool false)))) sNext)
noncomputable def m_law_are_rest_right_6 (g_top_speed : List D → Option D) (g_law_good : List D → Option D) (g_tops_of : List D → Option D) (g_steps_of : List D → Option D) (g_law_times : List D → Option D) (g_wheel_pulls_gearboxes : List D → Option D) (g_wheel_at : List D → Option D) (g_pull_at : List D → Option D) (g_revs_at : List D → Option D) (g_law_draw : List D → Option (D × D)) (g_law_low : List D → Option D) (g_trip_time : List D → Option D) (g_law_sum : List D → Option D) (g_turned_between : List D → Option D) (g_wheel_turns : List D → Option D) (g_shown : List D → Option D) (g_odometer_after : List D → Option D) : FS := (sAsg (bTup (bCons (mbName 6) (bCons (mbName 7) (bCons (mbName 8) bNil)))) (mTup (maCons (mP (eFrz (e2 gIx (eVar 1) (eC (.int 2))))) (maCons (mP (eFrz (e2 gIx (eVar 1) (eC (.int 3))))) (maCons (mIo 2 0 g_law_draw (mhHole (maCons (mP (eC (.int 2000))) maNil))) maNil)))))
noncomputable def m_law_are_rest_right_7 (g_top_speed : List D → Option D) (g_law_good : List D → Option D) (g_tops_of : List D → Option D) (g_steps_of : List D → Option D) (g_law_times : List D → Option D) (g_wheel_pulls_gearboxes : List D → Option D) (g_wheel_at : List D → Option D) (g_pull_at : List D → Option D) (g_revs_at : List D → Option D) (g_law_draw : List D → Option (D × D)) (g_law_low : List D → Option D) (g_trip_time : List D → Option D) (g_law_sum : List D → Option D) (g_turned_between : List D → Option D) (g_wheel_turns : List D → Option D) (g_shown : List D → Option D) (g_odometer_after : List D → Option D) : FS := (sSet 9 (mFn 2 g_law_low (maCons (mIo 2 0 g_law_draw (mhHole (maCons (mP (eC (.int 500))) maNil))) (maCons (m2 gAdd (mP (eC (.int 1))) (mIo 2 0 g_law_draw (mhHole (maCons (mP (eC (.int 9))) maNil)))) maNil))))
noncomputable def m_law_are_rest_right_8 (g_top_speed : List D → Option D) (g_law_good : List D → Option D) (g_tops_of : List D → Option D) (g_steps_of : List D → Option D) (g_law_times : List D → Option D) (g_wheel_pulls_gearboxes : List D → Option D) (g_wheel_at : List D → Option D) (g_pull_at : List D → Option D) (g_revs_at : List D → Option D) (g_law_draw : List D → Option (D × D)) (g_law_low : List D → Option D) (g_trip_time : List D → Option D) (g_law_sum : List D → Option D) (g_turned_between : List D → Option D) (g_wheel_turns : List D → Option D) (g_shown : List D → Option D) (g_odometer_after : List D → Option D) : FS := (sFor (miOf giEnum (maCons (mP (eFn 3 g_wheel_pulls_gearboxes (aCons (eVar 6) (aCons (eVar 7) (aCons (eVar 9) aNil))))) maNil)) (bTup (bCons (bbName 10) (bCons (bbName 11) bNil))) (sSeq (sSet 14 (mP (eFn 3 g_revs_at (aCons (eVar 6) (aCons (eVar 10) (aCons (eVar 9) aNil))))))
  (sSeq (sSet 15 (mP (eIf (bAnd (tst (e2 cmpLe (e2 gIx (eVar 14) (eC (.int 0))) (e2 gPow (eC (.int 10)) (eC (.int 6))))) (tst (e2 cmpLe (e2 gIx (eVar 14) (eC (.int 1))) (e2 gPow (eC (.int 10)) (eC (.int 4)))))) (eFn 2 g_pull_at (aCons (eVar 7) (aCons (eVar 14) aNil))) (eC .none))))
  (sSeq (sIf (mT (bOr (tst (e2 cmpNe (eVar 14) (eFn 2 g_law_times (aCons (e2 gIx (eVar 6) (eVar 10)) (aCons (eVar 9) aNil))))) (bAnd (tst (e2 cmpLe (e2 gIx (eVar 14) (eC (.int 1))) (eC (.int 100)))) (tst (e2 cmpNe (eFn 3 g_wheel_at (aCons (eVar 6) (aCons (eVar 10) (aCons (eVar 14) aNil)))) (eVar 9)))))) (sRet (mP (eC (.bool false)))) sNext)
  (sIf (mT (bAnd (tst (e2 gIsNot (eVar 15) (eC .none))) (tst (e2 cmpNe (eVar 11) (eFn 2 g_law_times (aCons (e2 gIx (eVar 6) (eVar 10)) (aCons (eTup (aCons (eFrz (eVar 15)) (aCons (eC (.int 1)) aNil))) aNil))))))) (sRet (mP (eC (.bool false)))) sNext)))))
noncomputable def m_law_are_rest_right_9 (g_top_speed : List D → Option D) (g_law_good : List D → Option D) (g_tops_of : List D → Option D) (g_steps_of : List D → Option D) (g_law_times : List D → Option D) (g_wheel_pulls_gearboxes : List D → Option D) (g_wheel_at : List D → Option D) (g_pull_at : List D → Option D) (g_revs_at : List D → Option D) (g_law_draw : List D → Option (D × D)) (g_law_low : List D → Option D) (g_trip_time : List D → Option D) (g_law_sum : List D → Option D) (g_turned_between : List D → Option D) (g_wheel_turns : List D → Option D) (g_shown : List D → Option D) (g_odometer_after : List D → Option D) : FS := (sSet 12 (mP (eFn 2 g_law_times (aCons (eTup (aCons (eFrz (e2 gIx (e2 gIx (eVar 7) (e1 gNeg (eC (.int 1)))) (eC (.int 0)))) (aCons (eC (.int 1)) aNil))) (aCons (eTup (aCons (eFrz (e2 gIx (e2 gIx (eVar 6) (eC (.int 0))) (eC (.int 1)))) (aCons (eFrz (e2 gIx (e2 gIx (eVar 6) (eC (.int 0))) (eC (.int 0)))) aNil))) aNil)))))
noncomputable def m_law_are_rest_right_10 (g_top_speed : List D → Option D) (g_law_good : List D → Option D) (g_tops_of : List D → Option D) (g_steps_of : List D → Option D) (g_law_times : List D → Option D) (g_wheel_pulls_gearboxes : List D → Option D) (g_wheel_at : List D → Option D) (g_pull_at : List D → Option D) (g_revs_at : List D → Option D) (g_law_draw : List D → Option (D × D)) (g_law_low : List D → Option D) (g_trip_time : List D → Option D) (g_law_sum : List D → Option D) (g_turned_between : List D → Option D) (g_wheel_turns : List D → Option D) (g_shown : List D → Option D) (g_odometer_after : List D → Option D) : FS := (sIf (mT (bOr (tst (e2 cmpNe (eFn 1 g_steps_of (aCons (eVar 6) aNil)) (e2 gMul (eTup (aCons (eTup (aCons (eC (.int 3)) (aCons (eC (.int 2)) aNil))) aNil)) (e2 gSub (eCall gLen (aCons (eVar 6) aNil)) (eC (.int 1)))))) (tst (e2 cmpNe (e2 gIx (eFn 2 g_tops_of (aCons (eVar 6) (aCons (eVar 7) aNil))) (eC (.int 0))) (eVar 12))))) (sRet (mP (eC (.bool false)))) sNext)
noncomputable def m_law_are_rest_right_11 (g_top_speed : List D → Option D) (g_law_good : List D → Option D) (g_tops_of : List D → Option D) (g_steps_of : List D → Option D) (g_law_times : List D → Option D) (g_wheel_pulls_gearboxes : List D → Option D) (g_wheel_at : List D → Option D) (g_pull_at : List D → Option D) (g_revs_at : List D → Option D) (g_law_draw : List D → Option (D × D)) (g_law_low : List D → Option D) (g_trip_time : List D → Option D) (g_law_sum : List D → Option D) (g_turned_between : List D → Option D) (g_wheel_turns : List D → Option D) (g_shown : List D → Option D) (g_odometer_after : List D → Option D) : FS := (sSet 13 (mP (eLc [17] (iOf giRg2 (aCons (eC (.int 1)) (aCons (eC (.int 101)) aNil))) (bName 17) (tst (e2 cmpNe (eFn 2 g_law_good (aCons (eVar 1) (aCons (eTup (aCons (eC (.int 1)) (aCons (eFrz (eVar 17)) (aCons (eFrz (eVar 8)) aNil)))) aNil))) (eLst aNil))) (eFrz (eVar 17)))))
noncomputable def m_law_are_rest_right_12 (g_top_speed : List D → Option D) (g_law_good : List D → Option D) (g_tops_of : List D → Option D) (g_steps_of : List D → Option D) (g_law_times : List D → Option D) (g_wheel_pulls_gearboxes : List D → Option D) (g_wheel_at : List D → Option D) (g_pull_at : List D → Option D) (g_revs_at : List D → Option D) (g_law_draw : List D → Option (D × D)) (g_law_low : List D → Option D) (g_trip_time : List D → Option D) (g_law_sum : List D → Option D) (g_turned_between : List D → Option D) (g_wheel_turns : List D → Option D) (g_shown : List D → Option D) (g_odometer_after : List D → Option D) : FS := (sRet (mP (e2 cmpEq (eFn 2 g_top_speed (aCons (eVar 1) (aCons (eVar 8) aNil))) (eIf (tst (e2 cmpNe (eVar 13) (eLst aNil))) (eFrz (e2 gIx (eVar 13) (e1 gNeg (eC (.int 1))))) (eC .none)))))
noncomputable def b_law_are_rest_right_12 (g_top_speed : List D → Option D) (g_law_good : List D → Option D) (g_tops_of : List D → Option D) (g_steps_of : List D → Option D) (g_law_times : List D → Option D) (g_wheel_pulls_gearboxes : List D → Option D) (g_wheel_at : List D → Option D) (g_pull_at : List D → Option D) (g_revs_at : List D → Option D) (g_law_draw : List D → Option (D × D)) (g_law_low : List D → Option D) (g_trip_time : List D → Option D) (g_law_sum : List D → Option D) (g_turned_between : List D → Option D) (g_wheel_turns : List D → Option D) (g_shown : List D → Option D) (g_odometer_after : List D → Option D) : FS := m_law_are_rest_right_12 g_top_speed g_law_good g_tops_of g_steps_of g_law_times g_wheel_pulls_gearboxes g_wheel_at g_pull_at g_revs_at g_law_draw g_law_low g_trip_time g_law_sum g_turned_between g_wheel_turns g_shown g_odometer_after
noncomputable def b_law_are_rest_right_11 (g_top_speed : List D → Option D) (g_law_good : List D → Option D) (g_tops_of : List D → Option D) (g_steps_of : List D → Option D) (g_law_times : List D → Option D) (g_wheel_pulls_gearboxes : List D → Option D) (g_wheel_at : List D → Option D) (g_pull_at : List D → Option D) (g_revs_at : List D → Option D) (g_law_draw : List D → Option (D × D)) (g_law_low : List D → Option D) (g_trip_time : List D → Option D) (g_law_sum : List D → Option D) (g_turned_between : List D → Option D) (g_wheel_turns : List D → Option D) (g_shown : List D → Option D) (g_odometer_after : List D → Option D) : FS := sSeq (m_law_are_rest_right_11 g_top_speed g_law_good g_tops_of g_steps_of g_law_times g_wheel_pulls_gearboxes g_wheel_at g_pull_at g_revs_at g_law_draw g_law_low g_trip_time g_law_sum g_turned_between g_wheel_turns g_shown g_odometer_after) (b_law_are_rest_right_12 g_top_speed g_law_good g_tops_of g_steps_of g_law_times g_wheel_pulls_gearboxes g_wheel_at g_pull_at g_revs_at g_law_draw g_law_low g_trip_time g_law_sum g_turned_between g_wheel_turns g_shown g_odometer_after)
noncomputable def b_law_are_rest_right_10 (g_top_speed : List D → Option D) (g_law_good : List D → Option D) (g_tops_of : List D → Option D) (g_steps_of : List D → Option D) (g_law_times : List D → Option D) (g_wheel_pulls_gearboxes : List D → Option D) (g_wheel_at : List D → Option D) (g_pull_at : List D → Option D) (g_revs_at : List D → Option D) (g_law_draw : List D → Option (D × D)) (g_law_low : List D → Option D) (g_trip_time : List D → Option D) (g_law_sum : List D → Option D) (g_turned_between : List D → Option D) (g_wheel_turns : List D → Option D) (g_shown : List D → Option D) (g_odometer_after : List D → Option D) : FS := sSeq (m_law_are_rest_right_10 g_top_speed g_law_good g_tops_of g_steps_of g_law_times g_wheel_pulls_gearboxes g_wheel_at g_pull_at g_revs_at g_law_draw g_law_low g_trip_time g_law_sum g_turned_between g_wheel_turns g_shown g_odometer_after) (b_law_are_rest_right_11 g_top_speed g_law_good g_tops_of g_steps_of g_law_times g_wheel_pulls_gearboxes g_wheel_at g_pull_at g_revs_at g_law_draw g_law_low g_trip_time g_law_sum g_turned_between g_wheel_turns g_shown g_odometer_after)
noncomputable def b_law_are_rest_right_9 (g_top_speed : List D → Option D) (g_law_good : List D → Option D) (g_tops_of : List D → Option D) (g_steps_of : List D → Option D) (g_law_times : List D → Option D) (g_wheel_pulls_gearboxes : List D → Option D) (g_wheel_at : List D → Option D) (g_pull_at : List D → Option D) (g_revs_at : List D → Option D) (g_law_draw : List D → Option (D × D)) (g_law_low : List D → Option D) (g_trip_time : List D → Option D) (g_law_sum : List D → Option D) (g_turned_between : List D → Option D) (g_wheel_turns : List D → Option D) (g_shown : List D → Option D) (g_odometer_after : List D → Option D) : FS := sSeq (m_law_are_rest_right_9 g_top_speed g_law_good g_tops_of g_steps_of g_law_times g_wheel_pulls_gearboxes g_wheel_at g_pull_at g_revs_at g_law_draw g_law_low g_trip_time g_law_sum g_turned_between g_wheel_turns g_shown g_odometer_after) (b_law_are_rest_right_10 g_top_speed g_law_good g_tops_of g_steps_of g_law_times g_wheel_pulls_gearboxes g_wheel_at g_pull_at g_revs_at g_law_draw g_law_low g_trip_time g_law_sum g_turned_between g_wheel_turns g_shown g_odometer_after)
noncomputable def b_law_are_rest_right_8 (g_top_speed : List D → Option D) (g_law_good : List D → Option D) (g_tops_of : List D → Option D) (g_steps_of : List D → Option D) (g_law_times : List D → Option D) (g_wheel_pulls_gearboxes : List D → Option D) (g_wheel_at : List D → Option D) (g_pull_at : List D → Option D) (g_revs_at : List D → Option D) (g_law_draw : List D → Option (D × D)) (g_law_low : List D → Option D) (g_trip_time : List D → Option D) (g_law_sum : List D → Option D) (g_turned_between : List D → Option D) (g_wheel_turns : List D → Option D) (g_shown : List D → Option D) (g_odometer_after : List D → Option D) : FS := sSeq (m_law_are_rest_right_8 g_top_speed g_law_good g_tops_of g_steps_of g_law_times g_wheel_pulls_gearboxes g_wheel_at g_pull_at g_revs_at g_law_draw g_law_low g_trip_time g_law_sum g_turned_between g_wheel_turns g_shown g_odometer_after) (b_law_are_rest_right_9 g_top_speed g_law_good g_tops_of g_steps_of g_law_times g_wheel_pulls_gearboxes g_wheel_at g_pull_at g_revs_at g_law_draw g_law_low g_trip_time g_law_sum g_turned_between g_wheel_turns g_shown g_odometer_after)
noncomputable def b_law_are_rest_right_7 (g_top_speed : List D → Option D) (g_law_good : List D → Option D) (g_tops_of : List D → Option D) (g_steps_of : List D → Option D) (g_law_times : List D → Option D) (g_wheel_pulls_gearboxes : List D → Option D) (g_wheel_at : List D → Option D) (g_pull_at : List D → Option D) (g_revs_at : List D → Option D) (g_law_draw : List D → Option (D × D)) (g_law_low : List D → Option D) (g_trip_time : List D → Option D) (g_law_sum : List D → Option D) (g_turned_between : List D → Option D) (g_wheel_turns : List D → Option D) (g_shown : List D → Option D) (g_odometer_after : List D → Option D) : FS := sSeq (m_law_are_rest_right_7 g_top_speed g_law_good g_tops_of g_steps_of g_law_times g_wheel_pulls_gearboxes g_wheel_at g_pull_at g_revs_at g_law_draw g_law_low g_trip_time g_law_sum g_turned_between g_wheel_turns g_shown g_odometer_after) (b_law_are_rest_right_8 g_top_speed g_law_good g_tops_of g_steps_of g_law_times g_wheel_pulls_gearboxes g_wheel_at g_pull_at g_revs_at g_law_draw g_law_low g_trip_time g_law_sum g_turned_between g_wheel_turns g_shown g_odometer_after)
noncomputable def b_law_are_rest_right_6 (g_top_speed : List D → Option D) (g_law_good : List D → Option D) (g_tops_of : List D → Option D) (g_steps_of : List D → Option D) (g_law_times : List D → Option D) (g_wheel_pulls_gearboxes : List D → Option D) (g_wheel_at : List D → Option D) (g_pull_at : List D → Option D) (g_revs_at : List D → Option D) (g_law_draw : List D → Option (D × D)) (g_law_low : List D → Option D) (g_trip_time : List D → Option D) (g_law_sum : List D → Option D) (g_turned_between : List D → Option D) (g_wheel_turns : List D → Option D) (g_shown : List D → Option D) (g_odometer_after : List D → Option D) : FS := sSeq (m_law_are_rest_right_6 g_top_speed g_law_good g_tops_of g_steps_of g_law_times g_wheel_pulls_gearboxes g_wheel_at g_pull_at g_revs_at g_law_draw g_law_low g_trip_time g_law_sum g_turned_between g_wheel_turns g_shown g_odometer_after) (b_law_are_rest_right_7 g_top_speed g_law_good g_tops_of g_steps_of g_law_times g_wheel_pulls_gearboxes g_wheel_at g_pull_at g_revs_at g_law_draw g_law_low g_trip_time g_law_sum g_turned_between g_wheel_turns g_shown g_odometer_after)
noncomputable def b_law_are_rest_right_5 (g_top_speed : List D → Option D) (g_law_good : List D → Option D) (g_tops_of : List D → Option D) (g_steps_of : List D → Option D) (g_law_times : List D → Option D) (g_wheel_pulls_gearboxes : List D → Option D) (g_wheel_at : List D → Option D) (g_pull_at : List D → Option D) (g_revs_at : List D → Option D) (g_law_draw : List D → Option (D × D)) (g_law_low : List D → Option D) (g_trip_time : List D → Option D) (g_law_sum : List D → Option D) (g_turned_between : List D → Option D) (g_wheel_turns : List D → Option D) (g_shown : List D → Option D) (g_odometer_after : List D → Option D) : FS := sSeq (m_law_are_rest_right_5 g_top_speed g_law_good g_tops_of g_steps_of g_law_times g_wheel_pulls_gearboxes g_wheel_at g_pull_at g_revs_at g_law_draw g_law_low g_trip_time g_law_sum g_turned_between g_wheel_turns g_shown g_odometer_after) (b_law_are_rest_right_6 g_top_speed g_law_good g_tops_of g_steps_of g_law_times g_wheel_pulls_gearboxes g_wheel_at g_pull_at g_revs_at g_law_draw g_law_low g_trip_time g_law_sum g_turned_between g_wheel_turns g_shown g_odometer_after)
noncomputable def b_law_are_rest_right_4 (g_top_speed : List D → Option D) (g_law_good : List D → Option D) (g_tops_of : List D → Option D) (g_steps_of : List D → Option D) (g_law_times : List D → Option D) (g_wheel_pulls_gearboxes : List D → Option D) (g_wheel_at : List D → Option D) (g_pull_at : List D → Option D) (g_revs_at : List D → Option D) (g_law_draw : List D → Option (D × D)) (g_law_low : List D → Option D) (g_trip_time : List D → Option D) (g_law_sum : List D → Option D) (g_turned_between : List D → Option D) (g_wheel_turns : List D → Option D) (g_shown : List D → Option D) (g_odometer_after : List D → Option D) : FS := sSeq (m_law_are_rest_right_4 g_top_speed g_law_good g_tops_of g_steps_of g_law_times g_wheel_pulls_gearboxes g_wheel_at g_pull_at g_revs_at g_law_draw g_law_low g_trip_time g_law_sum g_turned_between g_wheel_turns g_shown g_odometer_after) (b_law_are_rest_right_5 g_top_speed g_law_good g_tops_of g_steps_of g_law_times g_wheel_pulls_gearboxes g_wheel_at g_pull_at g_revs_at g_law_draw g_law_low g_trip_time g_law_sum g_turned_between g_wheel_turns g_shown g_odometer_after)
noncomputable def b_law_are_rest_right_3 (g_top_speed : List D → Option D) (g_law_good : List D → Option D) (g_tops_of : List D → Option D) (g_steps_of : List D → Option D) (g_law_times : List D → Option D) (g_wheel_pulls_gearboxes : List D → Option D) (g_wheel_at : List D → Option D) (g_pull_at : List D → Option D) (g_revs_at : List D → Option D) (g_law_draw : List D → Option (D × D)) (g_law_low : List D → Option D) (g_trip_time : List D → Option D) (g_law_sum : List D → Option D) (g_turned_between : List D → Option D) (g_wheel_turns : List D → Option D) (g_shown : List D → Option D) (g_odometer_after : List D → Option D) : FS := sSeq (m_law_are_rest_right_3 g_top_speed g_law_good g_tops_of g_steps_of g_law_times g_wheel_pulls_gearboxes g_wheel_at g_pull_at g_revs_at g_law_draw g_law_low g_trip_time g_law_sum g_turned_between g_wheel_turns g_shown g_odometer_after) (b_law_are_rest_right_4 g_top_speed g_law_good g_tops_of g_steps_of g_law_times g_wheel_pulls_gearboxes g_wheel_at g_pull_at g_revs_at g_law_draw g_law_low g_trip_time g_law_sum g_turned_between g_wheel_turns g_shown g_odometer_after)
noncomputable def b_law_are_rest_right_2 (g_top_speed : List D → Option D) (g_law_good : List D → Option D) (g_tops_of : List D → Option D) (g_steps_of : List D → Option D) (g_law_times : List D → Option D) (g_wheel_pulls_gearboxes : List D → Option D) (g_wheel_at : List D → Option D) (g_pull_at : List D → Option D) (g_revs_at : List D → Option D) (g_law_draw : List D → Option (D × D)) (g_law_low : List D → Option D) (g_trip_time : List D → Option D) (g_law_sum : List D → Option D) (g_turned_between : List D → Option D) (g_wheel_turns : List D → Option D) (g_shown : List D → Option D) (g_odometer_after : List D → Option D) : FS := sSeq (m_law_are_rest_right_2 g_top_speed g_law_good g_tops_of g_steps_of g_law_times g_wheel_pulls_gearboxes g_wheel_at g_pull_at g_revs_at g_law_draw g_law_low g_trip_time g_law_sum g_turned_between g_wheel_turns g_shown g_odometer_after) (b_law_are_rest_right_3 g_top_speed g_law_good g_tops_of g_steps_of g_law_times g_wheel_pulls_gearboxes g_wheel_at g_pull_at g_revs_at g_law_draw g_law_low g_trip_time g_law_sum g_turned_between g_wheel_turns g_shown g_odometer_after)
noncomputable def b_law_are_rest_right_1 (g_top_speed : List D → Option D) (g_law_good : List D → Option D) (g_tops_of : List D → Option D) (g_steps_of : List D → Option D) (g_law_times : List D → Option D) (g_wheel_pulls_gearboxes : List D → Option D) (g_wheel_at : List D → Option D) (g_pull_at : List D → Option D) (g_revs_at : List D → Option D) (g_law_draw : List D → Option (D × D)) (g_law_low : List D → Option D) (g_trip_time : List D → Option D) (g_law_sum : List D → Option D) (g_turned_between : List D → Option D) (g_wheel_turns : List D → Option D) (g_shown : List D → Option D) (g_odometer_after : List D → Option D) : FS := sSeq (m_law_are_rest_right_1 g_top_speed g_law_good g_tops_of g_steps_of g_law_times g_wheel_pulls_gearboxes g_wheel_at g_pull_at g_revs_at g_law_draw g_law_low g_trip_time g_law_sum g_turned_between g_wheel_turns g_shown g_odometer_after) (b_law_are_rest_right_2 g_top_speed g_law_good g_tops_of g_steps_of g_law_times g_wheel_pulls_gearboxes g_wheel_at g_pull_at g_revs_at g_law_draw g_law_low g_trip_time g_law_sum g_turned_between g_wheel_turns g_shown g_odometer_after)
noncomputable def b_law_are_rest_right_0 (g_top_speed : List D → Option D) (g_law_good : List D → Option D) (g_tops_of : List D → Option D) (g_steps_of : List D → Option D) (g_law_times : List D → Option D) (g_wheel_pulls_gearboxes : List D → Option D) (g_wheel_at : List D → Option D) (g_pull_at : List D → Option D) (g_revs_at : List D → Option D) (g_law_draw : List D → Option (D × D)) (g_law_low : List D → Option D) (g_trip_time : List D → Option D) (g_law_sum : List D → Option D) (g_turned_between : List D → Option D) (g_wheel_turns : List D → Option D) (g_shown : List D → Option D) (g_odometer_after : List D → Option D) : FS := sSeq (m_law_are_rest_right_0 g_top_speed g_law_good g_tops_of g_steps_of g_law_times g_wheel_pulls_gearboxes g_wheel_at g_pull_at g_revs_at g_law_draw g_law_low g_trip_time g_law_sum g_turned_between g_wheel_turns g_shown g_odometer_after) (b_law_are_rest_right_1 g_top_speed g_law_good g_tops_of g_steps_of g_law_times g_wheel_pulls_gearboxes g_wheel_at g_pull_at g_revs_at g_law_draw g_law_low g_trip_time g_law_sum g_turned_between g_wheel_turns g_shown g_odometer_after)
noncomputable def m_law_are_rest_right (g_top_speed : List D → Option D) (g_law_good : List D → Option D) (g_tops_of : List D → Option D) (g_steps_of : List D → Option D) (g_law_times : List D → Option D) (g_wheel_pulls_gearboxes : List D → Option D) (g_wheel_at : List D → Option D) (g_pull_at : List D → Option D) (g_revs_at : List D → Option D) (g_law_draw : List D → Option (D × D)) (g_law_low : List D → Option D) (g_trip_time : List D → Option D) (g_law_sum : List D → Option D) (g_turned_between : List D → Option D) (g_wheel_turns : List D → Option D) (g_shown : List D → Option D) (g_odometer_after : List D → Option D) : FS := (sSeq (sSet 3 (mIo 2 0 g_law_draw (mhHole (maCons (mP (e2 gPow (eC (.int 10)) (eC (.int 5)))) maNil))))
  (sSeq (sSet 4 (mP (e2 gAdd (eVar 3) (e2 gFdiv (eCall gSum (aCons (eLc [16] (iSelf (eVar 2)) (bName 16) bTrue (eFrz (e2 gIx (eVar 16) (eC (.int 0))))) aNil)) (eC (.int 1000))))))
  (sSeq (sIf (mT (bOr (tst (e2 cmpNe (eFn 2 g_odometer_after (aCons (eVar 3) (aCons (eVar 2) aNil))) (eVar 4))) (tst (e2 cmpNe (eCall gInt (aCons (eFn 2 g_shown (aCons (eVar 4) (aCons (eC (.int 9)) aNil))) aNil)) (eVar 4))))) (sRet (mP (eC (.bool false)))) sNext)
  (sSeq (sSet 5 (mP (eFn 2 g_wheel_turns (aCons (eVar 3) (aCons (eVar 4) aNil)))))
  (sSeq (sIf (mT (bOr (tst (e2 cmpNe (e2 gIx (eVar 5) (eC (.int 0))) (e2 gSub (eVar 4) (eVar 3)))) (tst (e2 cmpNe (eCall gSum (aCons (eVar 5) aNil)) (eFn 2 g_turned_between (aCons (eVar 3) (aCons (eVar 4) aNil))))))) (sRet (mP (eC (.bool false)))) sNext)
  (sSeq (sIf (mT (tst (e2 cmpNe (eFn 1 g_trip_time (aCons (eVar 2) aNil)) (eFn 1 g_law_sum (aCons (eLc [16] (iSelf (eVar 2)) (bName 16) bTrue (eFn 2 g_law_low (aCons (e2 gIx (eVar 16) (eC (.int 0))) (aCons (e2 gIx (eVar 16) (eC (.int 1))) aNil)))) aNil))))) (sRet (mP (eC (.bool false)))) sNext)
  (sSeq (sAsg (bTup (bCons (mbName 6) (bCons (mbName 7) (bCons (mbName 8) bNil)))) (mTup (maCons (mP (eFrz (e2 gIx (eVar 1) (eC (.int 2))))) (maCons (mP (eFrz (e2 gIx (eVar 1) (eC (.int 3))))) (maCons (mIo 2 0 g_law_draw (mhHole (maCons (mP (eC (.int 2000))) maNil))) maNil)))))
  (sSeq (sSet 9 (mFn 2 g_law_low (maCons (mIo 2 0 g_law_draw (mhHole (maCons (mP (eC (.int 500))) maNil))) (maCons (m2 gAdd (mP (eC (.int 1))) (mIo 2 0 g_law_draw (mhHole (maCons (mP (eC (.int 9))) maNil)))) maNil))))
  (sSeq (sFor (miOf giEnum (maCons (mP (eFn 3 g_wheel_pulls_gearboxes (aCons (eVar 6) (aCons (eVar 7) (aCons (eVar 9) aNil))))) maNil)) (bTup (bCons (bbName 10) (bCons (bbName 11) bNil))) (sSeq (sSet 14 (mP (eFn 3 g_revs_at (aCons (eVar 6) (aCons (eVar 10) (aCons (eVar 9) aNil))))))
  (sSeq (sSet 15 (mP (eIf (bAnd (tst (e2 cmpLe (e2 gIx (eVar 14) (eC (.int 0))) (e2 gPow (eC (.int 10)) (eC (.int 6))))) (tst (e2 cmpLe (e2 gIx (eVar 14) (eC (.int 1))) (e2 gPow (eC (.int 10)) (eC (.int 4)))))) (eFn 2 g_pull_at (aCons (eVar 7) (aCons (eVar 14) aNil))) (eC .none))))
  (sSeq (sIf (mT (bOr (tst (e2 cmpNe (eVar 14) (eFn 2 g_law_times (aCons (e2 gIx (eVar 6) (eVar 10)) (aCons (eVar 9) aNil))))) (bAnd (tst (e2 cmpLe (e2 gIx (eVar 14) (eC (.int 1))) (eC (.int 100)))) (tst (e2 cmpNe (eFn 3 g_wheel_at (aCons (eVar 6) (aCons (eVar 10) (aCons (eVar 14) aNil)))) (eVar 9)))))) (sRet (mP (eC (.bool false)))) sNext)
  (sIf (mT (bAnd (tst (e2 gIsNot (eVar 15) (eC .none))) (tst (e2 cmpNe (eVar 11) (eFn 2 g_law_times (aCons (e2 gIx (eVar 6) (eVar 10)) (aCons (eTup (aCons (eFrz (eVar 15)) (aCons (eC (.int 1)) aNil))) aNil))))))) (sRet (mP (eC (.bool false)))) sNext)))))
  (sSeq (sSet 12 (mP (eFn 2 g_law_times (aCons (eTup (aCons (eFrz (e2 gIx (e2 gIx (eVar 7) (e1 gNeg (eC (.int 1)))) (eC (.int 0)))) (aCons (eC (.int 1)) aNil))) (aCons (eTup (aCons (eFrz (e2 gIx (e2 gIx (eVar 6) (eC (.int 0))) (eC (.int 1)))) (aCons (eFrz (e2 gIx (e2 gIx (eVar 6) (eC (.int 0))) (eC (.int 0)))) aNil))) aNil)))))
  (sSeq (sIf (mT (bOr (tst (e2 cmpNe (eFn 1 g_steps_of (aCons (eVar 6) aNil)) (e2 gMul (eTup (aCons (eTup (aCons (eC (.int 3)) (aCons (eC (.int 2)) aNil))) aNil)) (e2 gSub (eCall gLen (aCons (eVar 6) aNil)) (eC (.int 1)))))) (tst (e2 cmpNe (e2 gIx (eFn 2 g_tops_of (aCons (eVar 6) (aCons (eVar 7) aNil))) (eC (.int 0))) (eVar 12))))) (sRet (mP (eC (.bool false)))) sNext)
  (sSeq (sSet 13 (mP (eLc [17] (iOf giRg2 (aCons (eC (.int 1)) (aCons (eC (.int 101)) aNil))) (bName 17) (tst (e2 cmpNe (eFn 2 g_law_good (aCons (eVar 1) (aCons (eTup (aCons (eC (.int 1)) (aCons (eFrz (eVar 17)) (aCons (eFrz (eVar 8)) aNil)))) aNil))) (eLst aNil))) (eFrz (eVar 17)))))
  (sRet (mP (e2 cmpEq (eFn 2 g_top_speed (aCons (eVar 1) (aCons (eVar 8) aNil))) (eIf (tst (e2 cmpNe (eVar 13) (eLst aNil))) (eFrz (e2 gIx (eVar 13) (e1 gNeg (eC (.int 1))))) (eC .none)))))))))))))))))
theorem e_law_are_rest_right (g_top_speed : List D → Option D) (g_law_good : List D → Option D) (g_tops_of : List D → Option D) (g_steps_of : List D → Option D) (g_law_times : List D → Option D) (g_wheel_pulls_gearboxes : List D → Option D) (g_wheel_at : List D → Option D) (g_pull_at : List D → Option D) (g_revs_at : List D → Option D) (g_law_draw : List D → Option (D × D)) (g_law_low : List D → Option D) (g_trip_time : List D → Option D) (g_law_sum : List D → Option D) (g_turned_between : List D → Option D) (g_wheel_turns : List D → Option D) (g_shown : List D → Option D) (g_odometer_after : List D → Option D) : m_law_are_rest_right g_top_speed g_law_good g_tops_of g_steps_of g_law_times g_wheel_pulls_gearboxes g_wheel_at g_pull_at g_revs_at g_law_draw g_law_low g_trip_time g_law_sum g_turned_between g_wheel_turns g_shown g_odometer_after = b_law_are_rest_right_0 g_top_speed g_law_good g_tops_of g_steps_of g_law_times g_wheel_pulls_gearboxes g_wheel_at g_pull_at g_revs_at g_law_draw g_law_low g_trip_time g_law_sum g_turned_between g_wheel_turns g_shown g_odometer_after := rfl
theorem F_law_are_rest_right {f : Addr} {fd : FuncData} (F : Fun K "_law_are_rest_right" "_law_are_rest_right" s_law_are_rest_right f fd) (hb : L2.Binds K fd ["hand", "drive", "trip"] []) (hm : mg "_law_are_rest_right" = some (.ref f)) (z_range : mg "range" = none) (z_len : mg "len" = none) (z_enumerate : mg "enumerate" = none) (z_sum : mg "sum" = none) (z_int : mg "int" = none) {g_top_speed : List D → Option D} (F_top_speed : FnD P w K mg base "top_speed" 8 (spP K 2 g_top_speed)) {g_law_good : List D → Option D} (F_law_good : FnD P w K mg base "_law_good" 5 (spP K 2 g_law_good)) {g_tops_of : List D → Option D} (F_tops_of : FnD P w K mg base "tops_of" 7 (spP K 2 g_tops_of)) {g_steps_of : List D → Option D} (F_steps_of : FnD P w K mg base "steps_of" 6 (spP K 1 g_steps_of)) {g_law_times : List D → Option D} (F_law_times : FnD P w K mg base "_law_times" 2 (spP K 2 g_law_times)) {g_wheel_pulls_gearboxes : List D → Option D} (F_wheel_pulls_gearboxes : FnD P w K mg base "wheel_pulls_gearboxes" 7 (spP K 3 g_wheel_pulls_gearboxes)) {g_wheel_at : List D → Option D} (F_wheel_at : FnD P w K mg base "wheel_at" 7 (spP K 3 g_wheel_at)) {g_pull_at : List D → Option D} (F_pull_at : FnD P w K mg base "pull_at" 4 (spP K 2 g_pull_at)) {g_revs_at : List D → Option D} (F_revs_at : FnD P w K mg base "revs_at" 7 (spP K 3 g_revs_at)) {g_law_draw : List D → Option (D × D)} (F_law_draw : FnD P w K mg base "_law_draw" 1 (spI K 2 0 g_law_draw)) {g_law_low : List D → Option D} (F_law_low : FnD P w K mg base "_law_low" 1 (spP K 2 g_law_low)) {g_trip_time : List D → Option D} (F_trip_time : FnD P w K mg base "trip_time" 5 (spP K 1 g_trip_time)) {g_law_sum : List D → Option D} (F_law_sum : FnD P w K mg base "_law_sum" 3 (spP K 1 g_law_sum)) {g_turned_between : List D → Option D} (F_turned_between : FnD P w K mg base "turned_between" 4 (spP K 2 g_turned_between)) {g_wheel_turns : List D → Option D} (F_wheel_turns : FnD P w K mg base "wheel_turns" 5 (spP K 2 g_wheel_turns)) {g_shown : List D → Option D} (F_shown : FnD P w K mg base "shown" 4 (spP K 2 g_shown)) {g_odometer_after : List D → Option D} (F_odometer_after : FnD P w K mg base "odometer_after" 5 (spP K 2 g_odometer_after))
    {g : List D → Option (D × D)} (law : ∀ dpre d dpost r d', dpre.length = 0 → dpre.length + 1 + dpost.length = 3 → g (dpre ++ d :: dpost) = some (r, d') → m_law_are_rest_right g_top_speed g_law_good g_tops_of g_steps_of g_law_times g_wheel_pulls_gearboxes g_wheel_at g_pull_at g_revs_at g_law_draw g_law_low g_trip_time g_law_sum g_turned_between g_wheel_turns g_shown g_odometer_after (seI 0 r d') (envI dpre d dpost 15)) : FnD P w K mg base "_law_are_rest_right" 9 (spI K 3 0 g) := by
  refine fnI (k := 8) 0 F sc_law_are_rest_right hb hm (fun cdv A outer s H E hr => ?_) law
  have hu := hu64 hr
  have hu1 := hu1G hr
  have nd := sc_law_are_rest_right.nd
  exact ⟨_, (ss_cons (ss_set (i := 3) nd (mm_io F_law_draw (hr.mono (by decide)) (mh_hole (i := 0) (ma_cons (mv_pf (pf_op o_pow (PF.pp pk_int) (PF.pp pk_int))) ma_nil))))
    (ss_cons (ss_set (i := 4) nd (mm_pf (pf_op o_add (pv' 3) (PF.pp (pf_op o_fdiv (PF.pp (pf_cb (c_sum) z_sum (ar_cons (PF.pp (pf_lc (own := [("part", 16)]) nd (pi_self (pv' 2)) (blkOk_by (own := [("part", 16)]) (N := N_law_are_rest_right) (sc := defScope s_law_are_rest_right) (by decide +kernel)) (fun _ _ _ _ _ => (gt_name 16 nd)) (fun _ _ _ _ _ => ts_nil) (fun _ _ _ _ _ => (PP.frz (pp_ix (pv' 16) (PF.pp pk_int)))))) ar_nil))) (PF.pp pk_int))))))
    (ss_cons (ss_if (mt_pt (PWt.pt (tw_or (tt_cmp (o_ne hu) (PF.pp (pf_fn F_odometer_after (hr.mono (by decide)) (ar_cons (pv' 3) (ar_cons (pv' 2) ar_nil)))) (pv' 4)) (tw_or1 (tt_cmp (o_ne hu) (PF.pp (pf_ct c_int z_int (ar_cons (PF.pp (pf_fn F_shown (hr.mono (by decide)) (ar_cons (pv' 4) (ar_cons (PF.pp pk_int) ar_nil)))) ar_nil))) (pv' 4)))))) (ss_one (ss_ret (mm_pf pk_bl))) ss_nil)
    (ss_cons (ss_set (i := 5) nd (mm_pf (pf_fn F_wheel_turns (hr.mono (by decide)) (ar_cons (pv' 3) (ar_cons (pv' 4) ar_nil)))))
    (ss_cons (ss_if (mt_pt (PWt.pt (tw_or (tt_cmp (o_ne hu) (pp_ix (pv' 5) (PF.pp pk_int)) (PF.pp (pf_op o_sub (pv' 4) (pv' 3)))) (tw_or1 (tt_cmp (o_ne hu) (PF.pp (pf_cb (c_sum) z_sum (ar_cons (pv' 5) ar_nil))) (PF.pp (pf_fn F_turned_between (hr.mono (by decide)) (ar_cons (pv' 3) (ar_cons (pv' 4) ar_nil))))))))) (ss_one (ss_ret (mm_pf pk_bl))) ss_nil)
    (ss_cons (ss_if (mt_pt (tt_cmp (o_ne hu) (PF.pp (pf_fn F_trip_time (hr.mono (by decide)) (ar_cons (pv' 2) ar_nil))) (PF.pp (pf_fn F_law_sum (hr.mono (by decide)) (ar_cons (PF.pp (pf_lc (own := [("part", 16)]) nd (pi_self (pv' 2)) (blkOk_by (own := [("part", 16)]) (N := N_law_are_rest_right) (sc := defScope s_law_are_rest_right) (by decide +kernel)) (fun _ _ _ _ _ => (gt_name 16 nd)) (fun _ _ _ _ _ => ts_nil) (fun _ _ _ _ _ => (pf_fn F_law_low (hr.mono (by decide)) (ar_cons (pp_ix (pv' 16) (PF.pp pk_int)) (ar_cons (pp_ix (pv' 16) (PF.pp pk_int)) ar_nil)))))) ar_nil))))) (ss_one (ss_ret (mm_pf pk_bl))) ss_nil)
    (ss_cons (ss_asg (mm_tup (mn_cons (mm_pf (PP.frz (pp_ix (pv' 1) (PF.pp pk_int)))) (mn_cons (mm_pf (PP.frz (pp_ix (pv' 1) (PF.pp pk_int)))) (mn_cons (mm_io F_law_draw (hr.mono (by decide)) (mh_hole (i := 0) (ma_cons (mv_pf pk_int) ma_nil))) mn_nil)))) (mg_tup (mgs_cons (mg_name 6 nd) (mgs_cons (mg_name 7 nd) (mgs_cons (mg_name 8 nd) mgs_nil))) (bl_cons (bl_cons (bl_cons bl_nil)))))
    (ss_cons (ss_set (i := 9) nd (mm_fn F_law_low (hr.mono (by decide)) (ma_cons (mv_mm (mm_io F_law_draw (hr.mono (by decide)) (mh_hole (i := 0) (ma_cons (mv_pf pk_int) ma_nil)))) (ma_cons (mv_mm (mm_op o_add (mv_pf pk_int) (mv_mm (mm_io F_law_draw (hr.mono (by decide)) (mh_hole (i := 0) (ma_cons (mv_pf pk_int) ma_nil)))))) ma_nil))))
    (ss_cons (ss_for (mi_of (it_enum z_enumerate) (ma_cons (mv_pf (pf_fn F_wheel_pulls_gearboxes (hr.mono (by decide)) (ar_cons (pv' 6) (ar_cons (pv' 7) (ar_cons (pv' 9) ar_nil))))) ma_nil)) (bg_tup (bgs_cons (bg_name 10 nd) (bgs_cons (bg_name 11 nd) bgs_nil)) (bl_cons (bl_cons bl_nil))) (ss_cons (ss_set (i := 14) nd (mm_pf (pf_fn F_revs_at (hr.mono (by decide)) (ar_cons (pv' 6) (ar_cons (pv' 10) (ar_cons (pv' 9) ar_nil))))))
    (ss_cons (ss_set (i := 15) nd (mm_pf (pf_if (PWt.pt (tw_and (tt_cmp (o_le hu) (pp_ix (pv' 14) (PF.pp pk_int)) (PF.pp (pf_op o_pow (PF.pp pk_int) (PF.pp pk_int)))) (tw_and1 (tt_cmp (o_le hu) (pp_ix (pv' 14) (PF.pp pk_int)) (PF.pp (pf_op o_pow (PF.pp pk_int) (PF.pp pk_int))))))) (pf_fn F_pull_at (hr.mono (by decide)) (ar_cons (pv' 7) (ar_cons (pv' 14) ar_nil))) pk_non)))
    (ss_cons (ss_if (mt_pt (PWt.pt (tw_or (tt_cmp (o_ne hu) (pv' 14) (PF.pp (pf_fn F_law_times (hr.mono (by decide)) (ar_cons (pp_ix (pv' 6) (pv' 10)) (ar_cons (pv' 9) ar_nil))))) (tw_or1 (PWt.pt (tw_and (tt_cmp (o_le hu) (pp_ix (pv' 14) (PF.pp pk_int)) (PF.pp pk_int)) (tw_and1 (tt_cmp (o_ne hu) (PF.pp (pf_fn F_wheel_at (hr.mono (by decide)) (ar_cons (pv' 6) (ar_cons (pv' 10) (ar_cons (pv' 14) ar_nil))))) (pv' 9))))))))) (ss_one (ss_ret (mm_pf pk_bl))) ss_nil)
    (ss_one (ss_if (mt_pt (PWt.pt (tw_and (tt_cmp (o_isNot) (pv' 15) (PF.pp pk_non)) (tw_and1 (tt_cmp (o_ne hu) (pv' 11) (PF.pp (pf_fn F_law_times (hr.mono (by decide)) (ar_cons (pp_ix (pv' 6) (pv' 10)) (ar_cons (PF.pp (pf_tup (an_cons (PP.frz (pv' 15)) (an_cons pk_int an_nil)))) ar_nil))))))))) (ss_one (ss_ret (mm_pf pk_bl))) ss_nil))))))
    (ss_cons (ss_set (i := 12) nd (mm_pf (pf_fn F_law_times (hr.mono (by decide)) (ar_cons (PF.pp (pf_tup (an_cons (PP.frz (pp_ix (pp_ix (pv' 7) (PF.pp (pf_un o_neg (PF.pp pk_int)))) (PF.pp pk_int))) (an_cons pk_int an_nil)))) (ar_cons (PF.pp (pf_tup (an_cons (PP.frz (pp_ix (pp_ix (pv' 6) (PF.pp pk_int)) (PF.pp pk_int))) (an_cons (PP.frz (pp_ix (pp_ix (pv' 6) (PF.pp pk_int)) (PF.pp pk_int))) an_nil)))) ar_nil)))))
    (ss_cons (ss_if (mt_pt (PWt.pt (tw_or (tt_cmp (o_ne hu) (PF.pp (pf_fn F_steps_of (hr.mono (by decide)) (ar_cons (pv' 6) ar_nil))) (PF.pp (pf_op o_mul (PF.pp (pf_tup (an_cons (pf_tup (an_cons pk_int (an_cons pk_int an_nil))) an_nil))) (PF.pp (pf_op o_sub (PF.pp (pf_cb (c_len) z_len (ar_cons (pv' 6) ar_nil))) (PF.pp pk_int)))))) (tw_or1 (tt_cmp (o_ne hu) (pp_ix (PF.pp (pf_fn F_tops_of (hr.mono (by decide)) (ar_cons (pv' 6) (ar_cons (pv' 7) ar_nil)))) (PF.pp pk_int)) (pv' 12)))))) (ss_one (ss_ret (mm_pf pk_bl))) ss_nil)
    (ss_cons (ss_setLc (i := 13) (own := [("speed", 17)]) nd (pi_of (it_rg2 z_range) (ar_cons (PF.pp pk_int) (ar_cons (PF.pp pk_int) ar_nil))) (blkOk_by (own := [("speed", 17)]) (N := N_law_are_rest_right) (sc := defScope s_law_are_rest_right) (by decide +kernel)) (fun _ _ _ _ _ => (gt_name 17 nd)) (fun _ _ _ _ _ => (ts_one (tt_cmp (o_ne hu) (PF.pp (pf_fn F_law_good (hr.mono (by decide)) (ar_cons (pv' 1) (ar_cons (PF.pp (pf_tup (an_cons pk_int (an_cons (PP.frz (pv' 17)) (an_cons (PP.frz (pv' 8)) an_nil))))) ar_nil)))) (PF.pp (pf_lst an_nil))))) (fun _ _ _ _ _ => (PP.frz (pv' 17))) (sw_true rfl rfl rfl (by decide +kernel)))
    (ss_one (ss_ret (mm_pf (pf_cmp (o_eq hu) (PF.pp (pf_fn F_top_speed (hr.mono (by decide)) (ar_cons (pv' 1) (ar_cons (pv' 8) ar_nil)))) (PF.pp (pf_if (tt_cmp (o_ne hu) (pv' 13) (PF.pp (pf_lst an_nil))) (PP.frz (pp_ix (pv' 13) (PF.pp (pf_un o_neg (PF.pp pk_int))))) pk_non))))))))))))))))))⟩
abbrev N_is_trip_told : List Str := ["drive", "trip", "thing", "at", "pulls", "gear", "part"]
theorem sc_is_trip_told : FnScope N_is_trip_told ["drive", "trip", "thing"] (defScope s_is_trip_told) := ⟨rfl, rfl, rfl, by decide +kernel, rfl, by decide +kernel, by decide +kernel⟩
noncomputable def m_is_trip_told (g_drive_pulls : List D → Option D) (g_gears_good : List D → Option D) (g_is_within : List D → Option D) (g_is_row : List D → Option D) (g_check_drive : List D → Option D) : FS := (sSeq (sExpr (mP (eFn 2 g_check_drive (aCons (eVar 0) (aCons (eVar 1) aNil)))))
  (sSeq (sIf (mT (bOr (bNot (tst (e1 (gIsa "tuple") (eVar 2)))) (bOr (tst (e2 cmpNe (eCall gLen (aCons (eVar 2) aNil)) (eC (.int 2)))) (bNot (tst (e1 (gIsa "str") (e2 gIx (eVar 2) (eC (.int 0))))))))) (sRet (mP (eC (.bool false)))) sNext)
  (sSeq (sIf (mT (tst (e2 cmpEq (e2 gIx (eVar 2) (eC (.int 0))) (eC (.str "trip"))))) (sSeq (sIf (mT (bNot (tst (eFn 4 g_is_row (aCons (e2 gIx (eVar 2) (eC (.int 1))) (aCons (eCall gLen (aCons (eVar 1) aNil)) (aCons (eC (.int 0)) (aCons (e2 gSub (eCall gLen (aCons (e2 gIx (eVar 0) (eC (.int 2))) aNil)) (eC (.int 1))) aNil)))))))) (sRet (mP (eC (.bool false)))) sNext)
  (sRet (mP (eCall gAll (aCons (eLc [5, 6] (iOf giZip (aCons (e2 gIx (eVar 2) (eC (.int 1))) (aCons (eVar 1) aNil))) (bTup (bCons (bName 5) (bCons (bName 6) bNil))) bTrue (e2 cmpIn (eVar 5) (eFn 2 g_gears_good (aCons (eVar 0) (aCons (eVar 6) aNil))))) aNil))))) sNext)
  (sSeq (sIf (mT (bOr (tst (e2 cmpNe (e2 gIx (eVar 2) (eC (.int 0))) (eC (.str "stop")))) (bOr (bNot (tst (e1 (gIsa "tuple") (e2 gIx (eVar 2) (eC (.int 1)))))) (tst (e2 cmpNe (eCall gLen (aCons (e2 gIx (eVar 2) (eC (.int 1))) aNil)) (eC (.int 2))))))) (sRet (mP (eC (.bool false)))) sNext)
  (sSeq (sAsg (bTup (bCons (mbName 3) (bCons (mbName 4) bNil))) (mP (eFrz (e2 gIx (eVar 2) (eC (.int 1))))))
  (sSeq (sIf (mT (bOr (bNot (tst (eFn 3 g_is_within (aCons (eVar 3) (aCons (eC (.int 0)) (aCons (e2 gSub (eCall gLen (aCons (eVar 1) aNil)) (eC (.int 1))) aNil)))))) (tst (e2 cmpNe (eFn 2 g_gears_good (aCons (eVar 0) (aCons (e2 gIx (eVar 1) (eVar 3)) aNil))) (eLst aNil))))) (sRet (mP (eC (.bool false)))) sNext)
  (sRet (mP (e2 cmpEq (eCall gRepr (aCons (eVar 4) aNil)) (eCall gRepr (aCons (eFn 2 g_drive_pulls (aCons (eVar 0) (aCons (e2 gIx (e2 gIx (eVar 1) (eVar 3)) (eC (.int 1))) aNil))) aNil)))))))))))
theorem F_is_trip_told {f : Addr} {fd : FuncData} (F : Fun K "is_trip_told" "is_trip_told" s_is_trip_told f fd) (hb : L2.Binds K fd ["drive", "trip", "thing"] []) (hm : mg "is_trip_told" = some (.ref f)) (z_repr : mg "repr" = none) (z_len : mg "len" = none) (z_isinstance : mg "isinstance" = none) (z_tuple : mg "tuple" = none) (z_zip : mg "zip" = none) (z_all : mg "all" = none) (z_str : mg "str" = none) {g_drive_pulls : List D → Option D} (F_drive_pulls : FnD P w K mg base "drive_pulls" 7 (spP K 2 g_drive_pulls)) {g_gears_good : List D → Option D} (F_gears_good : FnD P w K mg base "gears_good" 7 (spP K 2 g_gears_good)) {g_is_within : List D → Option D} (F_is_within : FnD P w K mg base "is_within" 2 (spP K 3 g_is_within)) {g_is_row : List D → Option D} (F_is_row : FnD P w K mg base "is_row" 3 (spP K 4 g_is_row)) {g_check_drive : List D → Option D} (F_check_drive : FnD P w K mg base "check_drive" 6 (spP K 2 g_check_drive))
    {g : List D → Option D} (law : ∀ ds d, ds.length = 3 → g ds = some d → m_is_trip_told g_drive_pulls g_gears_good g_is_within g_is_row g_check_drive (seP d) (envP ds 4)) : FnD P w K mg base "is_trip_told" 8 (spP K 3 g) := by
  refine fnP (k := 7) F sc_is_trip_told hb hm (fun cdv A outer s H E hr => ?_) law
  have hu := hu64 hr
  have hu1 := hu1G hr
  have nd := sc_is_trip_told.nd
  exact ⟨_, (ss_cons (ss_expr (mm_pf (pf_fn F_check_drive (hr.mono (by decide)) (ar_cons (pv' 0) (ar_cons (pv' 1) ar_nil)))))
    (ss_cons (ss_if (mt_pt (PWt.pt (tw_or (tt_not (tt_val (PF.pp (pf_isa z_isinstance z_tuple (pv' 2))))) (tw_or (tt_cmp (o_ne hu) (PF.pp (pf_cb (c_len) z_len (ar_cons (pv' 2) ar_nil))) (PF.pp pk_int)) (tw_or1 (tt_not (tt_val (PF.pp (pf_isa z_isinstance z_str (pp_ix (pv' 2) (PF.pp pk_int))))))))))) (ss_one (ss_ret (mm_pf pk_bl))) ss_nil)
    (ss_cons (ss_if (mt_pt (tt_cmp (o_eq hu) (pp_ix (pv' 2) (PF.pp pk_int)) (PF.pp pk_str))) (ss_cons (ss_if (mt_pt (tt_not (tt_val (PF.pp (pf_fn F_is_row (hr.mono (by decide)) (ar_cons (pp_ix (pv' 2) (PF.pp pk_int)) (ar_cons (PF.pp (pf_cb (c_len) z_len (ar_cons (pv' 1) ar_nil))) (ar_cons (PF.pp pk_int) (ar_cons (PF.pp (pf_op o_sub (PF.pp (pf_cb (c_len) z_len (ar_cons (pp_ix (pv' 0) (PF.pp pk_int)) ar_nil))) (PF.pp pk_int))) ar_nil))))))))) (ss_one (ss_ret (mm_pf pk_bl))) ss_nil)
    (ss_one (ss_ret (mm_pf (pf_cb (c_all) z_all (ar_cons (PF.pp (pf_lc (own := [("gear", 5), ("part", 6)]) nd (pi_of (it_zip z_zip) (ar_cons (pp_ix (pv' 2) (PF.pp pk_int)) (ar_cons (pv' 1) ar_nil))) (blkOk_by (own := [("gear", 5), ("part", 6)]) (N := N_is_trip_told) (sc := defScope s_is_trip_told) (by decide +kernel)) (fun _ _ _ _ _ => (gt_tup (gs_cons (gt_name 5 nd) (gs_cons (gt_name 6 nd) gs_nil)) (bl_cons (bl_cons bl_nil)))) (fun _ _ _ _ _ => ts_nil) (fun _ _ _ _ _ => (pf_cmp (o_in hu) (pv' 5) (PF.pp (pf_fn F_gears_good (hr.mono (by decide)) (ar_cons (pv' 0) (ar_cons (pv' 6) ar_nil)))))))) ar_nil)))))) ss_nil)
    (ss_cons (ss_if (mt_pt (PWt.pt (tw_or (tt_cmp (o_ne hu) (pp_ix (pv' 2) (PF.pp pk_int)) (PF.pp pk_str)) (tw_or (tt_not (tt_val (PF.pp (pf_isa z_isinstance z_tuple (pp_ix (pv' 2) (PF.pp pk_int)))))) (tw_or1 (tt_cmp (o_ne hu) (PF.pp (pf_cb (c_len) z_len (ar_cons (pp_ix (pv' 2) (PF.pp pk_int)) ar_nil))) (PF.pp pk_int))))))) (ss_one (ss_ret (mm_pf pk_bl))) ss_nil)
    (ss_cons (ss_asg (mm_pf (PP.frz (pp_ix (pv' 2) (PF.pp pk_int)))) (mg_tup (mgs_cons (mg_name 3 nd) (mgs_cons (mg_name 4 nd) mgs_nil)) (bl_cons (bl_cons bl_nil))))
    (ss_cons (ss_if (mt_pt (PWt.pt (tw_or (tt_not (tt_val (PF.pp (pf_fn F_is_within (hr.mono (by decide)) (ar_cons (pv' 3) (ar_cons (PF.pp pk_int) (ar_cons (PF.pp (pf_op o_sub (PF.pp (pf_cb (c_len) z_len (ar_cons (pv' 1) ar_nil))) (PF.pp pk_int))) ar_nil))))))) (tw_or1 (tt_cmp (o_ne hu) (PF.pp (pf_fn F_gears_good (hr.mono (by decide)) (ar_cons (pv' 0) (ar_cons (pp_ix (pv' 1) (pv' 3)) ar_nil)))) (PF.pp (pf_lst an_nil))))))) (ss_one (ss_ret (mm_pf pk_bl))) ss_nil)
    (ss_one (ss_ret (mm_pf (pf_cmp (o_eq hu) (PF.pp (pf_cb (c_repr hu hr.g) z_repr (ar_cons (pv' 4) ar_nil))) (PF.pp (pf_cb (c_repr hu hr.g) z_repr (ar_cons (PF.pp (pf_fn F_drive_pulls (hr.mono (by decide)) (ar_cons (pv' 0) (ar_cons (pp_ix (pp_ix (pv' 1) (pv' 3)) (PF.pp pk_int)) ar_nil)))) ar_nil)))))))))))))⟩
abbrev N_trip_turns : List Str := ["drive", "trip", "gears", "found", "part", "gear"]
theorem sc_trip_turns : FnScope N_trip_turns ["drive", "trip", "gears"] (defScope s_trip_turns) := ⟨rfl, rfl, rfl, by decide +kernel, rfl, by decide +kernel, by decide +kernel⟩
noncomputable def m_trip_turns (g_plus : List D → Option D) (g_times : List D → Option D) (g_shaft_turns : List D → Option D) (g_is_row : List D → Option D) (g_check_drive : List D → Option D) : FS := (sSeq (sExpr (mP (eFn 2 g_check_drive (aCons (eVar 0) (aCons (eVar 1) aNil)))))
  (sSeq (sIf (mT (bNot (tst (eFn 4 g_is_row (aCons (eVar 2) (aCons (eCall gLen (aCons (eVar 1) aNil)) (aCons (eC (.int 0)) (aCons (e2 gSub (eCall gLen (aCons (e2 gIx (eVar 0) (eC (.int 2))) aNil)) (eC (.int 1))) aNil)))))))) sNever sNext)
  (sSeq (sSet 3 (mP (eTup (aCons (eC (.int 0)) (aCons (eC (.int 1)) aNil)))))
  (sSeq (sFor (miOf giZip (maCons (mLend 1) (maCons (mLend 2) maNil))) (bTup (bCons (bbName 4) (bCons (bbName 5) bNil))) (sSet 3 (mP (eFn 2 g_plus (aCons (eVar 3) (aCons (eFn 2 g_times (aCons (eFn 2 g_shaft_turns (aCons (eVar 0) (aCons (eTup (aCons (eFrz (e2 gIx (eVar 4) (eC (.int 0)))) (aCons (eC (.int 1)) aNil))) aNil))) (aCons (e2 gIx (e2 gIx (eVar 0) (eC (.int 2))) (eVar 5)) aNil))) aNil))))))
  (sRet (mVar 3))))))
theorem F_trip_turns {f : Addr} {fd : FuncData} (F : Fun K "trip_turns" "trip_turns" s_trip_turns f fd) (hb : L2.Binds K fd ["drive", "trip", "gears"] []) (hm : mg "trip_turns" = some (.ref f)) (z_zip : mg "zip" = none) (z_len : mg "len" = none) {g_plus : List D → Option D} (F_plus : FnD P w K mg base "plus" 3 (spP K 2 g_plus)) {g_times : List D → Option D} (F_times : FnD P w K mg base "times" 3 (spP K 2 g_times)) {g_shaft_turns : List D → Option D} (F_shaft_turns : FnD P w K mg base "shaft_turns" 4 (spP K 2 g_shaft_turns)) {g_is_row : List D → Option D} (F_is_row : FnD P w K mg base "is_row" 3 (spP K 4 g_is_row)) {g_check_drive : List D → Option D} (F_check_drive : FnD P w K mg base "check_drive" 6 (spP K 2 g_check_drive))
    {g : List D → Option D} (law : ∀ ds d, ds.length = 3 → g ds = some d → m_trip_turns g_plus g_times g_shaft_turns g_is_row g_check_drive (seP d) (envP ds 3)) : FnD P w K mg base "trip_turns" 7 (spP K 3 g) := by
  refine fnP (k := 6) F sc_trip_turns hb hm (fun cdv A outer s H E hr => ?_) law
  have hu := hu64 hr
  have hu1 := hu1G hr
  have nd := sc_trip_turns.nd
  exact ⟨_, (ss_cons (ss_expr (mm_pf (pf_fn F_check_drive (hr.mono (by decide)) (ar_cons (pv' 0) (ar_cons (pv' 1) ar_nil)))))
    (ss_cons (ss_if (mt_pt (tt_not (tt_val (PF.pp (pf_fn F_is_row (hr.mono (by decide)) (ar_cons (pv' 2) (ar_cons (PF.pp (pf_cb (c_len) z_len (ar_cons (pv' 1) ar_nil))) (ar_cons (PF.pp pk_int) (ar_cons (PF.pp (pf_op o_sub (PF.pp (pf_cb (c_len) z_len (ar_cons (pp_ix (pv' 0) (PF.pp pk_int)) ar_nil))) (PF.pp pk_int))) ar_nil))))))))) (ss_one ss_never) ss_nil)
    (ss_cons (ss_set (i := 3) nd (mm_pf (pf_tup (an_cons pk_int (an_cons pk_int an_nil)))))
    (ss_cons (ss_for (mi_of (it_zip z_zip) (ma_cons (mv_var 1) (ma_cons (mv_var 2) ma_nil))) (bg_tup (bgs_cons (bg_name 4 nd) (bgs_cons (bg_name 5 nd) bgs_nil)) (bl_cons (bl_cons bl_nil))) (ss_one (ss_set (i := 3) nd (mm_pf (pf_fn F_plus (hr.mono (by decide)) (ar_cons (pv' 3) (ar_cons (PF.pp (pf_fn F_times (hr.mono (by decide)) (ar_cons (PF.pp (pf_fn F_shaft_turns (hr.mono (by decide)) (ar_cons (pv' 0) (ar_cons (PF.pp (pf_tup (an_cons (PP.frz (pp_ix (pv' 4) (PF.pp pk_int))) (an_cons pk_int an_nil)))) ar_nil)))) (ar_cons (pp_ix (pp_ix (pv' 0) (PF.pp pk_int)) (pv' 5)) ar_nil)))) ar_nil)))))))
    (ss_one (ss_ret (mm_var 3)))))))⟩
abbrev N_fewest_turns : List Str := ["drive", "trip", "word", "gears"]
theorem sc_fewest_turns : FnScope N_fewest_turns ["drive", "trip"] (defScope s_fewest_turns) := ⟨rfl, rfl, rfl, by decide +kernel, rfl, by decide +kernel, by decide +kernel⟩
noncomputable def m_fewest_turns (g_trip_turns : List D → Option D) (g_trip_told : List D → Option D) : FS := (sSeq (sAsg (bTup (bCons (mbName 2) (bCons (mbName 3) bNil))) (mP (eFn 2 g_trip_told (aCons (eVar 0) (aCons (eVar 1) aNil)))))
  (sRet (mP (eIf (tst (e2 cmpEq (eVar 2) (eC (.str "trip")))) (eFn 3 g_trip_turns (aCons (eVar 0) (aCons (eVar 1) (aCons (eVar 3) aNil)))) (eC .none)))))
theorem F_fewest_turns {f : Addr} {fd : FuncData} (F : Fun K "fewest_turns" "fewest_turns" s_fewest_turns f fd) (hb : L2.Binds K fd ["drive", "trip"] []) (hm : mg "fewest_turns" = some (.ref f)) {g_trip_turns : List D → Option D} (F_trip_turns : FnD P w K mg base "trip_turns" 7 (spP K 3 g_trip_turns)) {g_trip_told : List D → Option D} (F_trip_told : FnD P w K mg base "trip_told" 8 (spP K 2 g_trip_told))
    {g : List D → Option D} (law : ∀ ds d, ds.length = 2 → g ds = some d → m_fewest_turns g_trip_turns g_trip_told (seP d) (envP ds 2)) : FnD P w K mg base "fewest_turns" 9 (spP K 2 g) := by
  refine fnP (k := 8) F sc_fewest_turns hb hm (fun cdv A outer s H E hr => ?_) law
  have hu := hu64 hr
  have hu1 := hu1G hr
  have nd := sc_fewest_turns.nd
  exact ⟨_, (ss_cons (ss_asg (mm_pf (pf_fn F_trip_told (hr.mono (by decide)) (ar_cons (pv' 0) (ar_cons (pv' 1) ar_nil)))) (mg_tup (mgs_cons (mg_name 2 nd) (mgs_cons (mg_name 3 nd) mgs_nil)) (bl_cons (bl_cons bl_nil))))
    (ss_one (ss_ret (mm_pf (pf_if (tt_cmp (o_eq hu) (pv' 2) (PF.pp pk_str)) (pf_fn F_trip_turns (hr.mono (by decide)) (ar_cons (pv' 0) (ar_cons (pv' 1) (ar_cons (pv' 3) ar_nil)))) pk_non)))))⟩
abbrev N_is_some : List Str := ["thing", "fewest", "most", "floor", "roof"]
theorem sc_is_some : FnScope N_is_some ["thing", "fewest", "most", "floor", "roof"] (defScope s_is_some) := ⟨rfl, rfl, rfl, by decide +kernel, rfl, by decide +kernel, by decide +kernel⟩
noncomputable def m_is_some (g_is_row : List D → Option D) : FS := (sRet (mP (eAnd (e1 (gIsa "tuple") (eVar 0)) (eAnd (eChain cmpLe cmpLe (eVar 1) (eCall gLen (aCons (eVar 0) aNil)) (eVar 2)) (eFn 4 g_is_row (aCons (eVar 0) (aCons (eCall gLen (aCons (eVar 0) aNil)) (aCons (eVar 3) (aCons (eVar 4) aNil)))))))))
theorem F_is_some {f : Addr} {fd : FuncData} (F : Fun K "is_some" "is_some" s_is_some f fd) (hb : L2.Binds K fd ["thing", "fewest", "most", "floor", "roof"] []) (hm : mg "is_some" = some (.ref f)) (z_len : mg "len" = none) (z_isinstance : mg "isinstance" = none) (z_tuple : mg "tuple" = none) {g_is_row : List D → Option D} (F_is_row : FnD P w K mg base "is_row" 3 (spP K 4 g_is_row))
    {g : List D → Option D} (law : ∀ ds d, ds.length = 5 → g ds = some d → m_is_some g_is_row (seP d) (envP ds 0)) : FnD P w K mg base "is_some" 4 (spP K 5 g) := by
  refine fnP (k := 3) F sc_is_some hb hm (fun cdv A outer s H E hr => ?_) law
  have hu := hu64 hr
  have hu1 := hu1G hr
  have nd := sc_is_some.nd
  exact ⟨_, (ss_one (ss_ret (mm_pf (pf_and (PF.pp (pf_isa z_isinstance z_tuple (pv' 0))) (pf_and (PF.pp (pf_chain (o_le hu) (o_le hu) (pv' 1) (PF.pp (pf_cb (c_len) z_len (ar_cons (pv' 0) ar_nil))) (pv' 2))) (pf_one (pf_fn F_is_row (hr.mono (by decide)) (ar_cons (pv' 0) (ar_cons (PF.pp (pf_cb (c_len) z_len (ar_cons (pv' 0) ar_nil))) (ar_cons (pv' 3) (ar_cons (pv' 4) ar_nil)))))))))))⟩
abbrev N_is_belt : List Str := ["thing"]
theorem sc_is_belt : FnScope N_is_belt ["thing"] (defScope s_is_belt) := ⟨rfl, rfl, rfl, by decide +kernel, rfl, by decide +kernel, by decide +kernel⟩
noncomputable def m_is_belt (g_is_some : List D → Option D) : FS := (sRet (mP (eFn 5 g_is_some (aCons (eVar 0) (aCons (eC (.int 1)) (aCons (eC (.int 6)) (aCons (eC (.int 2)) (aCons (eC (.int 400)) aNil))))))))
theorem F_is_belt {f : Addr} {fd : FuncData} (F : Fun K "is_belt" "is_belt" s_is_belt f fd) (hb : L2.Binds K fd ["thing"] []) (hm : mg "is_belt" = some (.ref f)) {g_is_some : List D → Option D} (F_is_some : FnD P w K mg base "is_some" 4 (spP K 5 g_is_some))
    {g : List D → Option D} (law : ∀ ds d, ds.length = 1 → g ds = some d → m_is_belt g_is_some (seP d) (envP ds 0)) : FnD P w K mg base "is_belt" 5 (spP K 1 g) := by
  refine fnP (k := 4) F sc_is_belt hb hm (fun cdv A outer s H E hr => ?_) law
  have hu := hu64 hr
  have hu1 := hu1G hr
  have nd := sc_is_belt.nd
  exact ⟨_, (ss_one (ss_ret (mm_pf (pf_fn F_is_some (hr.mono (by decide)) (ar_cons (pv' 0) (ar_cons (PF.pp pk_int) (ar_cons (PF.pp pk_int) (ar_cons (PF.pp pk_int) (ar_cons (PF.pp pk_int) ar_nil)))))))))⟩
abbrev N_check_belt : List Str := ["belt"]
theorem sc_check_belt : FnScope N_check_belt ["belt"] (defScope s_check_belt) := ⟨rfl, rfl, rfl, by decide +kernel, rfl, by decide +kernel, by decide +kernel⟩
noncomputable def m_check_belt (g_is_belt : List D → Option D) : FS := (sIf (mT (bNot (tst (eFn 1 g_is_belt (aCons (eVar 0) aNil))))) sNever sNext)
theorem F_check_belt {f : Addr} {fd : FuncData} (F : Fun K "check_belt" "check_belt" s_check_belt f fd) (hb : L2.Binds K fd ["belt"] []) (hm : mg "check_belt" = some (.ref f)) {g_is_belt : List D → Option D} (F_is_belt : FnD P w K mg base "is_belt" 5 (spP K 1 g_is_belt))
    {g : List D → Option D} (law : ∀ ds d, ds.length = 1 → g ds = some d → m_check_belt g_is_belt (seP d) (envP ds 0)) : FnD P w K mg base "check_belt" 6 (spP K 1 g) := by
  refine fnP (k := 5) F sc_check_belt hb hm (fun cdv A outer s H E hr => ?_) law
  have hu := hu64 hr
  have hu1 := hu1G hr
  have nd := sc_check_belt.nd
  exact ⟨_, (ss_one (ss_if (mt_pt (tt_not (tt_val (PF.pp (pf_fn F_is_belt (hr.mono (by decide)) (ar_cons (pv' 0) ar_nil)))))) (ss_one ss_never) ss_nil))⟩
abbrev N_check_moved : List Str := ["moved"]
theorem sc_check_moved : FnScope N_check_moved ["moved"] (defScope s_check_moved) := ⟨rfl, rfl, rfl, by decide +kernel, rfl, by decide +kernel, by decide +kernel⟩
noncomputable def m_check_moved (g_is_within : List D → Option D) : FS := (sIf (mT (bNot (tst (eFn 3 g_is_within (aCons (eVar 0) (aCons (eC (.int 0)) (aCons (e2 gPow (eC (.int 10)) (eC (.int 20))) aNil))))))) sNever sNext)
theorem F_check_moved {f : Addr} {fd : FuncData} (F : Fun K "check_moved" "check_moved" s_check_moved f fd) (hb : L2.Binds K fd ["moved"] []) (hm : mg "check_moved" = some (.ref f)) {g_is_within : List D → Option D} (F_is_within : FnD P w K mg base "is_within" 2 (spP K 3 g_is_within))
    {g : List D → Option D} (law : ∀ ds d, ds.length = 1 → g ds = some d → m_check_moved g_is_within (seP d) (envP ds 0)) : FnD P w K mg base "check_moved" 3 (spP K 1 g) := by
  refine fnP (k := 2) F sc_check_moved hb hm (fun cdv A outer s H E hr => ?_) law
  have hu := hu64 hr
  have hu1 := hu1G hr
  have nd := sc_check_moved.nd
  exact ⟨_, (ss_one (ss_if (mt_pt (tt_not (tt_val (PF.pp (pf_fn F_is_within (hr.mono (by decide)) (ar_cons (pv' 0) (ar_cons (PF.pp pk_int) (ar_cons (PF.pp (pf_op o_pow (PF.pp pk_int) (PF.pp pk_int))) ar_nil)))))))) (ss_one ss_never) ss_nil))⟩
abbrev N_marks_after : List Str := ["belt", "moved", "teeth"]
theorem sc_marks_after : FnScope N_marks_after ["belt", "moved"] (defScope s_marks_after) := ⟨rfl, rfl, rfl, by decide +kernel, rfl, by decide +kernel, by decide +kernel⟩
noncomputable def m_marks_after (g_check_moved : List D → Option D) (g_check_belt : List D → Option D) : FS := (sSeq (sExpr (mP (eFn 1 g_check_belt (aCons (eVar 0) aNil))))
  (sSeq (sExpr (mP (eFn 1 g_check_moved (aCons (eVar 1) aNil))))
  (sRet (mP (eCall gTupOf (aCons (eLc [2] (iSelf (eVar 0)) (bName 2) bTrue (e2 gMod (eVar 1) (eVar 2))) aNil))))))
theorem F_marks_after {f : Addr} {fd : FuncData} (F : Fun K "marks_after" "marks_after" s_marks_after f fd) (hb : L2.Binds K fd ["belt", "moved"] []) (hm : mg "marks_after" = some (.ref f)) (z_tuple : mg "tuple" = none) {g_check_moved : List D → Option D} (F_check_moved : FnD P w K mg base "check_moved" 3 (spP K 1 g_check_moved)) {g_check_belt : List D → Option D} (F_check_belt : FnD P w K mg base "check_belt" 6 (spP K 1 g_check_belt))
    {g : List D → Option D} (law : ∀ ds d, ds.length = 2 → g ds = some d → m_marks_after g_check_moved g_check_belt (seP d) (envP ds 1)) : FnD P w K mg base "marks_after" 7 (spP K 2 g) := by
  refine fnP (k := 6) F sc_marks_after hb hm (fun cdv A outer s H E hr => ?_) law
  have hu := hu64 hr
  have hu1 := hu1G hr
  have nd := sc_marks_after.nd
  exact ⟨_, (ss_cons (ss_expr (mm_pf (pf_fn F_check_belt (hr.mono (by decide)) (ar_cons (pv' 0) ar_nil))))
    (ss_cons (ss_expr (mm_pf (pf_fn F_check_moved (hr.mono (by decide)) (ar_cons (pv' 1) ar_nil))))
    (ss_one (ss_ret (mm_pf (pf_ct c_tuple z_tuple (ar_cons (PF.pp (pf_lc (own := [("teeth", 2)]) nd (pi_self (pv' 0)) (blkOk_by (own := [("teeth", 2)]) (N := N_marks_after) (sc := defScope s_marks_after) (by decide +kernel)) (fun _ _ _ _ _ => (gt_name 2 nd)) (fun _ _ _ _ _ => ts_nil) (fun _ _ _ _ _ => (pf_op o_mod (pv' 1) (pv' 2))))) ar_nil)))))))⟩
abbrev N_belt_after : List Str := ["drive", "trip", "belt", "turns"]
theorem sc_belt_after : FnScope N_belt_after ["drive", "trip", "belt"] (defScope s_belt_after) := ⟨rfl, rfl, rfl, by decide +kernel, rfl, by decide +kernel, by decide +kernel⟩
noncomputable def m_belt_after (g_marks_after : List D → Option D) (g_is_belt : List D → Option D) (g_fewest_turns : List D → Option D) : FS := (sSeq (sSet 3 (mP (eFn 2 g_fewest_turns (aCons (eVar 0) (aCons (eVar 1) aNil)))))
  (sSeq (sIf (mT (bNot (tst (eFn 1 g_is_belt (aCons (eVar 2) aNil))))) sNever sNext)
  (sRet (mP (eIf (tst (e2 gIs (eVar 3) (eC .none))) (eC .none) (eFn 2 g_marks_after (aCons (eVar 2) (aCons (e2 gMul (e2 gFdiv (e2 gIx (eVar 3) (eC (.int 0))) (e2 gIx (eVar 3) (eC (.int 1)))) (e2 gIx (eVar 2) (eC (.int 0)))) aNil))))))))
theorem F_belt_after {f : Addr} {fd : FuncData} (F : Fun K "belt_after" "belt_after" s_belt_after f fd) (hb : L2.Binds K fd ["drive", "trip", "belt"] []) (hm : mg "belt_after" = some (.ref f)) {g_marks_after : List D → Option D} (F_marks_after : FnD P w K mg base "marks_after" 7 (spP K 2 g_marks_after)) {g_is_belt : List D → Option D} (F_is_belt : FnD P w K mg base "is_belt" 5 (spP K 1 g_is_belt)) {g_fewest_turns : List D → Option D} (F_fewest_turns : FnD P w K mg base "fewest_turns" 9 (spP K 2 g_fewest_turns))
    {g : List D → Option D} (law : ∀ ds d, ds.length = 3 → g ds = some d → m_belt_after g_marks_after g_is_belt g_fewest_turns (seP d) (envP ds 1)) : FnD P w K mg base "belt_after" 10 (spP K 3 g) := by
  refine fnP (k := 9) F sc_belt_after hb hm (fun cdv A outer s H E hr => ?_) law
  have hu := hu64 hr
  have hu1 := hu1G hr
  have nd := sc_belt_after.nd
  exact ⟨_, (ss_cons (ss_set (i := 3) nd (mm_pf (pf_fn F_fewest_turns (hr.mono (by decide)) (ar_cons (pv' 0) (ar_cons (pv' 1) ar_nil)))))
    (ss_cons (ss_if (mt_pt (tt_not (tt_val (PF.pp (pf_fn F_is_belt (hr.mono (by decide)) (ar_cons (pv' 2) ar_nil)))))) (ss_one ss_never) ss_nil)
    (ss_one (ss_ret (mm_pf (pf_if (tt_cmp (o_is) (pv' 3) (PF.pp pk_non)) pk_non (pf_fn F_marks_after (hr.mono (by decide)) (ar_cons (pv' 2) (ar_cons (PF.pp (pf_op o_mul (PF.pp (pf_op o_fdiv (pp_ix (pv' 3) (PF.pp pk_int)) (pp_ix (pv' 3) (PF.pp pk_int)))) (pp_ix (pv' 2) (PF.pp pk_int)))) ar_nil)))))))))⟩
abbrev N_check_teeth : List Str := ["numbers", "one"]
theorem sc_check_teeth : FnScope N_check_teeth ["numbers"] (defScope s_check_teeth) := ⟨rfl, rfl, rfl, by decide +kernel, rfl, by decide +kernel, by decide +kernel⟩
noncomputable def m_check_teeth (g_is_within : List D → Option D) : FS := (sIf (mT (bNot (tst (eCall gAll (aCons (eLc [1] (iSelf (eVar 0)) (bName 1) bTrue (eFn 3 g_is_within (aCons (eVar 1) (aCons (eC (.int 2)) (aCons (eC (.int 1000)) aNil))))) aNil))))) sNever sNext)
theorem F_check_teeth {f : Addr} {fd : FuncData} (F : Fun K "check_teeth" "check_teeth" s_check_teeth f fd) (hm : mg "check_teeth" = some (.ref f)) (z_all : mg "all" = none) {g_is_within : List D → Option D} (F_is_within : FnD P w K mg base "is_within" 2 (spP K 3 g_is_within)) (hb : ∀ (dV kV doc pm cdv ct : Value) (an : Option Addr) (us rest : List Value), us.length = ([] : List Str).length → bindArgs (PySem.W.fnOf "check_teeth" "check_teeth" (defArgs s_check_teeth) (defBody s_check_teeth) (defScope s_check_teeth) .none kV doc pm an cdv ct) ⟨us ++ rest, []⟩ = (newTuple rest >>= fun t => pure (([] : List Str).zip us ++ [(("numbers" : Str), t)])))
    {g : List D → Option D} {n : Nat} (hn : 0 ≤ n ∧ n ≤ 1000) (law : ∀ ds d, ds.length = 1 → g ds = some d → m_check_teeth g_is_within (seP d) (envP ds 1)) : FnD P w K mg base "check_teeth" 3 (spP K n (gStar 0 g)) := by
  refine fnS (k := 2) (ps := ([] : List Str)) hn F sc_check_teeth hm hb (fun cdv A outer s H E hr => ?_) law
  have hu := hu64 hr
  have hu1 := hu1G hr
  have nd := sc_check_teeth.nd
  exact ⟨_, (ss_one (ss_if (mt_pt (tt_not (tt_val (PF.pp (pf_cb (c_all) z_all (ar_cons (PF.pp (pf_lc (own := [("one", 1)]) nd (pi_self (pv' 0)) (blkOk_by (own := [("one", 1)]) (N := N_check_teeth) (sc := defScope s_check_teeth) (by decide +kernel)) (fun _ _ _ _ _ => (gt_name 1 nd)) (fun _ _ _ _ _ => ts_nil) (fun _ _ _ _ _ => (pf_fn F_is_within (hr.mono (by decide)) (ar_cons (pv' 1) (ar_cons (PF.pp pk_int) (ar_cons (PF.pp pk_int) ar_nil))))))) ar_nil)))))) (ss_one ss_never) ss_nil))⟩
abbrev N_turned_by : List Str := ["row", "turns", "sign"]
theorem sc_turned_by : FnScope N_turned_by ["row", "turns"] (defScope s_turned_by) := ⟨rfl, rfl, rfl, by decide +kernel, rfl, by decide +kernel, by decide +kernel⟩
noncomputable def m_turned_by (g_times : List D → Option D) (g_low : List D → Option D) (g_is_fraction : List D → Option D) (g_check_teeth : List D → Option D) : FS := (sSeq (sIf (mT (bOr (bNot (tst (e1 (gIsa "tuple") (eVar 0)))) (bNot (tst (eChain cmpLe cmpLe (eC (.int 1)) (eCall gLen (aCons (eVar 0) aNil)) (eC (.int 12))))))) sNever sNext)
  (sSeq (sExpr (mP (eFnS 2 g_check_teeth (eVar 0))))
  (sSeq (sIf (mT (bNot (tst (eFn 1 g_is_fraction (aCons (eVar 1) aNil))))) sNever sNext)
  (sSeq (sSet 2 (mP (eIf (tst (e2 cmpEq (e2 gMod (eCall gLen (aCons (eVar 0) aNil)) (eC (.int 2))) (eC (.int 1)))) (eC (.int 1)) (e1 gNeg (eC (.int 1))))))
  (sRet (mP (eFn 2 g_times (aCons (eVar 1) (aCons (eFn 2 g_low (aCons (e2 gMul (eVar 2) (e2 gIx (eVar 0) (eC (.int 0)))) (aCons (e2 gIx (eVar 0) (e1 gNeg (eC (.int 1)))) aNil))) aNil)))))))))
theorem F_turned_by {f : Addr} {fd : FuncData} (F : Fun K "turned_by" "turned_by" s_turned_by f fd) (hb : L2.Binds K fd ["row", "turns"] []) (hm : mg "turned_by" = some (.ref f)) (z_len : mg "len" = none) (z_isinstance : mg "isinstance" = none) (z_tuple : mg "tuple" = none) {g_times : List D → Option D} (F_times : FnD P w K mg base "times" 3 (spP K 2 g_times)) {g_low : List D → Option D} (F_low : FnD P w K mg base "low" 2 (spP K 2 g_low)) {g_is_fraction : List D → Option D} (F_is_fraction : FnD P w K mg base "is_fraction" 2 (spP K 1 g_is_fraction)) {g_check_teeth : List D → Option D} (F_check_teeth : FnD P w K mg base "check_teeth" 3 (spP K 2 g_check_teeth))
    {g : List D → Option D} (law : ∀ ds d, ds.length = 2 → g ds = some d → m_turned_by g_times g_low g_is_fraction g_check_teeth (seP d) (envP ds 1)) : FnD P w K mg base "turned_by" 4 (spP K 2 g) := by
  refine fnP (k := 3) F sc_turned_by hb hm (fun cdv A outer s H E hr => ?_) law
  have hu := hu64 hr
  have hu1 := hu1G hr
  have nd := sc_turned_by.nd
  exact ⟨_, (ss_cons (ss_if (mt_pt (PWt.pt (tw_or (tt_not (tt_val (PF.pp (pf_isa z_isinstance z_tuple (pv' 0))))) (tw_or1 (tt_not (tt_chain (o_le hu) (o_le hu) (PF.pp pk_int) (PF.pp (pf_cb (c_len) z_len (ar_cons (pv' 0) ar_nil))) (PF.pp pk_int))))))) (ss_one ss_never) ss_nil)
    (ss_cons (ss_expr (mm_pf (pf_fnS1 F_check_teeth (hr.mono (by decide)) (pv' 0))))
    (ss_cons (ss_if (mt_pt (tt_not (tt_val (PF.pp (pf_fn F_is_fraction (hr.mono (by decide)) (ar_cons (pv' 1) ar_nil)))))) (ss_one ss_never) ss_nil)
    (ss_cons (ss_set (i := 2) nd (mm_pf (pf_if (tt_cmp (o_eq hu) (PF.pp (pf_op o_mod (PF.pp (pf_cb (c_len) z_len (ar_cons (pv' 0) ar_nil))) (PF.pp pk_int))) (PF.pp pk_int)) pk_int (pf_un o_neg (PF.pp pk_int)))))
    (ss_one (ss_ret (mm_pf (pf_fn F_times (hr.mono (by decide)) (ar_cons (pv' 1) (ar_cons (PF.pp (pf_fn F_low (hr.mono (by decide)) (ar_cons (PF.pp (pf_op o_mul (pv' 2) (pp_ix (pv' 0) (PF.pp pk_int)))) (ar_cons (pp_ix (pv' 0) (PF.pp (pf_un o_neg (PF.pp pk_int)))) ar_nil)))) ar_nil))))))))))⟩
abbrev N_law_any : List Str := ["hand", "some"]
theorem sc_law_any : FnScope N_law_any ["hand", "some"] (defScope s_law_any) := ⟨rfl, rfl, rfl, by decide +kernel, rfl, by decide +kernel, by decide +kernel⟩
noncomputable def m_law_any (g_law_draw : List D → Option (D × D)) : FS := (sRet (m2 (gFrz gIx) (mLend 1) (mIo 2 0 g_law_draw (mhHole (maCons (mP (eCall gLen (aCons (eVar 1) aNil))) maNil)))))
theorem F_law_any {f : Addr} {fd : FuncData} (F : Fun K "_law_any" "_law_any" s_law_any f fd) (hb : L2.Binds K fd ["hand", "some"] []) (hm : mg "_law_any" = some (.ref f)) (z_len : mg "len" = none) {g_law_draw : List D → Option (D × D)} (F_law_draw : FnD P w K mg base "_law_draw" 1 (spI K 2 0 g_law_draw))
    {g : List D → Option (D × D)} (law : ∀ dpre d dpost r d', dpre.length = 0 → dpre.length + 1 + dpost.length = 2 → g (dpre ++ d :: dpost) = some (r, d') → m_law_any g_law_draw (seI 0 r d') (envI dpre d dpost 0)) : FnD P w K mg base "_law_any" 2 (spI K 2 0 g) := by
  refine fnI (k := 1) 0 F sc_law_any hb hm (fun cdv A outer s H E hr => ?_) law
  have hu := hu64 hr
  have hu1 := hu1G hr
  have nd := sc_law_any.nd
  exact ⟨_, (ss_one (ss_ret (mm_ix (mv_var 1) (mv_mm (mm_io F_law_draw (hr.mono (by decide)) (mh_hole (i := 0) (ma_cons (mv_pf (pf_cb (c_len) z_len (ar_cons (pv' 1) ar_nil))) ma_nil)))))))⟩
abbrev N_round_of : List Str := ["belt", "found", "teeth"]
theorem sc_round_of : FnScope N_round_of ["belt"] (defScope s_round_of) := ⟨rfl, rfl, rfl, by decide +kernel, rfl, by decide +kernel, by decide +kernel⟩
noncomputable def m_round_of (g_shared : List D → Option D) (g_check_belt : List D → Option D) : FS := (sSeq (sExpr (mP (eFn 1 g_check_belt (aCons (eVar 0) aNil))))
  (sSeq (sSet 1 (mP (eC (.int 1))))
  (sSeq (sFor (miSelf (mLend 0)) (bbName 2) (sSet 1 (mP (e2 gFdiv (e2 gMul (eVar 1) (eVar 2)) (eFn 2 g_shared (aCons (eVar 1) (aCons (eVar 2) aNil)))))))
  (sRet (mVar 1)))))
theorem F_round_of {f : Addr} {fd : FuncData} (F : Fun K "round_of" "round_of" s_round_of f fd) (hb : L2.Binds K fd ["belt"] []) (hm : mg "round_of" = some (.ref f)) {g_shared : List D → Option D} (F_shared : FnD P w K mg base "shared" 1 (spP K 2 g_shared)) {g_check_belt : List D → Option D} (F_check_belt : FnD P w K mg base "check_belt" 6 (spP K 1 g_check_belt))
    {g : List D → Option D} (law : ∀ ds d, ds.length = 1 → g ds = some d → m_round_of g_shared g_check_belt (seP d) (envP ds 2)) : FnD P w K mg base "round_of" 7 (spP K 1 g) := by
  refine fnP (k := 6) F sc_round_of hb hm (fun cdv A outer s H E hr => ?_) law
  have hu := hu64 hr
  have hu1 := hu1G hr
  have nd := sc_round_of.nd
  exact ⟨_, (ss_cons (ss_expr (mm_pf (pf_fn F_check_belt (hr.mono (by decide)) (ar_cons (pv' 0) ar_nil))))
    (ss_cons (ss_set (i := 1) nd (mm_pf pk_int))
    (ss_cons (ss_for (mi_self (mv_var 0)) (bg_name 2 nd) (ss_one (ss_set (i := 1) nd (mm_pf (pf_op o_fdiv (PF.pp (pf_op o_mul (pv' 1) (pv' 2))) (PF.pp (pf_fn F_shared (hr.mono (by decide)) (ar_cons (pv' 1) (ar_cons (pv' 2) ar_nil)))))))))
    (ss_one (ss_ret (mm_var 1))))))⟩
abbrev N_law_right : List Str := ["hand", "drive", "trip", "part", "speed", "plain", "good", "told", "stops", "gears", "turns", "gear", "belt", "moved", "pulls", "wheel", "at", "row", "teeth"]
theorem sc_law_right : FnScope N_law_right ["hand"] (defScope s_law_right) := ⟨rfl, rfl, rfl, by decide +kernel, rfl, by decide +kernel, by decide +kernel⟩
noncomputable def m_law_right_0 (g_law_are_rest_right : List D → Option (D × D)) (g_marks_after : List D → Option D) (g_round_of : List D → Option D) (g_belt_after : List D → Option D) (g_law_draw : List D → Option (D × D)) (g_law_is_less : List D → Option D) (g_trip_turns : List D → Option D) (g_fewest_turns : List D → Option D) (g_law_plus : List D → Option D) (g_law_times : List D → Option D) (g_law_low : List D → Option D) (g_is_trip_told : List D → Option D) (g_law_any : List D → Option (D × D)) (g_law_pulls : List D → Option D) (g_trip_told : List D → Option D) (g_law_good : List D → Option D) (g_turned_by : List D → Option D) (g_law_shaft : List D → Option D) (g_drive_pulls : List D → Option D) (g_shaft_at : List D → Option D) (g_law_drive : List D → Option (D × D)) : FS := (sSet 1 (mIo 1 0 g_law_drive (mhHole maNil)))
noncomputable def m_law_right_1 (g_law_are_rest_right : List D → Option (D × D)) (g_marks_after : List D → Option D) (g_round_of : List D → Option D) (g_belt_after : List D → Option D) (g_law_draw : List D → Option (D × D)) (g_law_is_less : List D → Option D) (g_trip_turns : List D → Option D) (g_fewest_turns : List D → Option D) (g_law_plus : List D → Option D) (g_law_times : List D → Option D) (g_law_low : List D → Option D) (g_is_trip_told : List D → Option D) (g_law_any : List D → Option (D × D)) (g_law_pulls : List D → Option D) (g_trip_told : List D → Option D) (g_law_good : List D → Option D) (g_turned_by : List D → Option D) (g_law_shaft : List D → Option D) (g_drive_pulls : List D → Option D) (g_shaft_at : List D → Option D) (g_law_drive : List D → Option (D × D)) : FS := (sSet 2 (mP (eLst aNil)))
noncomputable def m_law_right_2 (g_law_are_rest_right : List D → Option (D × D)) (g_marks_after : List D → Option D) (g_round_of : List D → Option D) (g_belt_after : List D → Option D) (g_law_draw : List D → Option (D × D)) (g_law_is_less : List D → Option D) (g_trip_turns : List D → Option D) (g_fewest_turns : List D → Option D) (g_law_plus : List D → Option D) (g_law_times : List D → Option D) (g_law_low : List D → Option D) (g_is_trip_told : List D → Option D) (g_law_any : List D → Option (D × D)) (g_law_pulls : List D → Option D) (g_trip_told : List D → Option D) (g_law_good : List D → Option D) (g_turned_by : List D → Option D) (g_law_shaft : List D → Option D) (g_drive_pulls : List D → Option D) (g_shaft_at : List D → Option D) (g_law_drive : List D → Option (D × D)) : FS := (sFor (miOf giRg1 (maCons (m2 gAdd (mP (eC (.int 1))) (mIo 2 0 g_law_draw (mhHole (maCons (mP (eC (.int 3))) maNil)))) maNil)) (bbName 3) (sExpr (mApp 2 (mTup (maCons (m2 gAdd (mP (eC (.int 1))) (mIo 2 0 g_law_draw (mhHole (maCons (mP (eC (.int 5000))) maNil)))) (maCons (m2 gAdd (mP (eC (.int 1))) (mIo 2 0 g_law_draw (mhHole (maCons (mP (eC (.int 40))) maNil)))) (maCons (mIo 2 0 g_law_draw (mhHole (maCons (mIo 2 0 g_law_any (mhHole (maCons (mP (eLst (aCons (eC (.int 3)) (aCons (eC (.int 4000)) aNil)))) maNil))) maNil))) maNil)))))))
noncomputable def m_law_right_3 (g_law_are_rest_right : List D → Option (D × D)) (g_marks_after : List D → Option D) (g_round_of : List D → Option D) (g_belt_after : List D → Option D) (g_law_draw : List D → Option (D × D)) (g_law_is_less : List D → Option D) (g_trip_turns : List D → Option D) (g_fewest_turns : List D → Option D) (g_law_plus : List D → Option D) (g_law_times : List D → Option D) (g_law_low : List D → Option D) (g_is_trip_told : List D → Option D) (g_law_any : List D → Option (D × D)) (g_law_pulls : List D → Option D) (g_trip_told : List D → Option D) (g_law_good : List D → Option D) (g_turned_by : List D → Option D) (g_law_shaft : List D → Option D) (g_drive_pulls : List D → Option D) (g_shaft_at : List D → Option D) (g_law_drive : List D → Option (D × D)) : FS := (sSet 2 (mP (eCall gTupOf (aCons (eVar 2) aNil))))
noncomputable def m_law_right_4 (g_law_are_rest_right : List D → Option (D × D)) (g_marks_after : List D → Option D) (g_round_of : List D → Option D) (g_belt_after : List D → Option D) (g_law_draw : List D → Option (D × D)) (g_law_is_less : List D → Option D) (g_trip_turns : List D → Option D) (g_fewest_turns : List D → Option D) (g_law_plus : List D → Option D) (g_law_times : List D → Option D) (g_law_low : List D → Option D) (g_is_trip_told : List D → Option D) (g_law_any : List D → Option (D × D)) (g_law_pulls : List D → Option D) (g_trip_told : List D → Option D) (g_law_good : List D → Option D) (g_turned_by : List D → Option D) (g_law_shaft : List D → Option D) (g_drive_pulls : List D → Option D) (g_shaft_at : List D → Option D) (g_law_drive : List D → Option (D × D)) : FS := (sSet 4 (mIo 2 0 g_law_draw (mhHole (maCons (mP (eC (.int 60))) maNil))))
noncomputable def m_law_right_5 (g_law_are_rest_right : List D → Option (D × D)) (g_marks_after : List D → Option D) (g_round_of : List D → Option D) (g_belt_after : List D → Option D) (g_law_draw : List D → Option (D × D)) (g_law_is_less : List D → Option D) (g_trip_turns : List D → Option D) (g_fewest_turns : List D → Option D) (g_law_plus : List D → Option D) (g_law_times : List D → Option D) (g_law_low : List D → Option D) (g_is_trip_told : List D → Option D) (g_law_any : List D → Option (D × D)) (g_law_pulls : List D → Option D) (g_trip_told : List D → Option D) (g_law_good : List D → Option D) (g_turned_by : List D → Option D) (g_law_shaft : List D → Option D) (g_drive_pulls : List D → Option D) (g_shaft_at : List D → Option D) (g_law_drive : List D → Option (D × D)) : FS := (sIf (mT (bOr (tst (e2 cmpNe (eFn 2 g_shaft_at (aCons (eVar 1) (aCons (eVar 4) aNil))) (eFn 2 g_law_shaft (aCons (eVar 1) (aCons (eVar 4) aNil))))) (tst (e2 cmpNe (eFn 2 g_drive_pulls (aCons (eVar 1) (aCons (eVar 4) aNil))) (eFn 2 g_law_pulls (aCons (eVar 1) (aCons (eVar 4) aNil))))))) (sRet (mP (eC (.bool false)))) sNext)
noncomputable def m_law_right_6 (g_law_are_rest_right : List D → Option (D × D)) (g_marks_after : List D → Option D) (g_round_of : List D → Option D) (g_belt_after : List D → Option D) (g_law_draw : List D → Option (D × D)) (g_law_is_less : List D → Option D) (g_trip_turns : List D → Option D) (g_fewest_turns : List D → Option D) (g_law_plus : List D → Option D) (g_law_times : List D → Option D) (g_law_low : List D → Option D) (g_is_trip_told : List D → Option D) (g_law_any : List D → Option (D × D)) (g_law_pulls : List D → Option D) (g_trip_told : List D → Option D) (g_law_good : List D → Option D) (g_turned_by : List D → Option D) (g_law_shaft : List D → Option D) (g_drive_pulls : List D → Option D) (g_shaft_at : List D → Option D) (g_law_drive : List D → Option (D × D)) : FS := (sSet 5 (mP (eFn 2 g_law_low (aCons (e2 gMul (e2 gMul (eC (.int 60)) (eC (.int 1000))) (eVar 4)) (aCons (e2 gIx (eVar 1) (eC (.int 4))) aNil)))))
noncomputable def m_law_right_7 (g_law_are_rest_right : List D → Option (D × D)) (g_marks_after : List D → Option D) (g_round_of : List D → Option D) (g_belt_after : List D → Option D) (g_law_draw : List D → Option (D × D)) (g_law_is_less : List D → Option D) (g_trip_turns : List D → Option D) (g_fewest_turns : List D → Option D) (g_law_plus : List D → Option D) (g_law_times : List D → Option D) (g_law_low : List D → Option D) (g_is_trip_told : List D → Option D) (g_law_any : List D → Option (D × D)) (g_law_pulls : List D → Option D) (g_trip_told : List D → Option D) (g_law_good : List D → Option D) (g_turned_by : List D → Option D) (g_law_shaft : List D → Option D) (g_drive_pulls : List D → Option D) (g_shaft_at : List D → Option D) (g_law_drive : List D → Option (D × D)) : FS := (sIf (mT (tst (e2 cmpNe (eCall gAbs (aCons (e2 gIx (eFn 2 g_turned_by (aCons (eTup (aCons (eFrz (e2 gIx (eVar 1) (eC (.int 1)))) (aCons (eFrz (e2 gIx (eVar 1) (eC (.int 0)))) aNil))) (aCons (eVar 5) aNil))) (eC (.int 0))) aNil)) (e2 gIx (eFn 2 g_law_shaft (aCons (eVar 1) (aCons (eVar 4) aNil))) (eC (.int 0)))))) (sRet (mP (eC (.bool false)))) sNext)
noncomputable def m_law_right_8 (g_law_are_rest_right : List D → Option (D × D)) (g_marks_after : List D → Option D) (g_round_of : List D → Option D) (g_belt_after : List D → Option D) (g_law_draw : List D → Option (D × D)) (g_law_is_less : List D → Option D) (g_trip_turns : List D → Option D) (g_fewest_turns : List D → Option D) (g_law_plus : List D → Option D) (g_law_times : List D → Option D) (g_law_low : List D → Option D) (g_is_trip_told : List D → Option D) (g_law_any : List D → Option (D × D)) (g_law_pulls : List D → Option D) (g_trip_told : List D → Option D) (g_law_good : List D → Option D) (g_turned_by : List D → Option D) (g_law_shaft : List D → Option D) (g_drive_pulls : List D → Option D) (g_shaft_at : List D → Option D) (g_law_drive : List D → Option (D × D)) : FS := (sSet 6 (mP (eLc [3] (iSelf (eVar 2)) (bName 3) bTrue (eFn 2 g_law_good (aCons (eVar 1) (aCons (eVar 3) aNil))))))
noncomputable def m_law_right_9 (g_law_are_rest_right : List D → Option (D × D)) (g_marks_after : List D → Option D) (g_round_of : List D → Option D) (g_belt_after : List D → Option D) (g_law_draw : List D → Option (D × D)) (g_law_is_less : List D → Option D) (g_trip_turns : List D → Option D) (g_fewest_turns : List D → Option D) (g_law_plus : List D → Option D) (g_law_times : List D → Option D) (g_law_low : List D → Option D) (g_is_trip_told : List D → Option D) (g_law_any : List D → Option (D × D)) (g_law_pulls : List D → Option D) (g_trip_told : List D → Option D) (g_law_good : List D → Option D) (g_turned_by : List D → Option D) (g_law_shaft : List D → Option D) (g_drive_pulls : List D → Option D) (g_shaft_at : List D → Option D) (g_law_drive : List D → Option (D × D)) : FS := (sSet 7 (mP (eFn 2 g_trip_told (aCons (eVar 1) (aCons (eVar 2) aNil)))))
noncomputable def m_law_right_10 (g_law_are_rest_right : List D → Option (D × D)) (g_marks_after : List D → Option D) (g_round_of : List D → Option D) (g_belt_after : List D → Option D) (g_law_draw : List D → Option (D × D)) (g_law_is_less : List D → Option D) (g_trip_turns : List D → Option D) (g_fewest_turns : List D → Option D) (g_law_plus : List D → Option D) (g_law_times : List D → Option D) (g_law_low : List D → Option D) (g_is_trip_told : List D → Option D) (g_law_any : List D → Option (D × D)) (g_law_pulls : List D → Option D) (g_trip_told : List D → Option D) (g_law_good : List D → Option D) (g_turned_by : List D → Option D) (g_law_shaft : List D → Option D) (g_drive_pulls : List D → Option D) (g_shaft_at : List D → Option D) (g_law_drive : List D → Option (D × D)) : FS := (sSet 8 (mP (eLc [16, 17] (iOf giEnum (aCons (eVar 6) aNil)) (bTup (bCons (bName 16) (bCons (bName 17) bNil))) (tst (e2 cmpEq (eVar 17) (eLst aNil))) (eFrz (eVar 16)))))
noncomputable def m_law_right_11 (g_law_are_rest_right : List D → Option (D × D)) (g_marks_after : List D → Option D) (g_round_of : List D → Option D) (g_belt_after : List D → Option D) (g_law_draw : List D → Option (D × D)) (g_law_is_less : List D → Option D) (g_trip_turns : List D → Option D) (g_fewest_turns : List D → Option D) (g_law_plus : List D → Option D) (g_law_times : List D → Option D) (g_law_low : List D → Option D) (g_is_trip_told : List D → Option D) (g_law_any : List D → Option (D × D)) (g_law_pulls : List D → Option D) (g_trip_told : List D → Option D) (g_law_good : List D → Option D) (g_turned_by : List D → Option D) (g_law_shaft : List D → Option D) (g_drive_pulls : List D → Option D) (g_shaft_at : List D → Option D) (g_law_drive : List D → Option (D × D)) : FS := (sIf (mT (bOr (tst (e2 gIsNot (eFn 3 g_is_trip_told (aCons (eVar 1) (aCons (eVar 2) (aCons (eVar 7) aNil)))) (eC (.bool true)))) (tst (e2 cmpNe (e2 cmpEq (e2 gIx (eVar 7) (eC (.int 0))) (eC (.str "stop"))) (e2 cmpNe (eVar 8) (eLst aNil)))))) (sRet (mP (eC (.bool false)))) sNext)
noncomputable def m_law_right_12 (g_law_are_rest_right : List D → Option (D × D)) (g_marks_after : List D → Option D) (g_round_of : List D → Option D) (g_belt_after : List D → Option D) (g_law_draw : List D → Option (D × D)) (g_law_is_less : List D → Option D) (g_trip_turns : List D → Option D) (g_fewest_turns : List D → Option D) (g_law_plus : List D → Option D) (g_law_times : List D → Option D) (g_law_low : List D → Option D) (g_is_trip_told : List D → Option D) (g_law_any : List D → Option (D × D)) (g_law_pulls : List D → Option D) (g_trip_told : List D → Option D) (g_law_good : List D → Option D) (g_turned_by : List D → Option D) (g_law_shaft : List D → Option D) (g_drive_pulls : List D → Option D) (g_shaft_at : List D → Option D) (g_law_drive : List D → Option (D × D)) : FS := (sIf (mT (tst (e2 cmpNe (eVar 8) (eLst aNil)))) (sSeq (sSet 14 (mP (eFn 2 g_law_pulls (aCons (eVar 1) (aCons (e2 gIx (e2 gIx (eVar 2) (e2 gIx (eVar 8) (eC (.int 0)))) (eC (.int 1))) aNil)))))
  (sSeq (sIf (mT (bOr (tst (e2 gIsNot (eFn 2 g_fewest_turns (aCons (eVar 1) (aCons (eVar 2) aNil))) (eC .none))) (tst (e2 gIsNot (eFn 3 g_belt_after (aCons (eVar 1) (aCons (eVar 2) (aCons (eTup (aCons (eC (.int 9)) aNil)) aNil)))) (eC .none))))) (sRet (mP (eC (.bool false)))) sNext)
  (sRet (mP (e2 cmpEq (eVar 7) (eTup (aCons (eC (.str "stop")) (aCons (eTup (aCons (eFrz (e2 gIx (eVar 8) (eC (.int 0)))) (aCons (eFrz (eVar 14)) aNil))) aNil)))))))) sNext)
noncomputable def m_law_right_13 (g_law_are_rest_right : List D → Option (D × D)) (g_marks_after : List D → Option D) (g_round_of : List D → Option D) (g_belt_after : List D → Option D) (g_law_draw : List D → Option (D × D)) (g_law_is_less : List D → Option D) (g_trip_turns : List D → Option D) (g_fewest_turns : List D → Option D) (g_law_plus : List D → Option D) (g_law_times : List D → Option D) (g_law_low : List D → Option D) (g_is_trip_told : List D → Option D) (g_law_any : List D → Option (D × D)) (g_law_pulls : List D → Option D) (g_trip_told : List D → Option D) (g_law_good : List D → Option D) (g_turned_by : List D → Option D) (g_law_shaft : List D → Option D) (g_drive_pulls : List D → Option D) (g_shaft_at : List D → Option D) (g_law_drive : List D → Option (D × D)) : FS := (sIf (mT (tst (e2 cmpNe (eVar 7) (eTup (aCons (eC (.str "trip")) (aCons (eCall gTupOf (aCons (eLc [17] (iSelf (eVar 6)) (bName 17) bTrue (eFrz (e2 gIx (eVar 17) (e1 gNeg (eC (.int 1)))))) aNil)) aNil)))))) (sRet (mP (eC (.bool false)))) sNext)
noncomputable def m_law_right_14 (g_law_are_rest_right : List D → Option (D × D)) (g_marks_after : List D → Option D) (g_round_of : List D → Option D) (g_belt_after : List D → Option D) (g_law_draw : List D → Option (D × D)) (g_law_is_less : List D → Option D) (g_trip_turns : List D → Option D) (g_fewest_turns : List D → Option D) (g_law_plus : List D → Option D) (g_law_times : List D → Option D) (g_law_low : List D → Option D) (g_is_trip_told : List D → Option D) (g_law_any : List D → Option (D × D)) (g_law_pulls : List D → Option D) (g_trip_told : List D → Option D) (g_law_good : List D → Option D) (g_turned_by : List D → Option D) (g_law_shaft : List D → Option D) (g_drive_pulls : List D → Option D) (g_shaft_at : List D → Option D) (g_law_drive : List D → Option (D × D)) : FS := (sPar 9 10 (mCall gTupOf (maCons (mLc [17] (miSelf (mLend 6)) (bbName 17) mTrue (mIo 2 0 g_law_any (mhHole (maCons (mLend 17) maNil)))) maNil)) (mP (eTup (aCons (eC (.int 0)) (aCons (eC (.int 1)) aNil)))))
noncomputable def m_law_right_15 (g_law_are_rest_right : List D → Option (D × D)) (g_marks_after : List D → Option D) (g_round_of : List D → Option D) (g_belt_after : List D → Option D) (g_law_draw : List D → Option (D × D)) (g_law_is_less : List D → Option D) (g_trip_turns : List D → Option D) (g_fewest_turns : List D → Option D) (g_law_plus : List D → Option D) (g_law_times : List D → Option D) (g_law_low : List D → Option D) (g_is_trip_told : List D → Option D) (g_law_any : List D → Option (D × D)) (g_law_pulls : List D → Option D) (g_trip_told : List D → Option D) (g_law_good : List D → Option D) (g_turned_by : List D → Option D) (g_law_shaft : List D → Option D) (g_drive_pulls : List D → Option D) (g_shaft_at : List D → Option D) (g_law_drive : List D → Option (D × D)) : FS := (sIf (mT (tst (e2 gIsNot (eFn 3 g_is_trip_told (aCons (eVar 1) (aCons (eVar 2) (aCons (eTup (aCons (eC (.str "trip")) (aCons (eFrz (eVar 9)) aNil))) aNil)))) (eC (.bool true))))) (sRet (mP (eC (.bool false)))) sNext)
noncomputable def m_law_right_16 (g_law_are_rest_right : List D → Option (D × D)) (g_marks_after : List D → Option D) (g_round_of : List D → Option D) (g_belt_after : List D → Option D) (g_law_draw : List D → Option (D × D)) (g_law_is_less : List D → Option D) (g_trip_turns : List D → Option D) (g_fewest_turns : List D → Option D) (g_law_plus : List D → Option D) (g_law_times : List D → Option D) (g_law_low : List D → Option D) (g_is_trip_told : List D → Option D) (g_law_any : List D → Option (D × D)) (g_law_pulls : List D → Option D) (g_trip_told : List D → Option D) (g_law_good : List D → Option D) (g_turned_by : List D → Option D) (g_law_shaft : List D → Option D) (g_drive_pulls : List D → Option D) (g_shaft_at : List D → Option D) (g_law_drive : List D → Option (D × D)) : FS := (sFor (miOf giZip (maCons (mLend 2) (maCons (mP (eFrz (e2 gIx (eVar 7) (eC (.int 1))))) maNil))) (bTup (bCons (bbName 3) (bCons (bbName 11) bNil))) (sSeq (sSet 15 (mP (eFn 2 g_law_low (aCons (e2 gMul (eC (.int 1000)) (e2 gIx (eVar 3) (eC (.int 0)))) (aCons (e2 gIx (eVar 1) (eC (.int 4))) aNil)))))
  (sSet 10 (mP (eFn 2 g_law_plus (aCons (eVar 10) (aCons (eFn 2 g_law_times (aCons (eFn 2 g_law_times (aCons (eVar 15) (aCons (eFn 2 g_law_low (aCons (e2 gIx (eVar 1) (eC (.int 1))) (aCons (e2 gIx (eVar 1) (eC (.int 0))) aNil))) aNil))) (aCons (e2 gIx (e2 gIx (eVar 1) (eC (.int 2))) (eVar 11)) aNil))) aNil)))))))
noncomputable def m_law_right_17 (g_law_are_rest_right : List D → Option (D × D)) (g_marks_after : List D → Option D) (g_round_of : List D → Option D) (g_belt_after : List D → Option D) (g_law_draw : List D → Option (D × D)) (g_law_is_less : List D → Option D) (g_trip_turns : List D → Option D) (g_fewest_turns : List D → Option D) (g_law_plus : List D → Option D) (g_law_times : List D → Option D) (g_law_low : List D → Option D) (g_is_trip_told : List D → Option D) (g_law_any : List D → Option (D × D)) (g_law_pulls : List D → Option D) (g_trip_told : List D → Option D) (g_law_good : List D → Option D) (g_turned_by : List D → Option D) (g_law_shaft : List D → Option D) (g_drive_pulls : List D → Option D) (g_shaft_at : List D → Option D) (g_law_drive : List D → Option (D × D)) : FS := (sIf (mT (bOr (tst (e2 cmpNe (eFn 3 g_trip_turns (aCons (eVar 1) (aCons (eVar 2) (aCons (e2 gIx (eVar 7) (eC (.int 1))) aNil)))) (eVar 10))) (tst (e2 cmpNe (eFn 2 g_fewest_turns (aCons (eVar 1) (aCons (eVar 2) aNil))) (eVar 10))))) (sRet (mP (eC (.bool false)))) sNext)
noncomputable def m_law_right_18 (g_law_are_rest_right : List D → Option (D × D)) (g_marks_after : List D → Option D) (g_round_of : List D → Option D) (g_belt_after : List D → Option D) (g_law_draw : List D → Option (D × D)) (g_law_is_less : List D → Option D) (g_trip_turns : List D → Option D) (g_fewest_turns : List D → Option D) (g_law_plus : List D → Option D) (g_law_times : List D → Option D) (g_law_low : List D → Option D) (g_is_trip_told : List D → Option D) (g_law_any : List D → Option (D × D)) (g_law_pulls : List D → Option D) (g_trip_told : List D → Option D) (g_law_good : List D → Option D) (g_turned_by : List D → Option D) (g_law_shaft : List D → Option D) (g_drive_pulls : List D → Option D) (g_shaft_at : List D → Option D) (g_law_drive : List D → Option (D × D)) : FS := (sIf (mT (tst (eFn 2 g_law_is_less (aCons (eFn 3 g_trip_turns (aCons (eVar 1) (aCons (eVar 2) (aCons (eVar 9) aNil)))) (aCons (eVar 10) aNil))))) (sRet (mP (eC (.bool false)))) sNext)
noncomputable def m_law_right_19 (g_law_are_rest_right : List D → Option (D × D)) (g_marks_after : List D → Option D) (g_round_of : List D → Option D) (g_belt_after : List D → Option D) (g_law_draw : List D → Option (D × D)) (g_law_is_less : List D → Option D) (g_trip_turns : List D → Option D) (g_fewest_turns : List D → Option D) (g_law_plus : List D → Option D) (g_law_times : List D → Option D) (g_law_low : List D → Option D) (g_is_trip_told : List D → Option D) (g_law_any : List D → Option (D × D)) (g_law_pulls : List D → Option D) (g_trip_told : List D → Option D) (g_law_good : List D → Option D) (g_turned_by : List D → Option D) (g_law_shaft : List D → Option D) (g_drive_pulls : List D → Option D) (g_shaft_at : List D → Option D) (g_law_drive : List D → Option (D × D)) : FS := (sSet 12 (mCall gTupOf (maCons (mLc [15] (miOf giRg1 (maCons (m2 gAdd (mP (eC (.int 1))) (mIo 2 0 g_law_draw (mhHole (maCons (mP (eC (.int 3))) maNil)))) maNil)) (bbName 15) mTrue (m2 gAdd (mP (eC (.int 2))) (mIo 2 0 g_law_draw (mhHole (maCons (mP (eC (.int 60))) maNil))))) maNil)))
noncomputable def m_law_right_20 (g_law_are_rest_right : List D → Option (D × D)) (g_marks_after : List D → Option D) (g_round_of : List D → Option D) (g_belt_after : List D → Option D) (g_law_draw : List D → Option (D × D)) (g_law_is_less : List D → Option D) (g_trip_turns : List D → Option D) (g_fewest_turns : List D → Option D) (g_law_plus : List D → Option D) (g_law_times : List D → Option D) (g_law_low : List D → Option D) (g_is_trip_told : List D → Option D) (g_law_any : List D → Option (D × D)) (g_law_pulls : List D → Option D) (g_trip_told : List D → Option D) (g_law_good : List D → Option D) (g_turned_by : List D → Option D) (g_law_shaft : List D → Option D) (g_drive_pulls : List D → Option D) (g_shaft_at : List D → Option D) (g_law_drive : List D → Option (D × D)) : FS := (sSet 13 (mP (e2 gMul (e2 gFdiv (e2 gIx (eVar 10) (eC (.int 0))) (e2 gIx (eVar 10) (eC (.int 1)))) (e2 gIx (eVar 12) (eC (.int 0))))))
noncomputable def m_law_right_21 (g_law_are_rest_right : List D → Option (D × D)) (g_marks_after : List D → Option D) (g_round_of : List D → Option D) (g_belt_after : List D → Option D) (g_law_draw : List D → Option (D × D)) (g_law_is_less : List D → Option D) (g_trip_turns : List D → Option D) (g_fewest_turns : List D → Option D) (g_law_plus : List D → Option D) (g_law_times : List D → Option D) (g_law_low : List D → Option D) (g_is_trip_told : List D → Option D) (g_law_any : List D → Option (D × D)) (g_law_pulls : List D → Option D) (g_trip_told : List D → Option D) (g_law_good : List D → Option D) (g_turned_by : List D → Option D) (g_law_shaft : List D → Option D) (g_drive_pulls : List D → Option D) (g_shaft_at : List D → Option D) (g_law_drive : List D → Option (D × D)) : FS := (sIf (mT (tst (e2 cmpNe (eFn 3 g_belt_after (aCons (eVar 1) (aCons (eVar 2) (aCons (eVar 12) aNil)))) (eCall gTupOf (aCons (eLc [18] (iSelf (eVar 12)) (bName 18) bTrue (e2 gMod (eCall gInt (aCons (eVar 13) aNil)) (eVar 18))) aNil))))) (sRet (mP (eC (.bool false)))) sNext)
noncomputable def m_law_right_22 (g_law_are_rest_right : List D → Option (D × D)) (g_marks_after : List D → Option D) (g_round_of : List D → Option D) (g_belt_after : List D → Option D) (g_law_draw : List D → Option (D × D)) (g_law_is_less : List D → Option D) (g_trip_turns : List D → Option D) (g_fewest_turns : List D → Option D) (g_law_plus : List D → Option D) (g_law_times : List D → Option D) (g_law_low : List D → Option D) (g_is_trip_told : List D → Option D) (g_law_any : List D → Option (D × D)) (g_law_pulls : List D → Option D) (g_trip_told : List D → Option D) (g_law_good : List D → Option D) (g_turned_by : List D → Option D) (g_law_shaft : List D → Option D) (g_drive_pulls : List D → Option D) (g_shaft_at : List D → Option D) (g_law_drive : List D → Option (D × D)) : FS := (sIf (mT (tst (e2 cmpNe (eFn 2 g_marks_after (aCons (eVar 12) (aCons (e2 gAdd (eVar 13) (eFn 1 g_round_of (aCons (eVar 12) aNil))) aNil))) (eFn 3 g_belt_after (aCons (eVar 1) (aCons (eVar 2) (aCons (eVar 12) aNil))))))) (sRet (mP (eC (.bool false)))) sNext)
noncomputable def m_law_right_23 (g_law_are_rest_right : List D → Option (D × D)) (g_marks_after : List D → Option D) (g_round_of : List D → Option D) (g_belt_after : List D → Option D) (g_law_draw : List D → Option (D × D)) (g_law_is_less : List D → Option D) (g_trip_turns : List D → Option D) (g_fewest_turns : List D → Option D) (g_law_plus : List D → Option D) (g_law_times : List D → Option D) (g_law_low : List D → Option D) (g_is_trip_told : List D → Option D) (g_law_any : List D → Option (D × D)) (g_law_pulls : List D → Option D) (g_trip_told : List D → Option D) (g_law_good : List D → Option D) (g_turned_by : List D → Option D) (g_law_shaft : List D → Option D) (g_drive_pulls : List D → Option D) (g_shaft_at : List D → Option D) (g_law_drive : List D → Option (D × D)) : FS := (sRet (mIo 3 0 g_law_are_rest_right (mhHole (maCons (mLend 1) (maCons (mLend 2) maNil)))))
noncomputable def b_law_right_23 (g_law_are_rest_right : List D → Option (D × D)) (g_marks_after : List D → Option D) (g_round_of : List D → Option D) (g_belt_after : List D → Option D) (g_law_draw : List D → Option (D × D)) (g_law_is_less : List D → Option D) (g_trip_turns : List D → Option D) (g_fewest_turns : List D → Option D) (g_law_plus : List D → Option D) (g_law_times : List D → Option D) (g_law_low : List D → Option D) (g_is_trip_told : List D → Option D) (g_law_any : List D → Option (D × D)) (g_law_pulls : List D → Option D) (g_trip_told : List D → Option D) (g_law_good : List D → Option D) (g_turned_by : List D → Option D) (g_law_shaft : List D → Option D) (g_drive_pulls : List D → Option D) (g_shaft_at : List D → Option D) (g_law_drive : List D → Option (D × D)) : FS := m_law_right_23 g_law_are_rest_right g_marks_after g_round_of g_belt_after g_law_draw g_law_is_less g_trip_turns g_fewest_turns g_law_plus g_law_times g_law_low g_is_trip_told g_law_any g_law_pulls g_trip_told g_law_good g_turned_by g_law_shaft g_drive_pulls g_shaft_at g_law_drive
noncomputable def b_law_right_22 (g_law_are_rest_right : List D → Option (D × D)) (g_marks_after : List D → Option D) (g_round_of : List D → Option D) (g_belt_after : List D → Option D) (g_law_draw : List D → Option (D × D)) (g_law_is_less : List D → Option D) (g_trip_turns : List D → Option D) (g_fewest_turns : List D → Option D) (g_law_plus : List D → Option D) (g_law_times : List D → Option D) (g_law_low : List D → Option D) (g_is_trip_told : List D → Option D) (g_law_any : List D → Option (D × D)) (g_law_pulls : List D → Option D) (g_trip_told : List D → Option D) (g_law_good : List D → Option D) (g_turned_by : List D → Option D) (g_law_shaft : List D → Option D) (g_drive_pulls : List D → Option D) (g_shaft_at : List D → Option D) (g_law_drive : List D → Option (D × D)) : FS := sSeq (m_law_right_22 g_law_are_rest_right g_marks_after g_round_of g_belt_after g_law_draw g_law_is_less g_trip_turns g_fewest_turns g_law_plus g_law_times g_law_low g_is_trip_told g_law_any g_law_pulls g_trip_told g_law_good g_turned_by g_law_shaft g_drive_pulls g_shaft_at g_law_drive) (b_law_right_23 g_law_are_rest_right g_marks_after g_round_of g_belt_after g_law_draw g_law_is_less g_trip_turns g_fewest_turns g_law_plus g_law_times g_law_low g_is_trip_told g_law_any g_law_pulls g_trip_told g_law_good g_turned_by g_law_shaft g_drive_pulls g_shaft_at g_law_drive)
noncomputable def b_law_right_21 (g_law_are_rest_right : List D → Option (D × D)) (g_marks_after : List D → Option D) (g_round_of : List D → Option D) (g_belt_after : List D → Option D) (g_law_draw : List D → Option (D × D)) (g_law_is_less : List D → Option D) (g_trip_turns : List D → Option D) (g_fewest_turns : List D → Option D) (g_law_plus : List D → Option D) (g_law_times : List D → Option D) (g_law_low : List D → Option D) (g_is_trip_told : List D → Option D) (g_law_any : List D → Option (D × D)) (g_law_pulls : List D → Option D) (g_trip_told : List D → Option D) (g_law_good : List D → Option D) (g_turned_by : List D → Option D) (g_law_shaft : List D → Option D) (g_drive_pulls : List D → Option D) (g_shaft_at : List D → Option D) (g_law_drive : List D → Option (D × D)) : FS := sSeq (m_law_right_21 g_law_are_rest_right g_marks_after g_round_of g_belt_after g_law_draw g_law_is_less g_trip_turns g_fewest_turns g_law_plus g_law_times g_law_low g_is_trip_told g_law_any g_law_pulls g_trip_told g_law_good g_turned_by g_law_shaft g_drive_pulls g_shaft_at g_law_drive) (b_law_right_22 g_law_are_rest_right g_marks_after g_round_of g_belt_after g_law_draw g_law_is_less g_trip_turns g_fewest_turns g_law_plus g_law_times g_law_low g_is_trip_told g_law_any g_law_pulls g_trip_told g_law_good g_turned_by g_law_shaft g_drive_pulls g_shaft_at g_law_drive)
noncomputable def b_law_right_20 (g_law_are_rest_right : List D → Option (D × D)) (g_marks_after : List D → Option D) (g_round_of : List D → Option D) (g_belt_after : List D → Option D) (g_law_draw : List D → Option (D × D)) (g_law_is_less : List D → Option D) (g_trip_turns : List D → Option D) (g_fewest_turns : List D → Option D) (g_law_plus : List D → Option D) (g_law_times : List D → Option D) (g_law_low : List D → Option D) (g_is_trip_told : List D → Option D) (g_law_any : List D → Option (D × D)) (g_law_pulls : List D → Option D) (g_trip_told : List D → Option D) (g_law_good : List D → Option D) (g_turned_by : List D → Option D) (g_law_shaft : List D → Option D) (g_drive_pulls : List D → Option D) (g_shaft_at : List D → Option D) (g_law_drive : List D → Option (D × D)) : FS := sSeq (m_law_right_20 g_law_are_rest_right g_marks_after g_round_of g_belt_after g_law_draw g_law_is_less g_trip_turns g_fewest_turns g_law_plus g_law_times g_law_low g_is_trip_told g_law_any g_law_pulls g_trip_told g_law_good g_turned_by g_law_shaft g_drive_pulls g_shaft_at g_law_drive) (b_law_right_21 g_law_are_rest_right g_marks_after g_round_of g_belt_after g_law_draw g_law_is_less g_trip_turns g_fewest_turns g_law_plus g_law_times g_law_low g_is_trip_told g_law_any g_law_pulls g_trip_told g_law_good g_turned_by g_law_shaft g_drive_pulls g_shaft_at g_law_drive)
noncomputable def b_law_right_19 (g_law_are_rest_right : List D → Option (D × D)) (g_marks_after : List D → Option D) (g_round_of : List D → Option D) (g_belt_after : List D → Option D) (g_law_draw : List D → Option (D × D)) (g_law_is_less : List D → Option D) (g_trip_turns : List D → Option D) (g_fewest_turns : List D → Option D) (g_law_plus : List D → Option D) (g_law_times : List D → Option D) (g_law_low : List D → Option D) (g_is_trip_told : List D → Option D) (g_law_any : List D → Option (D × D)) (g_law_pulls : List D → Option D) (g_trip_told : List D → Option D) (g_law_good : List D → Option D) (g_turned_by : List D → Option D) (g_law_shaft : List D → Option D) (g_drive_pulls : List D → Option D) (g_shaft_at : List D → Option D) (g_law_drive : List D → Option (D × D)) : FS := sSeq (m_law_right_19 g_law_are_rest_right g_marks_after g_round_of g_belt_after g_law_draw g_law_is_less g_trip_turns g_fewest_turns g_law_plus g_law_times g_law_low g_is_trip_told g_law_any g_law_pulls g_trip_told g_law_good g_turned_by g_law_shaft g_drive_pulls g_shaft_at g_law_drive) (b_law_right_20 g_law_are_rest_right g_marks_after g_round_of g_belt_after g_law_draw g_law_is_less g_trip_turns g_fewest_turns g_law_plus g_law_times g_law_low g_is_trip_told g_law_any g_law_pulls g_trip_told g_law_good g_turned_by g_law_shaft g_drive_pulls g_shaft_at g_law_drive)
noncomputable def b_law_right_18 (g_law_are_rest_right : List D → Option (D × D)) (g_marks_after : List D → Option D) (g_round_of : List D → Option D) (g_belt_after : List D → Option D) (g_law_draw : List D → Option (D × D)) (g_law_is_less : List D → Option D) (g_trip_turns : List D → Option D) (g_fewest_turns : List D → Option D) (g_law_plus : List D → Option D) (g_law_times : List D → Option D) (g_law_low : List D → Option D) (g_is_trip_told : List D → Option D) (g_law_any : List D → Option (D × D)) (g_law_pulls : List D → Option D) (g_trip_told : List D → Option D) (g_law_good : List D → Option D) (g_turned_by : List D → Option D) (g_law_shaft : List D → Option D) (g_drive_pulls : List D → Option D) (g_shaft_at : List D → Option D) (g_law_drive : List D → Option (D × D)) : FS := sSeq (m_law_right_18 g_law_are_rest_right g_marks_after g_round_of g_belt_after g_law_draw g_law_is_less g_trip_turns g_fewest_turns g_law_plus g_law_times g_law_low g_is_trip_told g_law_any g_law_pulls g_trip_told g_law_good g_turned_by g_law_shaft g_drive_pulls g_shaft_at g_law_drive) (b_law_right_19 g_law_are_rest_right g_marks_after g_round_of g_belt_after g_law_draw g_law_is_less g_trip_turns g_fewest_turns g_law_plus g_law_times g_law_low g_is_trip_told g_law_any g_law_pulls g_trip_told g_law_good g_turned_by g_law_shaft g_drive_pulls g_shaft_at g_law_drive)
noncomputable def b_law_right_17 (g_law_are_rest_right : List D → Option (D × D)) (g_marks_after : List D → Option D) (g_round_of : List D → Option D) (g_belt_after : List D → Option D) (g_law_draw : List D → Option (D × D)) (g_law_is_less : List D → Option D) (g_trip_turns : List D → Option D) (g_fewest_turns : List D → Option D) (g_law_plus : List D → Option D) (g_law_times : List D → Option D) (g_law_low : List D → Option D) (g_is_trip_told : List D → Option D) (g_law_any : List D → Option (D × D)) (g_law_pulls : List D → Option D) (g_trip_told : List D → Option D) (g_law_good : List D → Option D) (g_turned_by : List D → Option D) (g_law_shaft : List D → Option D) (g_drive_pulls : List D → Option D) (g_shaft_at : List D → Option D) (g_law_drive : List D → Option (D × D)) : FS := sSeq (m_law_right_17 g_law_are_rest_right g_marks_after g_round_of g_belt_after g_law_draw g_law_is_less g_trip_turns g_fewest_turns g_law_plus g_law_times g_law_low g_is_trip_told g_law_any g_law_pulls g_trip_told g_law_good g_turned_by g_law_shaft g_drive_pulls g_shaft_at g_law_drive) (b_law_right_18 g_law_are_rest_right g_marks_after g_round_of g_belt_after g_law_draw g_law_is_less g_trip_turns g_fewest_turns g_law_plus g_law_times g_law_low g_is_trip_told g_law_any g_law_pulls g_trip_told g_law_good g_turned_by g_law_shaft g_drive_pulls g_shaft_at g_law_drive)
noncomputable def b_law_right_16 (g_law_are_rest_right : List D → Option (D × D)) (g_marks_after : List D → Option D) (g_round_of : List D → Option D) (g_belt_after : List D → Option D) (g_law_draw : List D → Option (D × D)) (g_law_is_less : List D → Option D) (g_trip_turns : List D → Option D) (g_fewest_turns : List D → Option D) (g_law_plus : List D → Option D) (g_law_times : List D → Option D) (g_law_low : List D → Option D) (g_is_trip_told : List D → Option D) (g_law_any : List D → Option (D × D)) (g_law_pulls : List D → Option D) (g_trip_told : List D → Option D) (g_law_good : List D → Option D) (g_turned_by : List D → Option D) (g_law_shaft : List D → Option D) (g_drive_pulls : List D → Option D) (g_shaft_at : List D → Option D) (g_law_drive : List D → Option (D × D)) : FS := sSeq (m_law_right_16 g_law_are_rest_right g_marks_after g_round_of g_belt_after g_law_draw g_law_is_less g_trip_turns g_fewest_turns g_law_plus g_law_times g_law_low g_is_trip_told g_law_any g_law_pulls g_trip_told g_law_good g_turned_by g_law_shaft g_drive_pulls g_shaft_at g_law_drive) (b_law_right_17 g_law_are_rest_right g_marks_after g_round_of g_belt_after g_law_draw g_law_is_less g_trip_turns g_fewest_turns g_law_plus g_law_times g_law_low g_is_trip_told g_law_any g_law_pulls g_trip_told g_law_good g_turned_by g_law_shaft g_drive_pulls g_shaft_at g_law_drive)
noncomputable def b_law_right_15 (g_law_are_rest_right : List D → Option (D × D)) (g_marks_after : List D → Option D) (g_round_of : List D → Option D) (g_belt_after : List D → Option D) (g_law_draw : List D → Option (D × D)) (g_law_is_less : List D → Option D) (g_trip_turns : List D → Option D) (g_fewest_turns : List D → Option D) (g_law_plus : List D → Option D) (g_law_times : List D → Option D) (g_law_low : List D → Option D) (g_is_trip_told : List D → Option D) (g_law_any : List D → Option (D × D)) (g_law_pulls : List D → Option D) (g_trip_told : List D → Option D) (g_law_good : List D → Option D) (g_turned_by : List D → Option D) (g_law_shaft : List D → Option D) (g_drive_pulls : List D → Option D) (g_shaft_at : List D → Option D) (g_law_drive : List D → Option (D × D)) : FS := sSeq (m_law_right_15 g_law_are_rest_right g_marks_after g_round_of g_belt_after g_law_draw g_law_is_less g_trip_turns g_fewest_turns g_law_plus g_law_times g_law_low g_is_trip_told g_law_any g_law_pulls g_trip_told g_law_good g_turned_by g_law_shaft g_drive_pulls g_shaft_at g_law_drive) (b_law_right_16 g_law_are_rest_right g_marks_after g_round_of g_belt_after g_law_draw g_law_is_less g_trip_turns g_fewest_turns g_law_plus g_law_times g_law_low g_is_trip_told g_law_any g_law_pulls g_trip_told g_law_good g_turned_by g_law_shaft g_drive_pulls g_shaft_at g_law_drive)
noncomputable def b_law_right_14 (g_law_are_rest_right : List D → Option (D × D)) (g_marks_after : List D → Option D) (g_round_of : List D → Option D) (g_belt_after : List D → Option D) (g_law_draw : List D → Option (D × D)) (g_law_is_less : List D → Option D) (g_trip_turns : List D → Option D) (g_fewest_turns : List D → Option D) (g_law_plus : List D → Option D) (g_law_times : List D → Option D) (g_law_low : List D → Option D) (g_is_trip_told : List D → Option D) (g_law_any : List D → Option (D × D)) (g_law_pulls : List D → Option D) (g_trip_told : List D → Option D) (g_law_good : List D → Option D) (g_turned_by : List D → Option D) (g_law_shaft : List D → Option D) (g_drive_pulls : List D → Option D) (g_shaft_at : List D → Option D) (g_law_drive : List D → Option (D × D)) : FS := sSeq (m_law_right_14 g_law_are_rest_right g_marks_after g_round_of g_belt_after g_law_draw g_law_is_less g_trip_turns g_fewest_turns g_law_plus g_law_times g_law_low g_is_trip_told g_law_any g_law_pulls g_trip_told g_law_good g_turned_by g_law_shaft g_drive_pulls g_shaft_at g_law_drive) (b_law_right_15 g_law_are_rest_right g_marks_after g_round_of g_belt_after g_law_draw g_law_is_less g_trip_turns g_fewest_turns g_law_plus g_law_times g_law_low g_is_trip_told g_law_any g_law_pulls g_trip_told g_law_good g_turned_by g_law_shaft g_drive_pulls g_shaft_at g_law_drive)
noncomputable def b_law_right_13 (g_law_are_rest_right : List D → Option (D × D)) (g_marks_after : List D → Option D) (g_round_of : List D → Option D) (g_belt_after : List D → Option D) (g_law_draw : List D → Option (D × D)) (g_law_is_less : List D → Option D) (g_trip_turns : List D → Option D) (g_fewest_turns : List D → Option D) (g_law_plus : List D → Option D) (g_law_times : List D → Option D) (g_law_low : List D → Option D) (g_is_trip_told : List D → Option D) (g_law_any : List D → Option (D × D)) (g_law_pulls : List D → Option D) (g_trip_told : List D → Option D) (g_law_good : List D → Option D) (g_turned_by : List D → Option D) (g_law_shaft : List D → Option D) (g_drive_pulls : List D → Option D) (g_shaft_at : List D → Option D) (g_law_drive : List D → Option (D × D)) : FS := sSeq (m_law_right_13 g_law_are_rest_right g_marks_after g_round_of g_belt_after g_law_draw g_law_is_less g_trip_turns g_fewest_turns g_law_plus g_law_times g_law_low g_is_trip_told g_law_any g_law_pulls g_trip_told g_law_good g_turned_by g_law_shaft g_drive_pulls g_shaft_at g_law_drive) (b_law_right_14 g_law_are_rest_right g_marks_after g_round_of g_belt_after g_law_draw g_law_is_less g_trip_turns g_fewest_turns g_law_plus g_law_times g_law_low g_is_trip_told g_law_any g_law_pulls g_trip_told g_law_good g_turned_by g_law_shaft g_drive_pulls g_shaft_at g_law_drive)
noncomputable def b_law_right_12 (g_law_are_rest_right : List D → Option (D × D)) (g_marks_after : List D → Option D) (g_round_of : List D → Option D) (g_belt_after : List D → Option D) (g_law_draw : List D → Option (D × D)) (g_law_is_less : List D → Option D) (g_trip_turns : List D → Option D) (g_fewest_turns : List D → Option D) (g_law_plus : List D → Option D) (g_law_times : List D → Option D) (g_law_low : List D → Option D) (g_is_trip_told : List D → Option D) (g_law_any : List D → Option (D × D)) (g_law_pulls : List D → Option D) (g_trip_told : List D → Option D) (g_law_good : List D → Option D) (g_turned_by : List D → Option D) (g_law_shaft : List D → Option D) (g_drive_pulls : List D → Option D) (g_shaft_at : List D → Option D) (g_law_drive : List D → Option (D × D)) : FS := sSeq (m_law_right_12 g_law_are_rest_right g_marks_after g_round_of g_belt_after g_law_draw g_law_is_less g_trip_turns g_fewest_turns g_law_plus g_law_times g_law_low g_is_trip_told g_law_any g_law_pulls g_trip_told g_law_good g_turned_by g_law_shaft g_drive_pulls g_shaft_at g_law_drive) (b_law_right_13 g_law_are_rest_right g_marks_after g_round_of g_belt_after g_law_draw g_law_is_less g_trip_turns g_fewest_turns g_law_plus g_law_times g_law_low g_is_trip_told g_law_any g_law_pulls g_trip_told g_law_good g_turned_by g_law_shaft g_drive_pulls g_shaft_at g_law_drive)
noncomputable def b_law_right_11 (g_law_are_rest_right : List D → Option (D × D)) (g_marks_after : List D → Option D) (g_round_of : List D → Option D) (g_belt_after : List D → Option D) (g_law_draw : List D → Option (D × D)) (g_law_is_less : List D → Option D) (g_trip_turns : List D → Option D) (g_fewest_turns : List D → Option D) (g_law_plus : List D → Option D) (g_law_times : List D → Option D) (g_law_low : List D → Option D) (g_is_trip_told : List D → Option D) (g_law_any : List D → Option (D × D)) (g_law_pulls : List D → Option D) (g_trip_told : List D → Option D) (g_law_good : List D → Option D) (g_turned_by : List D → Option D) (g_law_shaft : List D → Option D) (g_drive_pulls : List D → Option D) (g_shaft_at : List D → Option D) (g_law_drive : List D → Option (D × D)) : FS := sSeq (m_law_right_11 g_law_are_rest_right g_marks_after g_round_of g_belt_after g_law_draw g_law_is_less g_trip_turns g_fewest_turns g_law_plus g_law_times g_law_low g_is_trip_told g_law_any g_law_pulls g_trip_told g_law_good g_turned_by g_law_shaft g_drive_pulls g_shaft_at g_law_drive) (b_law_right_12 g_law_are_rest_right g_marks_after g_round_of g_belt_after g_law_draw g_law_is_less g_trip_turns g_fewest_turns g_law_plus g_law_times g_law_low g_is_trip_told g_law_any g_law_pulls g_trip_told g_law_good g_turned_by g_law_shaft g_drive_pulls g_shaft_at g_law_drive)
noncomputable def b_law_right_10 (g_law_are_rest_right : List D → Option (D × D)) (g_marks_after : List D → Option D) (g_round_of : List D → Option D) (g_belt_after : List D → Option D) (g_law_draw : List D → Option (D × D)) (g_law_is_less : List D → Option D) (g_trip_turns : List D → Option D) (g_fewest_turns : List D → Option D) (g_law_plus : List D → Option D) (g_law_times : List D → Option D) (g_law_low : List D → Option D) (g_is_trip_told : List D → Option D) (g_law_any : List D → Option (D × D)) (g_law_pulls : List D → Option D) (g_trip_told : List D → Option D) (g_law_good : List D → Option D) (g_turned_by : List D → Option D) (g_law_shaft : List D → Option D) (g_drive_pulls : List D → Option D) (g_shaft_at : List D → Option D) (g_law_drive : List D → Option (D × D)) : FS := sSeq (m_law_right_10 g_law_are_rest_right g_marks_after g_round_of g_belt_after g_law_draw g_law_is_less g_trip_turns g_fewest_turns g_law_plus g_law_times g_law_low g_is_trip_told g_law_any g_law_pulls g_trip_told g_law_good g_turned_by g_law_shaft g_drive_pulls g_shaft_at g_law_drive) (b_law_right_11 g_law_are_rest_right g_marks_after g_round_of g_belt_after g_law_draw g_law_is_less g_trip_turns g_fewest_turns g_law_plus g_law_times g_law_low g_is_trip_told g_law_any g_law_pulls g_trip_told g_law_good g_turned_by g_law_shaft g_drive_pulls g_shaft_at g_law_drive)
noncomputable def b_law_right_9 (g_law_are_rest_right : List D → Option (D × D)) (g_marks_after : List D → Option D) (g_round_of : List D → Option D) (g_belt_after : List D → Option D) (g_law_draw : List D → Option (D × D)) (g_law_is_less : List D → Option D) (g_trip_turns : List D → Option D) (g_fewest_turns : List D → Option D) (g_law_plus : List D → Option D) (g_law_times : List D → Option D) (g_law_low : List D → Option D) (g_is_trip_told : List D → Option D) (g_law_any : List D → Option (D × D)) (g_law_pulls : List D → Option D) (g_trip_told : List D → Option D) (g_law_good : List D → Option D) (g_turned_by : List D → Option D) (g_law_shaft : List D → Option D) (g_drive_pulls : List D → Option D) (g_shaft_at : List D → Option D) (g_law_drive : List D → Option (D × D)) : FS := sSeq (m_law_right_9 g_law_are_rest_right g_marks_after g_round_of g_belt_after g_law_draw g_law_is_less g_trip_turns g_fewest_turns g_law_plus g_law_times g_law_low g_is_trip_told g_law_any g_law_pulls g_trip_told g_law_good g_turned_by g_law_shaft g_drive_pulls g_shaft_at g_law_drive) (b_law_right_10 g_law_are_rest_right g_marks_after g_round_of g_belt_after g_law_draw g_law_is_less g_trip_turns g_fewest_turns g_law_plus g_law_times g_law_low g_is_trip_told g_law_any g_law_pulls g_trip_told g_law_good g_turned_by g_law_shaft g_drive_pulls g_shaft_at g_law_drive)
noncomputable def b_law_right_8 (g_law_are_rest_right : List D → Option (D × D)) (g_marks_after : List D → Option D) (g_round_of : List D → Option D) (g_belt_after : List D → Option D) (g_law_draw : List D → Option (D × D)) (g_law_is_less : List D → Option D) (g_trip_turns : List D → Option D) (g_fewest_turns : List D → Option D) (g_law_plus : List D → Option D) (g_law_times : List D → Option D) (g_law_low : List D → Option D) (g_is_trip_told : List D → Option D) (g_law_any : List D → Option (D × D)) (g_law_pulls : List D → Option D) (g_trip_told : List D → Option D) (g_law_good : List D → Option D) (g_turned_by : List D → Option D) (g_law_shaft : List D → Option D) (g_drive_pulls : List D → Option D) (g_shaft_at : List D → Option D) (g_law_drive : List D → Option (D × D)) : FS := sSeq (m_law_right_8 g_law_are_rest_right g_marks_after g_round_of g_belt_after g_law_draw g_law_is_less g_trip_turns g_fewest_turns g_law_plus g_law_times g_law_low g_is_trip_told g_law_any g_law_pulls g_trip_told g_law_good g_turned_by g_law_shaft g_drive_pulls g_shaft_at g_law_drive) (b_law_right_9 g_law_are_rest_right g_marks_after g_round_of g_belt_after g_law_draw g_law_is_less g_trip_turns g_fewest_turns g_law_plus g_law_times g_law_low g_is_trip_told g_law_any g_law_pulls g_trip_told g_law_good g_turned_by g_law_shaft g_drive_pulls g_shaft_at g_law_drive)
noncomputable def b_law_right_7 (g_law_are_rest_right : List D → Option (D × D)) (g_marks_after : List D → Option D) (g_round_of : List D → Option D) (g_belt_after : List D → Option D) (g_law_draw : List D → Option (D × D)) (g_law_is_less : List D → Option D) (g_trip_turns : List D → Option D) (g_fewest_turns : List D → Option D) (g_law_plus : List D → Option D) (g_law_times : List D → Option D) (g_law_low : List D → Option D) (g_is_trip_told : List D → Option D) (g_law_any : List D → Option (D × D)) (g_law_pulls : List D → Option D) (g_trip_told : List D → Option D) (g_law_good : List D → Option D) (g_turned_by : List D → Option D) (g_law_shaft : List D → Option D) (g_drive_pulls : List D → Option D) (g_shaft_at : List D → Option D) (g_law_drive : List D → Option (D × D)) : FS := sSeq (m_law_right_7 g_law_are_rest_right g_marks_after g_round_of g_belt_after g_law_draw g_law_is_less g_trip_turns g_fewest_turns g_law_plus g_law_times g_law_low g_is_trip_told g_law_any g_law_pulls g_trip_told g_law_good g_turned_by g_law_shaft g_drive_pulls g_shaft_at g_law_drive) (b_law_right_8 g_law_are_rest_right g_marks_after g_round_of g_belt_after g_law_draw g_law_is_less g_trip_turns g_fewest_turns g_law_plus g_law_times g_law_low g_is_trip_told g_law_any g_law_pulls g_trip_told g_law_good g_turned_by g_law_shaft g_drive_pulls g_shaft_at g_law_drive)
noncomputable def b_law_right_6 (g_law_are_rest_right : List D → Option (D × D)) (g_marks_after : List D → Option D) (g_round_of : List D → Option D) (g_belt_after : List D → Option D) (g_law_draw : List D → Option (D × D)) (g_law_is_less : List D → Option D) (g_trip_turns : List D → Option D) (g_fewest_turns : List D → Option D) (g_law_plus : List D → Option D) (g_law_times : List D → Option D) (g_law_low : List D → Option D) (g_is_trip_told : List D → Option D) (g_law_any : List D → Option (D × D)) (g_law_pulls : List D → Option D) (g_trip_told : List D → Option D) (g_law_good : List D → Option D) (g_turned_by : List D → Option D) (g_law_shaft : List D → Option D) (g_drive_pulls : List D → Option D) (g_shaft_at : List D → Option D) (g_law_drive : List D → Option (D × D)) : FS := sSeq (m_law_right_6 g_law_are_rest_right g_marks_after g_round_of g_belt_after g_law_draw g_law_is_less g_trip_turns g_fewest_turns g_law_plus g_law_times g_law_low g_is_trip_told g_law_any g_law_pulls g_trip_told g_law_good g_turned_by g_law_shaft g_drive_pulls g_shaft_at g_law_drive) (b_law_right_7 g_law_are_rest_right g_marks_after g_round_of g_belt_after g_law_draw g_law_is_less g_trip_turns g_fewest_turns g_law_plus g_law_times g_law_low g_is_trip_told g_law_any g_law_pulls g_trip_told g_law_good g_turned_by g_law_shaft g_drive_pulls g_shaft_at g_law_drive)
noncomputable def b_law_right_5 (g_law_are_rest_right : List D → Option (D × D)) (g_marks_after : List D → Option D) (g_round_of : List D → Option D) (g_belt_after : List D → Option D) (g_law_draw : List D → Option (D × D)) (g_law_is_less : List D → Option D) (g_trip_turns : List D → Option D) (g_fewest_turns : List D → Option D) (g_law_plus : List D → Option D) (g_law_times : List D → Option D) (g_law_low : List D → Option D) (g_is_trip_told : List D → Option D) (g_law_any : List D → Option (D × D)) (g_law_pulls : List D → Option D) (g_trip_told : List D → Option D) (g_law_good : List D → Option D) (g_turned_by : List D → Option D) (g_law_shaft : List D → Option D) (g_drive_pulls : List D → Option D) (g_shaft_at : List D → Option D) (g_law_drive : List D → Option (D × D)) : FS := sSeq (m_law_right_5 g_law_are_rest_right g_marks_after g_round_of g_belt_after g_law_draw g_law_is_less g_trip_turns g_fewest_turns g_law_plus g_law_times g_law_low g_is_trip_told g_law_any g_law_pulls g_trip_told g_law_good g_turned_by g_law_shaft g_drive_pulls g_shaft_at g_law_drive) (b_law_right_6 g_law_are_rest_right g_marks_after g_round_of g_belt_after g_law_draw g_law_is_less g_trip_turns g_fewest_turns g_law_plus g_law_times g_law_low g_is_trip_told g_law_any g_law_pulls g_trip_told g_law_good g_turned_by g_law_shaft g_drive_pulls g_shaft_at g_law_drive)
noncomputable def b_law_right_4 (g_law_are_rest_right : List D → Option (D × D)) (g_marks_after : List D → Option D) (g_round_of : List D → Option D) (g_belt_after : List D → Option D) (g_law_draw : List D → Option (D × D)) (g_law_is_less : List D → Option D) (g_trip_turns : List D → Option D) (g_fewest_turns : List D → Option D) (g_law_plus : List D → Option D) (g_law_times : List D → Option D) (g_law_low : List D → Option D) (g_is_trip_told : List D → Option D) (g_law_any : List D → Option (D × D)) (g_law_pulls : List D → Option D) (g_trip_told : List D → Option D) (g_law_good : List D → Option D) (g_turned_by : List D → Option D) (g_law_shaft : List D → Option D) (g_drive_pulls : List D → Option D) (g_shaft_at : List D → Option D) (g_law_drive : List D → Option (D × D)) : FS := sSeq (m_law_right_4 g_law_are_rest_right g_marks_after g_round_of g_belt_after g_law_draw g_law_is_less g_trip_turns g_fewest_turns g_law_plus g_law_times g_law_low g_is_trip_told g_law_any g_law_pulls g_trip_told g_law_good g_turned_by g_law_shaft g_drive_pulls g_shaft_at g_law_drive) (b_law_right_5 g_law_are_rest_right g_marks_after g_round_of g_belt_after g_law_draw g_law_is_less g_trip_turns g_fewest_turns g_law_plus g_law_times g_law_low g_is_trip_told g_law_any g_law_pulls g_trip_told g_law_good g_turned_by g_law_shaft g_drive_pulls g_shaft_at g_law_drive)
noncomputable def b_law_right_3 (g_law_are_rest_right : List D → Option (D × D)) (g_marks_after : List D → Option D) (g_round_of : List D → Option D) (g_belt_after : List D → Option D) (g_law_draw : List D → Option (D × D)) (g_law_is_less : List D → Option D) (g_trip_turns : List D → Option D) (g_fewest_turns : List D → Option D) (g_law_plus : List D → Option D) (g_law_times : List D → Option D) (g_law_low : List D → Option D) (g_is_trip_told : List D → Option D) (g_law_any : List D → Option (D × D)) (g_law_pulls : List D → Option D) (g_trip_told : List D → Option D) (g_law_good : List D → Option D) (g_turned_by : List D → Option D) (g_law_shaft : List D → Option D) (g_drive_pulls : List D → Option D) (g_shaft_at : List D → Option D) (g_law_drive : List D → Option (D × D)) : FS := sSeq (m_law_right_3 g_law_are_rest_right g_marks_after g_round_of g_belt_after g_law_draw g_law_is_less g_trip_turns g_fewest_turns g_law_plus g_law_times g_law_low g_is_trip_told g_law_any g_law_pulls g_trip_told g_law_good g_turned_by g_law_shaft g_drive_pulls g_shaft_at g_law_drive) (b_law_right_4 g_law_are_rest_right g_marks_after g_round_of g_belt_after g_law_draw g_law_is_less g_trip_turns g_fewest_turns g_law_plus g_law_times g_law_low g_is_trip_told g_law_any g_law_pulls g_trip_told g_law_good g_turned_by g_law_shaft g_drive_pulls g_shaft_at g_law_drive)
noncomputable def b_law_right_2 (g_law_are_rest_right : List D → Option (D × D)) (g_marks_after : List D → Option D) (g_round_of : List D → Option D) (g_belt_after : List D → Option D) (g_law_draw : List D → Option (D × D)) (g_law_is_less : List D → Option D) (g_trip_turns : List D → Option D) (g_fewest_turns : List D → Option D) (g_law_plus : List D → Option D) (g_law_times : List D → Option D) (g_law_low : List D → Option D) (g_is_trip_told : List D → Option D) (g_law_any : List D → Option (D × D)) (g_law_pulls : List D → Option D) (g_trip_told : List D → Option D) (g_law_good : List D → Option D) (g_turned_by : List D → Option D) (g_law_shaft : List D → Option D) (g_drive_pulls : List D → Option D) (g_shaft_at : List D → Option D) (g_law_drive : List D → Option (D × D)) : FS := sSeq (m_law_right_2 g_law_are_rest_right g_marks_after g_round_of g_belt_after g_law_draw g_law_is_less g_trip_turns g_fewest_turns g_law_plus g_law_times g_law_low g_is_trip_told g_law_any g_law_pulls g_trip_told g_law_good g_turned_by g_law_shaft g_drive_pulls g_shaft_at g_law_drive) (b_law_right_3 g_law_are_rest_right g_marks_after g_round_of g_belt_after g_law_draw g_law_is_less g_trip_turns g_fewest_turns g_law_plus g_law_times g_law_low g_is_trip_told g_law_any g_law_pulls g_trip_told g_law_good g_turned_by g_law_shaft g_drive_pulls g_shaft_at g_law_drive)
noncomputable def b_law_right_1 (g_law_are_rest_right : List D → Option (D × D)) (g_marks_after : List D → Option D) (g_round_of : List D → Option D) (g_belt_after : List D → Option D) (g_law_draw : List D → Option (D × D)) (g_law_is_less : List D → Option D) (g_trip_turns : List D → Option D) (g_fewest_turns : List D → Option D) (g_law_plus : List D → Option D) (g_law_times : List D → Option D) (g_law_low : List D → Option D) (g_is_trip_told : List D → Option D) (g_law_any : List D → Option (D × D)) (g_law_pulls : List D → Option D) (g_trip_told : List D → Option D) (g_law_good : List D → Option D) (g_turned_by : List D → Option D) (g_law_shaft : List D → Option D) (g_drive_pulls : List D → Option D) (g_shaft_at : List D → Option D) (g_law_drive : List D → Option (D × D)) : FS := sSeq (m_law_right_1 g_law_are_rest_right g_marks_after g_round_of g_belt_after g_law_draw g_law_is_less g_trip_turns g_fewest_turns g_law_plus g_law_times g_law_low g_is_trip_told g_law_any g_law_pulls g_trip_told g_law_good g_turned_by g_law_shaft g_drive_pulls g_shaft_at g_law_drive) (b_law_right_2 g_law_are_rest_right g_marks_after g_round_of g_belt_after g_law_draw g_law_is_less g_trip_turns g_fewest_turns g_law_plus g_law_times g_law_low g_is_trip_told g_law_any g_law_pulls g_trip_told g_law_good g_turned_by g_law_shaft g_drive_pulls g_shaft_at g_law_drive)
noncomputable def b_law_right_0 (g_law_are_rest_right : List D → Option (D × D)) (g_marks_after : List D → Option D) (g_round_of : List D → Option D) (g_belt_after : List D → Option D) (g_law_draw : List D → Option (D × D)) (g_law_is_less : List D → Option D) (g_trip_turns : List D → Option D) (g_fewest_turns : List D → Option D) (g_law_plus : List D → Option D) (g_law_times : List D → Option D) (g_law_low : List D → Option D) (g_is_trip_told : List D → Option D) (g_law_any : List D → Option (D × D)) (g_law_pulls : List D → Option D) (g_trip_told : List D → Option D) (g_law_good : List D → Option D) (g_turned_by : List D → Option D) (g_law_shaft : List D → Option D) (g_drive_pulls : List D → Option D) (g_shaft_at : List D → Option D) (g_law_drive : List D → Option (D × D)) : FS := sSeq (m_law_right_0 g_law_are_rest_right g_marks_after g_round_of g_belt_after g_law_draw g_law_is_less g_trip_turns g_fewest_turns g_law_plus g_law_times g_law_low g_is_trip_told g_law_any g_law_pulls g_trip_told g_law_good g_turned_by g_law_shaft g_drive_pulls g_shaft_at g_law_drive) (b_law_right_1 g_law_are_rest_right g_marks_after g_round_of g_belt_after g_law_draw g_law_is_less g_trip_turns g_fewest_turns g_law_plus g_law_times g_law_low g_is_trip_told g_law_any g_law_pulls g_trip_told g_law_good g_turned_by g_law_shaft g_drive_pulls g_shaft_at g_law_drive)
noncomputable def m_law_right (g_law_are_rest_right : List D → Option (D × D)) (g_marks_after : List D → Option D) (g_round_of : List D → Option D) (g_belt_after : List D → Option D) (g_law_draw : List D → Option (D × D)) (g_law_is_less : List D → Option D) (g_trip_turns : List D → Option D) (g_fewest_turns : List D → Option D) (g_law_plus : List D → Option D) (g_law_times : List D → Option D) (g_law_low : List D → Option D) (g_is_trip_told : List D → Option D) (g_law_any : List D → Option (D × D)) (g_law_pulls : List D → Option D) (g_trip_told : List D → Option D) (g_law_good : List D → Option D) (g_turned_by : List D → Option D) (g_law_shaft : List D → Option D) (g_drive_pulls : List D → Option D) (g_shaft_at : List D → Option D) (g_law_drive : List D → Option (D × D)) : FS := (sSeq (sSet 1 (mIo 1 0 g_law_drive (mhHole maNil)))
  (sSeq (sSet 2 (mP (eLst aNil)))
  (sSeq (sFor (miOf giRg1 (maCons (m2 gAdd (mP (eC (.int 1))) (mIo 2 0 g_law_draw (mhHole (maCons (mP (eC (.int 3))) maNil)))) maNil)) (bbName 3) (sExpr (mApp 2 (mTup (maCons (m2 gAdd (mP (eC (.int 1))) (mIo 2 0 g_law_draw (mhHole (maCons (mP (eC (.int 5000))) maNil)))) (maCons (m2 gAdd (mP (eC (.int 1))) (mIo 2 0 g_law_draw (mhHole (maCons (mP (eC (.int 40))) maNil)))) (maCons (mIo 2 0 g_law_draw (mhHole (maCons (mIo 2 0 g_law_any (mhHole (maCons (mP (eLst (aCons (eC (.int 3)) (aCons (eC (.int 4000)) aNil)))) maNil))) maNil))) maNil)))))))
  (sSeq (sSet 2 (mP (eCall gTupOf (aCons (eVar 2) aNil))))
  (sSeq (sSet 4 (mIo 2 0 g_law_draw (mhHole (maCons (mP (eC (.int 60))) maNil))))
  (sSeq (sIf (mT (bOr (tst (e2 cmpNe (eFn 2 g_shaft_at (aCons (eVar 1) (aCons (eVar 4) aNil))) (eFn 2 g_law_shaft (aCons (eVar 1) (aCons (eVar 4) aNil))))) (tst (e2 cmpNe (eFn 2 g_drive_pulls (aCons (eVar 1) (aCons (eVar 4) aNil))) (eFn 2 g_law_pulls (aCons (eVar 1) (aCons (eVar 4) aNil))))))) (sRet (mP (eC (.bool false)))) sNext)
  (sSeq (sSet 5 (mP (eFn 2 g_law_low (aCons (e2 gMul (e2 gMul (eC (.int 60)) (eC (.int 1000))) (eVar 4)) (aCons (e2 gIx (eVar 1) (eC (.int 4))) aNil)))))
  (sSeq (sIf (mT (tst (e2 cmpNe (eCall gAbs (aCons (e2 gIx (eFn 2 g_turned_by (aCons (eTup (aCons (eFrz (e2 gIx (eVar 1) (eC (.int 1)))) (aCons (eFrz (e2 gIx (eVar 1) (eC (.int 0)))) aNil))) (aCons (eVar 5) aNil))) (eC (.int 0))) aNil)) (e2 gIx (eFn 2 g_law_shaft (aCons (eVar 1) (aCons (eVar 4) aNil))) (eC (.int 0)))))) (sRet (mP (eC (.bool false)))) sNext)
  (sSeq (sSet 6 (mP (eLc [3] (iSelf (eVar 2)) (bName 3) bTrue (eFn 2 g_law_good (aCons (eVar 1) (aCons (eVar 3) aNil))))))
  (sSeq (sSet 7 (mP (eFn 2 g_trip_told (aCons (eVar 1) (aCons (eVar 2) aNil)))))
  (sSeq (sSet 8 (mP (eLc [16, 17] (iOf giEnum (aCons (eVar 6) aNil)) (bTup (bCons (bName 16) (bCons (bName 17) bNil))) (tst (e2 cmpEq (eVar 17) (eLst aNil))) (eFrz (eVar 16)))))
  (sSeq (sIf (mT (bOr (tst (e2 gIsNot (eFn 3 g_is_trip_told (aCons (eVar 1) (aCons (eVar 2) (aCons (eVar 7) aNil)))) (eC (.bool true)))) (tst (e2 cmpNe (e2 cmpEq (e2 gIx (eVar 7) (eC (.int 0))) (eC (.str "stop"))) (e2 cmpNe (eVar 8) (eLst aNil)))))) (sRet (mP (eC (.bool false)))) sNext)
  (sSeq (sIf (mT (tst (e2 cmpNe (eVar 8) (eLst aNil)))) (sSeq (sSet 14 (mP (eFn 2 g_law_pulls (aCons (eVar 1) (aCons (e2 gIx (e2 gIx (eVar 2) (e2 gIx (eVar 8) (eC (.int 0)))) (eC (.int 1))) aNil)))))
  (sSeq (sIf (mT (bOr (tst (e2 gIsNot (eFn 2 g_fewest_turns (aCons (eVar 1) (aCons (eVar 2) aNil))) (eC .none))) (tst (e2 gIsNot (eFn 3 g_belt_after (aCons (eVar 1) (aCons (eVar 2) (aCons (eTup (aCons (eC (.int 9)) aNil)) aNil)))) (eC .none))))) (sRet (mP (eC (.bool false)))) sNext)
  (sRet (mP (e2 cmpEq (eVar 7) (eTup (aCons (eC (.str "stop")) (aCons (eTup (aCons (eFrz (e2 gIx (eVar 8) (eC (.int 0)))) (aCons (eFrz (eVar 14)) aNil))) aNil)))))))) sNext)
  (sSeq (sIf (mT (tst (e2 cmpNe (eVar 7) (eTup (aCons (eC (.str "trip")) (aCons (eCall gTupOf (aCons (eLc [17] (iSelf (eVar 6)) (bName 17) bTrue (eFrz (e2 gIx (eVar 17) (e1 gNeg (eC (.int 1)))))) aNil)) aNil)))))) (sRet (mP (eC (.bool false)))) sNext)
  (sSeq (sPar 9 10 (mCall gTupOf (maCons (mLc [17] (miSelf (mLend 6)) (bbName 17) mTrue (mIo 2 0 g_law_any (mhHole (maCons (mLend 17) maNil)))) maNil)) (mP (eTup (aCons (eC (.int 0)) (aCons (eC (.int 1)) aNil)))))
  (sSeq (sIf (mT (tst (e2 gIsNot (eFn 3 g_is_trip_told (aCons (eVar 1) (aCons (eVar 2) (aCons (eTup (aCons (eC (.str "trip")) (aCons (eFrz (eVar 9)) aNil))) aNil)))) (eC (.bool true))))) (sRet (mP (eC (.bool false)))) sNext)
  (sSeq (sFor (miOf giZip (maCons (mLend 2) (maCons (mP (eFrz (e2 gIx (eVar 7) (eC (.int 1))))) maNil))) (bTup (bCons (bbName 3) (bCons (bbName 11) bNil))) (sSeq (sSet 15 (mP (eFn 2 g_law_low (aCons (e2 gMul (eC (.int 1000)) (e2 gIx (eVar 3) (eC (.int 0)))) (aCons (e2 gIx (eVar 1) (eC (.int 4))) aNil)))))
  (sSet 10 (mP (eFn 2 g_law_plus (aCons (eVar 10) (aCons (eFn 2 g_law_times (aCons (eFn 2 g_law_times (aCons (eVar 15) (aCons (eFn 2 g_law_low (aCons (e2 gIx (eVar 1) (eC (.int 1))) (aCons (e2 gIx (eVar 1) (eC (.int 0))) aNil))) aNil))) (aCons (e2 gIx (e2 gIx (eVar 1) (eC (.int 2))) (eVar 11)) aNil))) aNil)))))))
  (sSeq (sIf (mT (bOr (tst (e2 cmpNe (eFn 3 g_trip_turns (aCons (eVar 1) (aCons (eVar 2) (aCons (e2 gIx (eVar 7) (eC (.int 1))) aNil)))) (eVar 10))) (tst (e2 cmpNe (eFn 2 g_fewest_turns (aCons (eVar 1) (aCons (eVar 2) aNil))) (eVar 10))))) (sRet (mP (eC (.bool false)))) sNext)
  (sSeq (sIf (mT (tst (eFn 2 g_law_is_less (aCons (eFn 3 g_trip_turns (aCons (eVar 1) (aCons (eVar 2) (aCons (eVar 9) aNil)))) (aCons (eVar 10) aNil))))) (sRet (mP (eC (.bool false)))) sNext)
  (sSeq (sSet 12 (mCall gTupOf (maCons (mLc [15] (miOf giRg1 (maCons (m2 gAdd (mP (eC (.int 1))) (mIo 2 0 g_law_draw (mhHole (maCons (mP (eC (.int 3))) maNil)))) maNil)) (bbName 15) mTrue (m2 gAdd (mP (eC (.int 2))) (mIo 2 0 g_law_draw (mhHole (maCons (mP (eC (.int 60))) maNil))))) maNil)))
  (sSeq (sSet 13 (mP (e2 gMul (e2 gFdiv (e2 gIx (eVar 10) (eC (.int 0))) (e2 gIx (eVar 10) (eC (.int 1)))) (e2 gIx (eVar 12) (eC (.int 0))))))
  (sSeq (sIf (mT (tst (e2 cmpNe (eFn 3 g_belt_after (aCons (eVar 1) (aCons (eVar 2) (aCons (eVar 12) aNil)))) (eCall gTupOf (aCons (eLc [18] (iSelf (eVar 12)) (bName 18) bTrue (e2 gMod (eCall gInt (aCons (eVar 13) aNil)) (eVar 18))) aNil))))) (sRet (mP (eC (.bool false)))) sNext)
  (sSeq (sIf (mT (tst (e2 cmpNe (eFn 2 g_marks_after (aCons (eVar 12) (aCons (e2 gAdd (eVar 13) (eFn 1 g_round_of (aCons (eVar 12) aNil))) aNil))) (eFn 3 g_belt_after (aCons (eVar 1) (aCons (eVar 2) (aCons (eVar 12) aNil))))))) (sRet (mP (eC (.bool false)))) sNext)
  (sRet (mIo 3 0 g_law_are_rest_right (mhHole (maCons (mLend 1) (maCons (mLend 2) maNil))))))))))))))))))))))))))))
theorem e_law_right (g_law_are_rest_right : List D → Option (D × D)) (g_marks_after : List D → Option D) (g_round_of : List D → Option D) (g_belt_after : List D → Option D) (g_law_draw : List D → Option (D × D)) (g_law_is_less : List D → Option D) (g_trip_turns : List D → Option D) (g_fewest_turns : List D → Option D) (g_law_plus : List D → Option D) (g_law_times : List D → Option D) (g_law_low : List D → Option D) (g_is_trip_told : List D → Option D) (g_law_any : List D → Option (D × D)) (g_law_pulls : List D → Option D) (g_trip_told : List D → Option D) (g_law_good : List D → Option D) (g_turned_by : List D → Option D) (g_law_shaft : List D → Option D) (g_drive_pulls : List D → Option D) (g_shaft_at : List D → Option D) (g_law_drive : List D → Option (D × D)) : m_law_right g_law_are_rest_right g_marks_after g_round_of g_belt_after g_law_draw g_law_is_less g_trip_turns g_fewest_turns g_law_plus g_law_times g_law_low g_is_trip_told g_law_any g_law_pulls g_trip_told g_law_good g_turned_by g_law_shaft g_drive_pulls g_shaft_at g_law_drive = b_law_right_0 g_law_are_rest_right g_marks_after g_round_of g_belt_after g_law_draw g_law_is_less g_trip_turns g_fewest_turns g_law_plus g_law_times g_law_low g_is_trip_told g_law_any g_law_pulls g_trip_told g_law_good g_turned_by g_law_shaft g_drive_pulls g_shaft_at g_law_drive := rfl
theorem F_law_right {f : Addr} {fd : FuncData} (F : Fun K "_law_right" "_law_right" s_law_right f fd) (hb : L2.Binds K fd ["hand"] []) (hm : mg "_law_right" = some (.ref f)) (z_int : mg "int" = none) (z_tuple : mg "tuple" = none) (z_range : mg "range" = none) (z_zip : mg "zip" = none) (z_enumerate : mg "enumerate" = none) (z_abs : mg "abs" = none) {g_law_are_rest_right : List D → Option (D × D)} (F_law_are_rest_right : FnD P w K mg base "_law_are_rest_right" 9 (spI K 3 0 g_law_are_rest_right)) {g_marks_after : List D → Option D} (F_marks_after : FnD P w K mg base "marks_after" 7 (spP K 2 g_marks_after)) {g_round_of : List D → Option D} (F_round_of : FnD P w K mg base "round_of" 7 (spP K 1 g_round_of)) {g_belt_after : List D → Option D} (F_belt_after : FnD P w K mg base "belt_after" 10 (spP K 3 g_belt_after)) {g_law_draw : List D → Option (D × D)} (F_law_draw : FnD P w K mg base "_law_draw" 1 (spI K 2 0 g_law_draw)) {g_law_is_less : List D → Option D} (F_law_is_less : FnD P w K mg base "_law_is_less" 1 (spP K 2 g_law_is_less)) {g_trip_turns : List D → Option D} (F_trip_turns : FnD P w K mg base "trip_turns" 7 (spP K 3 g_trip_turns)) {g_fewest_turns : List D → Option D} (F_fewest_turns : FnD P w K mg base "fewest_turns" 9 (spP K 2 g_fewest_turns)) {g_law_plus : List D → Option D} (F_law_plus : FnD P w K mg base "_law_plus" 2 (spP K 2 g_law_plus)) {g_law_times : List D → Option D} (F_law_times : FnD P w K mg base "_law_times" 2 (spP K 2 g_law_times)) {g_law_low : List D → Option D} (F_law_low : FnD P w K mg base "_law_low" 1 (spP K 2 g_law_low)) {g_is_trip_told : List D → Option D} (F_is_trip_told : FnD P w K mg base "is_trip_told" 8 (spP K 3 g_is_trip_told)) {g_law_any : List D → Option (D × D)} (F_law_any : FnD P w K mg base "_law_any" 2 (spI K 2 0 g_law_any)) {g_law_pulls : List D → Option D} (F_law_pulls : FnD P w K mg base "_law_pulls" 4 (spP K 2 g_law_pulls)) {g_trip_told : List D → Option D} (F_trip_told : FnD P w K mg base "trip_told" 8 (spP K 2 g_trip_told)) {g_law_good : List D → Option D} (F_law_good : FnD P w K mg base "_law_good" 5 (spP K 2 g_law_good)) {g_turned_by : List D → Option D} (F_turned_by : FnD P w K mg base "turned_by" 4 (spP K 2 g_turned_by)) {g_law_shaft : List D → Option D} (F_law_shaft : FnD P w K mg base "_law_shaft" 3 (spP K 2 g_law_shaft)) {g_drive_pulls : List D → Option D} (F_drive_pulls : FnD P w K mg base "drive_pulls" 7 (spP K 2 g_drive_pulls)) {g_shaft_at : List D → Option D} (F_shaft_at : FnD P w K mg base "shaft_at" 6 (spP K 2 g_shaft_at)) {g_law_drive : List D → Option (D × D)} (F_law_drive : FnD P w K mg base "_law_drive" 3 (spI K 1 0 g_law_drive))
    {g : List D → Option (D × D)} (law : ∀ dpre d dpost r d', dpre.length = 0 → dpre.length + 1 + dpost.length = 1 → g (dpre ++ d :: dpost) = some (r, d') → m_law_right g_law_are_rest_right g_marks_after g_round_of g_belt_after g_law_draw g_law_is_less g_trip_turns g_fewest_turns g_law_plus g_law_times g_law_low g_is_trip_told g_law_any g_law_pulls g_trip_told g_law_good g_turned_by g_law_shaft g_drive_pulls g_shaft_at g_law_drive (seI 0 r d') (envI dpre d dpost 18)) : FnD P w K mg base "_law_right" 11 (spI K 1 0 g) := by
  refine fnI (k := 10) 0 F sc_law_right hb hm (fun cdv A outer s H E hr => ?_) law
  have hu := hu64 hr
  have hu1 := hu1G hr
  have nd := sc_law_right.nd
  exact ⟨_, (ss_cons (ss_set (i := 1) nd (mm_io F_law_drive (hr.mono (by decide)) (mh_hole (i := 0) ma_nil)))
    (ss_cons (ss_set (i := 2) nd (mm_pf (pf_lst an_nil)))
    (ss_cons (ss_for (mi_of (it_rg1 z_range) (ma_cons (mv_mm (mm_op o_add (mv_pf pk_int) (mv_mm (mm_io F_law_draw (hr.mono (by decide)) (mh_hole (i := 0) (ma_cons (mv_pf pk_int) ma_nil)))))) ma_nil)) (bg_name 3 nd) (ss_one (ss_expr (mm_app (i := 2) (mm_tup (mn_cons (mm_op o_add (mv_pf pk_int) (mv_mm (mm_io F_law_draw (hr.mono (by decide)) (mh_hole (i := 0) (ma_cons (mv_pf pk_int) ma_nil))))) (mn_cons (mm_op o_add (mv_pf pk_int) (mv_mm (mm_io F_law_draw (hr.mono (by decide)) (mh_hole (i := 0) (ma_cons (mv_pf pk_int) ma_nil))))) (mn_cons (mm_io F_law_draw (hr.mono (by decide)) (mh_hole (i := 0) (ma_cons (mv_mm (mm_io F_law_any (hr.mono (by decide)) (mh_hole (i := 0) (ma_cons (mv_pf (pf_lst (an_cons pk_int (an_cons pk_int an_nil)))) ma_nil)))) ma_nil))) mn_nil))))))))
    (ss_cons (ss_set (i := 2) nd (mm_pf (pf_ct c_tuple z_tuple (ar_cons (pv' 2) ar_nil))))
    (ss_cons (ss_set (i := 4) nd (mm_io F_law_draw (hr.mono (by decide)) (mh_hole (i := 0) (ma_cons (mv_pf pk_int) ma_nil))))
    (ss_cons (ss_if (mt_pt (PWt.pt (tw_or (tt_cmp (o_ne hu) (PF.pp (pf_fn F_shaft_at (hr.mono (by decide)) (ar_cons (pv' 1) (ar_cons (pv' 4) ar_nil)))) (PF.pp (pf_fn F_law_shaft (hr.mono (by decide)) (ar_cons (pv' 1) (ar_cons (pv' 4) ar_nil))))) (tw_or1 (tt_cmp (o_ne hu) (PF.pp (pf_fn F_drive_pulls (hr.mono (by decide)) (ar_cons (pv' 1) (ar_cons (pv' 4) ar_nil)))) (PF.pp (pf_fn F_law_pulls (hr.mono (by decide)) (ar_cons (pv' 1) (ar_cons (pv' 4) ar_nil))))))))) (ss_one (ss_ret (mm_pf pk_bl))) ss_nil)
    (ss_cons (ss_set (i := 5) nd (mm_pf (pf_fn F_law_low (hr.mono (by decide)) (ar_cons (PF.pp (pf_op o_mul (PF.pp (pf_op o_mul (PF.pp pk_int) (PF.pp pk_int))) (pv' 4))) (ar_cons (pp_ix (pv' 1) (PF.pp pk_int)) ar_nil)))))
    (ss_cons (ss_if (mt_pt (tt_cmp (o_ne hu) (PF.pp (pf_cb (c_abs) z_abs (ar_cons (pp_ix (PF.pp (pf_fn F_turned_by (hr.mono (by decide)) (ar_cons (PF.pp (pf_tup (an_cons (PP.frz (pp_ix (pv' 1) (PF.pp pk_int))) (an_cons (PP.frz (pp_ix (pv' 1) (PF.pp pk_int))) an_nil)))) (ar_cons (pv' 5) ar_nil)))) (PF.pp pk_int)) ar_nil))) (pp_ix (PF.pp (pf_fn F_law_shaft (hr.mono (by decide)) (ar_cons (pv' 1) (ar_cons (pv' 4) ar_nil)))) (PF.pp pk_int)))) (ss_one (ss_ret (mm_pf pk_bl))) ss_nil)
    (ss_cons (ss_setLc (i := 6) (own := [("part", 3)]) nd (pi_self (pv' 2)) (blkOk_by (own := [("part", 3)]) (N := N_law_right) (sc := defScope s_law_right) (by decide +kernel)) (fun _ _ _ _ _ => (gt_name 3 nd)) (fun _ _ _ _ _ => ts_nil) (fun _ _ _ _ _ => (pf_fn F_law_good (hr.mono (by decide)) (ar_cons (pv' 1) (ar_cons (pv' 3) ar_nil)))) (sw_true rfl rfl rfl (by decide +kernel)))
    (ss_cons (ss_set (i := 7) nd (mm_pf (pf_fn F_trip_told (hr.mono (by decide)) (ar_cons (pv' 1) (ar_cons (pv' 2) ar_nil)))))
    (ss_cons (ss_setLc (i := 8) (own := [("at", 16), ("row", 17)]) nd (pi_of (it_enum z_enumerate) (ar_cons (pv' 6) ar_nil)) (blkOk_by (own := [("at", 16), ("row", 17)]) (N := N_law_right) (sc := defScope s_law_right) (by decide +kernel)) (fun _ _ _ _ _ => (gt_tup (gs_cons (gt_name 16 nd) (gs_cons (gt_name 17 nd) gs_nil)) (bl_cons (bl_cons bl_nil)))) (fun _ _ _ _ _ => (ts_one (tt_cmp (o_eq hu) (pv' 17) (PF.pp (pf_lst an_nil))))) (fun _ _ _ _ _ => (PP.frz (pv' 16))) (sw_true rfl rfl rfl (by decide +kernel)))
    (ss_cons (ss_if (mt_pt (PWt.pt (tw_or (tt_cmp (o_isNot) (PF.pp (pf_fn F_is_trip_told (hr.mono (by decide)) (ar_cons (pv' 1) (ar_cons (pv' 2) (ar_cons (pv' 7) ar_nil))))) (PF.pp pk_bl)) (tw_or1 (tt_cmp (o_ne hu) (PF.pp (pf_cmp (o_eq hu) (pp_ix (pv' 7) (PF.pp pk_int)) (PF.pp pk_str))) (PF.pp (pf_cmp (o_ne hu) (pv' 8) (PF.pp (pf_lst an_nil))))))))) (ss_one (ss_ret (mm_pf pk_bl))) ss_nil)
    (ss_cons (ss_if (mt_pt (tt_cmp (o_ne hu) (pv' 8) (PF.pp (pf_lst an_nil)))) (ss_cons (ss_set (i := 14) nd (mm_pf (pf_fn F_law_pulls (hr.mono (by decide)) (ar_cons (pv' 1) (ar_cons (pp_ix (pp_ix (pv' 2) (pp_ix (pv' 8) (PF.pp pk_int))) (PF.pp pk_int)) ar_nil)))))
    (ss_cons (ss_if (mt_pt (PWt.pt (tw_or (tt_cmp (o_isNot) (PF.pp (pf_fn F_fewest_turns (hr.mono (by decide)) (ar_cons (pv' 1) (ar_cons (pv' 2) ar_nil)))) (PF.pp pk_non)) (tw_or1 (tt_cmp (o_isNot) (PF.pp (pf_fn F_belt_after (hr.mono (by decide)) (ar_cons (pv' 1) (ar_cons (pv' 2) (ar_cons (PF.pp (pf_tup (an_cons pk_int an_nil))) ar_nil))))) (PF.pp pk_non)))))) (ss_one (ss_ret (mm_pf pk_bl))) ss_nil)
    (ss_one (ss_ret (mm_pf (pf_cmp (o_eq hu) (pv' 7) (PF.pp (pf_tup (an_cons pk_str (an_cons (pf_tup (an_cons (PP.frz (pp_ix (pv' 8) (PF.pp pk_int))) (an_cons (PP.frz (pv' 14)) an_nil))) an_nil)))))))))) ss_nil)
    (ss_cons (ss_if (mt_pt (tt_cmp (o_ne hu) (pv' 7) (PF.pp (pf_tup (an_cons pk_str (an_cons (pf_ct c_tuple z_tuple (ar_cons (PF.pp (pf_lc (own := [("row", 17)]) nd (pi_self (pv' 6)) (blkOk_by (own := [("row", 17)]) (N := N_law_right) (sc := defScope s_law_right) (by decide +kernel)) (fun _ _ _ _ _ => (gt_name 17 nd)) (fun _ _ _ _ _ => ts_nil) (fun _ _ _ _ _ => (PP.frz (pp_ix (pv' 17) (PF.pp (pf_un o_neg (PF.pp pk_int)))))))) ar_nil)) an_nil)))))) (ss_one (ss_ret (mm_pf pk_bl))) ss_nil)
    (ss_cons (ss_par (i := 9) (j := 10) nd (mm_ct c_tuple z_tuple (ma_cons (mv_mm (mm_lc (own := [("row", 17)]) nd (mi_self (mv_var 6)) (blkOk_by (own := [("row", 17)]) (N := N_law_right) (sc := defScope s_law_right) (by decide +kernel)) (fun _ _ _ _ _ => (bt_name 17 nd)) (fun _ _ _ _ _ => mts_nil) (fun _ _ _ _ _ => (mm_io F_law_any (hr.mono (by decide)) (mh_hole (i := 0) (ma_cons (mv_var 17) ma_nil)))))) ma_nil)) (mm_pf (pf_tup (an_cons pk_int (an_cons pk_int an_nil)))))
    (ss_cons (ss_if (mt_pt (tt_cmp (o_isNot) (PF.pp (pf_fn F_is_trip_told (hr.mono (by decide)) (ar_cons (pv' 1) (ar_cons (pv' 2) (ar_cons (PF.pp (pf_tup (an_cons pk_str (an_cons (PP.frz (pv' 9)) an_nil)))) ar_nil))))) (PF.pp pk_bl))) (ss_one (ss_ret (mm_pf pk_bl))) ss_nil)
    (ss_cons (ss_for (mi_of (it_zip z_zip) (ma_cons (mv_var 2) (ma_cons (mv_pf (PP.frz (pp_ix (pv' 7) (PF.pp pk_int)))) ma_nil))) (bg_tup (bgs_cons (bg_name 3 nd) (bgs_cons (bg_name 11 nd) bgs_nil)) (bl_cons (bl_cons bl_nil))) (ss_cons (ss_set (i := 15) nd (mm_pf (pf_fn F_law_low (hr.mono (by decide)) (ar_cons (PF.pp (pf_op o_mul (PF.pp pk_int) (pp_ix (pv' 3) (PF.pp pk_int)))) (ar_cons (pp_ix (pv' 1) (PF.pp pk_int)) ar_nil)))))
    (ss_one (ss_set (i := 10) nd (mm_pf (pf_fn F_law_plus (hr.mono (by decide)) (ar_cons (pv' 10) (ar_cons (PF.pp (pf_fn F_law_times (hr.mono (by decide)) (ar_cons (PF.pp (pf_fn F_law_times (hr.mono (by decide)) (ar_cons (pv' 15) (ar_cons (PF.pp (pf_fn F_law_low (hr.mono (by decide)) (ar_cons (pp_ix (pv' 1) (PF.pp pk_int)) (ar_cons (pp_ix (pv' 1) (PF.pp pk_int)) ar_nil)))) ar_nil)))) (ar_cons (pp_ix (pp_ix (pv' 1) (PF.pp pk_int)) (pv' 11)) ar_nil)))) ar_nil))))))))
    (ss_cons (ss_if (mt_pt (PWt.pt (tw_or (tt_cmp (o_ne hu) (PF.pp (pf_fn F_trip_turns (hr.mono (by decide)) (ar_cons (pv' 1) (ar_cons (pv' 2) (ar_cons (pp_ix (pv' 7) (PF.pp pk_int)) ar_nil))))) (pv' 10)) (tw_or1 (tt_cmp (o_ne hu) (PF.pp (pf_fn F_fewest_turns (hr.mono (by decide)) (ar_cons (pv' 1) (ar_cons (pv' 2) ar_nil)))) (pv' 10)))))) (ss_one (ss_ret (mm_pf pk_bl))) ss_nil)
    (ss_cons (ss_if (mt_pt (tt_val (PF.pp (pf_fn F_law_is_less (hr.mono (by decide)) (ar_cons (PF.pp (pf_fn F_trip_turns (hr.mono (by decide)) (ar_cons (pv' 1) (ar_cons (pv' 2) (ar_cons (pv' 9) ar_nil))))) (ar_cons (pv' 10) ar_nil)))))) (ss_one (ss_ret (mm_pf pk_bl))) ss_nil)
    (ss_cons (ss_set (i := 12) nd (mm_ct c_tuple z_tuple (ma_cons (mv_mm (mm_lc (own := [("wheel", 15)]) nd (mi_of (it_rg1 z_range) (ma_cons (mv_mm (mm_op o_add (mv_pf pk_int) (mv_mm (mm_io F_law_draw (hr.mono (by decide)) (mh_hole (i := 0) (ma_cons (mv_pf pk_int) ma_nil)))))) ma_nil)) (blkOk_by (own := [("wheel", 15)]) (N := N_law_right) (sc := defScope s_law_right) (by decide +kernel)) (fun _ _ _ _ _ => (bt_name 15 nd)) (fun _ _ _ _ _ => mts_nil) (fun _ _ _ _ _ => (mm_op o_add (mv_pf pk_int) (mv_mm (mm_io F_law_draw (hr.mono (by decide)) (mh_hole (i := 0) (ma_cons (mv_pf pk_int) ma_nil)))))))) ma_nil)))
    (ss_cons (ss_set (i := 13) nd (mm_pf (pf_op o_mul (PF.pp (pf_op o_fdiv (pp_ix (pv' 10) (PF.pp pk_int)) (pp_ix (pv' 10) (PF.pp pk_int)))) (pp_ix (pv' 12) (PF.pp pk_int)))))
    (ss_cons (ss_if (mt_pt (tt_cmp (o_ne hu) (PF.pp (pf_fn F_belt_after (hr.mono (by decide)) (ar_cons (pv' 1) (ar_cons (pv' 2) (ar_cons (pv' 12) ar_nil))))) (PF.pp (pf_ct c_tuple z_tuple (ar_cons (PF.pp (pf_lc (own := [("teeth", 18)]) nd (pi_self (pv' 12)) (blkOk_by (own := [("teeth", 18)]) (N := N_law_right) (sc := defScope s_law_right) (by decide +kernel)) (fun _ _ _ _ _ => (gt_name 18 nd)) (fun _ _ _ _ _ => ts_nil) (fun _ _ _ _ _ => (pf_op o_mod (PF.pp (pf_ct c_int z_int (ar_cons (pv' 13) ar_nil))) (pv' 18))))) ar_nil))))) (ss_one (ss_ret (mm_pf pk_bl))) ss_nil)
    (ss_cons (ss_if (mt_pt (tt_cmp (o_ne hu) (PF.pp (pf_fn F_marks_after (hr.mono (by decide)) (ar_cons (pv' 12) (ar_cons (PF.pp (pf_op o_add (pv' 13) (PF.pp (pf_fn F_round_of (hr.mono (by decide)) (ar_cons (pv' 12) ar_nil))))) ar_nil)))) (PF.pp (pf_fn F_belt_after (hr.mono (by decide)) (ar_cons (pv' 1) (ar_cons (pv' 2) (ar_cons (pv' 12) ar_nil))))))) (ss_one (ss_ret (mm_pf pk_bl))) ss_nil)
    (ss_one (ss_ret (mm_io F_law_are_rest_right (hr.mono (by decide)) (mh_hole (i := 0) (ma_cons (mv_var 1) (ma_cons (mv_var 2) ma_nil)))))))))))))))))))))))))))))⟩
abbrev N_law : List Str := ["script", "hand", "turn"]
theorem sc_law : FnScope N_law ["script"] (defScope s_law) := ⟨rfl, rfl, rfl, by decide +kernel, rfl, by decide +kernel, by decide +kernel⟩
noncomputable def m_law (g_law_right : List D → Option (D × D)) (g_law_hand : List D → Option D) : FS := (sSeq (sSet 1 (mP (eFn 1 g_law_hand (aCons (eVar 0) aNil))))
  (sRet (mCall gAll (maCons (mLc [2] (miOf giRg1 (maCons (mP (eC (.int 3))) maNil)) (bbName 2) mTrue (mIo 1 1 g_law_right (mhHole maNil))) maNil))))
theorem F_law {f : Addr} {fd : FuncData} (F : Fun K "law" "law" s_law f fd) (hb : L2.Binds K fd ["script"] []) (hm : mg "law" = some (.ref f)) (z_range : mg "range" = none) (z_all : mg "all" = none) {g_law_right : List D → Option (D × D)} (F_law_right : FnD P w K mg base "_law_right" 11 (spI K 1 0 g_law_right)) {g_law_hand : List D → Option D} (F_law_hand : FnD P w K mg base "_law_hand" 1 (spP K 1 g_law_hand))
    {g : List D → Option D} (law : ∀ ds d, ds.length = 1 → g ds = some d → m_law g_law_right g_law_hand (seP d) (envP ds 2)) : FnD P w K mg base "law" 12 (spP K 1 g) := by
  refine fnP (k := 11) F sc_law hb hm (fun cdv A outer s H E hr => ?_) law
  have hu := hu64 hr
  have hu1 := hu1G hr
  have nd := sc_law.nd
  exact ⟨_, (ss_cons (ss_set (i := 1) nd (mm_pf (pf_fn F_law_hand (hr.mono (by decide)) (ar_cons (pv' 0) ar_nil))))
    (ss_one (ss_ret (mm_cb (c_all) z_all (ma_cons (mv_mm (mm_lc (own := [("turn", 2)]) nd (mi_of (it_rg1 z_range) (ma_cons (mv_pf pk_int) ma_nil)) (blkOk_by (own := [("turn", 2)]) (N := N_law) (sc := defScope s_law) (by decide +kernel)) (fun _ _ _ _ _ => (bt_name 2 nd)) (fun _ _ _ _ _ => mts_nil) (fun _ _ _ _ _ => (mm_io F_law_right (hr.mono (by decide)) (mh_hole (i := 1) ma_nil))))) ma_nil)))))⟩
end
end Gen

set_option Elab.async false
set_option linter.all false
set_option maxRecDepth 100000
set_option maxHeartbeats 4000000
namespace KK
open PySem PySem.Spec PyProof.Rows L2 Pd Gen
theorem capL {n : Nat} (h : n ≤ 1000) : n ≤ cap := Nat.le_trans h (by decide)
theorem pow_10 (k : Nat) (h : k ≤ 1000) : gPow (.int 10) (.int k) = some (.int (10 ^ k)) := by
  have h1 : cPow 10 k = true := by
    unfold cPow
    simp only [Bool.and_eq_true, decide_eq_true_eq]
    refine ⟨⟨by omega, by omega⟩, by decide⟩
  show gI2 cPow (fun i j => i ^ j.toNat) (.int 10) (.int k) = _
  unfold gI2
  simp only [h1, if_true]
  simp
@[simp] theorem pow_10_2 : gPow (.int 10) (.int 2) = some (.int 100) := pow_10 2 (by decide)
@[simp] theorem pow_10_3 : gPow (.int 10) (.int 3) = some (.int 1000) := pow_10 3 (by decide)
@[simp] theorem pow_10_4 : gPow (.int 10) (.int 4) = some (.int 10000) := pow_10 4 (by decide)
@[simp] theorem pow_10_5 : gPow (.int 10) (.int 5) = some (.int 100000) := pow_10 5 (by decide)
@[simp] theorem pow_10_6 : gPow (.int 10) (.int 6) = some (.int 1000000) := pow_10 6 (by decide)
@[simp] theorem pow_10_9 : gPow (.int 10) (.int 9) = some (.int 1000000000) := pow_10 9 (by decide)
@[simp] theorem pow_10_12 : gPow (.int 10) (.int 12) = some (.int 1000000000000) := pow_10 12 (by decide)
@[simp] theorem pow_10_18 : gPow (.int 10) (.int 18) = some (.int 1000000000000000000) := pow_10 18 (by decide)
@[simp] theorem pow_10_20 : gPow (.int 10) (.int 20) = some (.int 100000000000000000000) := pow_10 20 (by decide)
@[simp] theorem pow_10_36 : gPow (.int 10) (.int 36) = some (.int 1000000000000000000000000000000000000) := pow_10 36 (by decide)
@[simp] theorem isa_int_none : gIsa "int" .none = some (.bool false) := rfl
@[simp] theorem isa_int_bool {x : Bool} : gIsa "int" (.bool x) = some (.bool true) := rfl
@[simp] theorem isa_int_int {x : Int} : gIsa "int" (.int x) = some (.bool true) := rfl
@[simp] theorem isa_int_str {x : Str} : gIsa "int" (.str x) = some (.bool false) := rfl
@[simp] theorem isa_int_list {x : List D} : gIsa "int" (.list x) = some (.bool false) := rfl
@[simp] theorem isa_int_tuple {x : List D} : gIsa "int" (.tuple x) = some (.bool false) := rfl
@[simp] theorem isa_bool_none : gIsa "bool" .none = some (.bool false) := rfl
@[simp] theorem isa_bool_bool {x : Bool} : gIsa "bool" (.bool x) = some (.bool true) := rfl
@[simp] theorem isa_bool_int {x : Int} : gIsa "bool" (.int x) = some (.bool false) := rfl
@[simp] theorem isa_bool_str {x : Str} : gIsa "bool" (.str x) = some (.bool false) := rfl
@[simp] theorem isa_bool_list {x : List D} : gIsa "bool" (.list x) = some (.bool false) := rfl
@[simp] theorem isa_bool_tuple {x : List D} : gIsa "bool" (.tuple x) = some (.bool false) := rfl
@[simp] theorem isa_str_none : gIsa "str" .none = some (.bool false) := rfl
@[simp] theorem isa_str_bool {x : Bool} : gIsa "str" (.bool x) = some (.bool false) := rfl
@[simp] theorem isa_str_int {x : Int} : gIsa "str" (.int x) = some (.bool false) := rfl
@[simp] theorem isa_str_str {x : Str} : gIsa "str" (.str x) = some (.bool true) := rfl
@[simp] theorem isa_str_list {x : List D} : gIsa "str" (.list x) = some (.bool false) := rfl
@[simp] theorem isa_str_tuple {x : List D} : gIsa "str" (.tuple x) = some (.bool false) := rfl
@[simp] theorem isa_tuple_none : gIsa "tuple" .none = some (.bool false) := rfl
@[simp] theorem isa_tuple_bool {x : Bool} : gIsa "tuple" (.bool x) = some (.bool false) := rfl
@[simp] theorem isa_tuple_int {x : Int} : gIsa "tuple" (.int x) = some (.bool false) := rfl
@[simp] theorem isa_tuple_str {x : Str} : gIsa "tuple" (.str x) = some (.bool false) := rfl
@[simp] theorem isa_tuple_list {x : List D} : gIsa "tuple" (.list x) = some (.bool false) := rfl
@[simp] theorem isa_tuple_tuple {x : List D} : gIsa "tuple" (.tuple x) = some (.bool true) := rfl
theorem word_ne {a b : Str} (h : (a == b) = false) : ¬ a = b := by simpa using h
@[simp] theorem is_none_int {i : Int} : gIs (.int i) .none = some (.bool false) := rfl
@[simp] theorem is_none_tup {i : List D} : gIs (.tuple i) .none = some (.bool false) := rfl
@[simp] theorem is_none_none : gIs .none .none = some (.bool true) := rfl
@[simp] theorem isn_none_int {i : Int} : gIsNot (.int i) .none = some (.bool true) := rfl
@[simp] theorem isn_none_tup {i : List D} : gIsNot (.tuple i) .none = some (.bool true) := rfl
@[simp] theorem isn_none_none : gIsNot .none .none = some (.bool false) := rfl
@[simp] theorem isn_bool {b c : Bool} : gIsNot (.bool b) (.bool c) = some (.bool (!decide (b = c))) := rfl
theorem set_same {T : En} {j : Nat} {s : Pd.Slot} (h : T[j]? = some s) : T.set j s = T := by
  refine List.ext_getElem? fun i => ?_
  by_cases hi : j = i
  · subst hi
    rw [List.getElem?_set_self (List.getElem?_eq_some_iff.mp h).1, h]
  · rw [List.getElem?_set_ne hi]
theorem get_set_self {ε : En} {k : Nat} {s : Pd.Slot} (h : k < ε.length) : Pd.get (ε.set k s) k = s.val := by
  unfold Pd.get
  rw [List.getElem?_set_self h]
  rfl
theorem get_set_ne {ε : En} {k j : Nat} {s : Pd.Slot} (h : j ≠ k) : Pd.get (ε.set j s) k = Pd.get ε k := by
  unfold Pd.get
  rw [List.getElem?_set_ne h]
def isIntD : D → Bool
  | .int _ => true
  | _ => false
def c_is_integer : List D → Option D
  | [d] => if notDict d then some (.bool (isIntD d)) else none
  | _ => none
@[simp] theorem q_is_integer {i : Int} : c_is_integer [.int i] = some (.bool true) := rfl
theorem l_is_integer : ∀ ds d, ds.length = 1 → c_is_integer ds = some d → m_is_integer (seP d) (envP ds 0) := by
  intro ds d hlen h
  unfold c_is_integer at h
  split at h
  · rename_i x
    split at h
    · cases h
      cases x with
      | int i => simp [m_is_integer, isIntD]
      | bool b => simp [m_is_integer, isIntD]
      | str b => simp [m_is_integer, isIntD]
      | none => simp [m_is_integer, isIntD]
      | list b => simp [m_is_integer, isIntD]
      | tuple b => simp [m_is_integer, isIntD]
      | dict b => rename_i hd; simp [notDict] at hd
    · cases h
  · cases h
def wIn (d : D) (lo hi : Int) : Bool := match d with
  | .int i => decide (lo ≤ i) && decide (i ≤ hi)
  | _ => false
def c_is_within : List D → Option D
  | [d, .int lo, .int hi] => if notDict d then some (.bool (wIn d lo hi)) else none
  | _ => none
@[simp] theorem q_is_within {i lo hi : Int} : c_is_within [.int i, .int lo, .int hi] = some (.bool (decide (lo ≤ i) && decide (i ≤ hi))) := rfl
theorem l_is_within : ∀ ds d, ds.length = 3 → c_is_within ds = some d → m_is_within c_is_integer (seP d) (envP ds 0) := by
  intro ds d hlen h
  unfold c_is_within at h
  split at h
  · rename_i x lo hi
    split at h
    · rename_i hd
      cases h
      have q : c_is_integer [x] = some (.bool (isIntD x)) := if_pos hd
      cases x with
      | int i =>
        by_cases h1 : lo ≤ i
        · simp [m_is_within, wIn, h1]
        · simp [m_is_within, wIn, h1]
      | dict b => simp [notDict] at hd
      | _ => simp [m_is_within, q, isIntD, wIn]
    · cases h
  · cases h
def rowD (d : D) (n lo hi : Int) : Bool := match d with
  | .tuple xs => decide ((xs.length : Int) = n) && xs.all fun x => wIn x lo hi
  | _ => false
def okRow : D → Bool
  | .tuple xs => decide (xs.length ≤ 1000) && xs.all notDict
  | d => notDict d
def c_is_row : List D → Option D
  | [d, .int n, .int lo, .int hi] => if okRow d then some (.bool (rowD d n lo hi)) else none
  | _ => none
theorem okRow_ints {xs : List Int} (h : xs.length ≤ 1000) : okRow (.tuple (xs.map .int)) = true := by
  simp [okRow, h]
  intro x _
  rfl
theorem rowD_ints {xs : List Int} {n lo hi : Int} : rowD (.tuple (xs.map .int)) n lo hi = (decide ((xs.length : Int) = n) && xs.all fun x => decide (lo ≤ x) && decide (x ≤ hi)) := by
  show (decide (((xs.map PyData.int).length : Int) = n) && (xs.map PyData.int).all fun x => wIn x lo hi) = _
  rw [List.length_map, List.all_map]
  rfl
theorem q_is_row {xs : List Int} {n lo hi : Int} (h : xs.length ≤ 1000) : c_is_row [.tuple (xs.map .int), .int n, .int lo, .int hi] = some (.bool (decide ((xs.length : Int) = n) && xs.all fun x => decide (lo ≤ x) && decide (x ≤ hi))) := by
  rw [← rowD_ints]
  exact if_pos (okRow_ints h)
theorem q_is_row_t {xs : List Int} {n lo hi : Int} (h : xs.length ≤ 1000) (h1 : (xs.length : Int) = n) (h2 : ∀ x ∈ xs, lo ≤ x ∧ x ≤ hi) : c_is_row [.tuple (xs.map .int), .int n, .int lo, .int hi] = some (.bool true) := by
  rw [q_is_row h]
  simp [h1]
  exact fun x hx => h2 x hx
theorem l_is_row : ∀ ds d, ds.length = 4 → c_is_row ds = some d → m_is_row c_is_within (seP d) (envP ds 1) := by
  intro ds d hlen h
  unfold c_is_row at h
  split at h
  · rename_i x n lo hi
    split at h
    · rename_i hd
      cases h
      cases x with
      | tuple xs =>
        simp only [okRow, Bool.and_eq_true, decide_eq_true_eq] at hd
        have lc : ∀ e : En, 4 < e.length → Pd.get e 2 = some (.int lo) → Pd.get e 3 = some (.int hi) → compL (bName 4) bTrue (eFn 3 c_is_within (aCons (eVar 4) (aCons (eVar 2) (aCons (eVar 3) aNil)))) e xs = some (xs.map fun x => .bool (wIn x lo hi)) := by
          intro e he g2 g3
          have := lcMap (b := bName 4) (el := eFn 3 c_is_within (aCons (eVar 4) (aCons (eVar 2) (aCons (eVar 3) aNil)))) (ε := e) (f := id) (h := fun x => .bool (wIn x lo hi)) (xs := xs) (fun x hx => by
            have nd : notDict x = true := List.all_eq_true.mp hd.2 x hx
            have qw : c_is_within [x, .int lo, .int hi] = some (.bool (wIn x lo hi)) := if_pos nd
            simp [get_set_self he, get_set_ne, g2, g3, qw])
          rwa [List.map_id] at this
        by_cases hl : (xs.length : Int) = n
        · simp [m_is_row, hl, capL hd.1]
          rw [lc _ (by simp) (by unfold toSl; split <;> rfl) (by unfold toSl; split <;> rfl)]
          simp [gl_all', rowD, hl]
        · simp [m_is_row, hl, rowD]
      | dict b => simp [okRow, notDict] at hd
      | _ => simp [m_is_row, rowD]
    · cases h
  · cases h
def c_is_some : List D → Option D
  | [d, .int n, .int m, .int lo, .int hi] => if okRow d then some (.bool (match d with
      | .tuple xs => decide (n ≤ (xs.length : Int)) && (decide ((xs.length : Int) ≤ m) && xs.all fun x => wIn x lo hi)
      | _ => false)) else none
  | _ => none
theorem q_is_some {xs : List Int} {n m lo hi : Int} (h : xs.length ≤ 1000) : c_is_some [.tuple (xs.map .int), .int n, .int m, .int lo, .int hi] = some (.bool (decide (n ≤ (xs.length : Int)) && (decide ((xs.length : Int) ≤ m) && xs.all fun x => decide (lo ≤ x) && decide (x ≤ hi)))) := by
  unfold c_is_some
  simp only [okRow_ints h, if_true, List.length_map, List.all_map]
  rfl
theorem q_is_some_t {xs : List Int} {n m lo hi : Int} (h : xs.length ≤ 1000) (h1 : n ≤ (xs.length : Int)) (h2 : (xs.length : Int) ≤ m) (h3 : ∀ x ∈ xs, lo ≤ x ∧ x ≤ hi) : c_is_some [.tuple (xs.map .int), .int n, .int m, .int lo, .int hi] = some (.bool true) := by
  rw [q_is_some h]
  simp [h1, h2]
  exact fun x hx => h3 x hx
theorem l_is_some : ∀ ds d, ds.length = 5 → c_is_some ds = some d → m_is_some c_is_row (seP d) (envP ds 0) := by
  intro ds d hlen h
  unfold c_is_some at h
  split at h
  · rename_i x n m lo hi
    split at h
    · rename_i hd
      cases h
      have q : ∀ k : Int, c_is_row [x, .int k, .int lo, .int hi] = some (.bool (rowD x k lo hi)) := fun k => if_pos hd
      cases x with
      | tuple xs =>
        by_cases h1 : n ≤ (xs.length : Int)
        · by_cases h2 : (xs.length : Int) ≤ m
          · simp [m_is_some, h1, h2, q, rowD]
          · simp [m_is_some, h1, h2]
        · simp [m_is_some, h1]
      | dict b => simp [okRow, notDict] at hd
      | _ => simp [m_is_some]
    · cases h
  · cases h
noncomputable def c_shared := fn2 (fun _ _ : Int => True) (fun a b => (Int.gcd a b : Int))
@[simp] theorem q_shared {a b : Int} : c_shared [.int a, .int b] = some (.int (Int.gcd a b)) := fn2_eq (a := a) (b := b) trivial
theorem l_shared : ∀ ds d, ds.length = 2 → c_shared ds = some d → m_shared (seP d) (envP ds 0) := fn2_law (fun a b _ => by
  have ea : (if a < 0 then -a else a) = (a.natAbs : Int) := by split <;> omega
  have eb : (if b < 0 then -b else b) = (b.natAbs : Int) := by split <;> omega
  simp [m_shared, ea, eb]
  refine wh_inv (fun m e => ∃ x y : Nat, e = [.ow (.int (x : Int)), .ow (.int (y : Int))] ∧ m = y ∧ Nat.gcd x y = Int.gcd a b) ?_ (m := b.natAbs) ⟨a.natAbs, b.natAbs, rfl, rfl, rfl⟩
  rintro m e S' ⟨x, y, rfl, rfl, g⟩ hrt hbk hn _
  by_cases hy : 0 < m
  · have hm : (0 : Int) < (m : Int) := by omega
    have em : ((x : Int) % (m : Int)) = ((x % m : Nat) : Int) := by simp
    simp only [ev_mT, ev_tst, ev_e2, ev_var, ev_c, ev_get0, ev_getS, ev_val1, Option.bind_some, cg_ii, ev_toB, Option.map_some, ev_os, decide_eq_true hm, if_true, ev_par, ev_mvarS, ev_mvar0, fz_int, ev_mP, op_ii_mod hm, em, List.getElem?_cons_succ, List.getElem?_cons_zero, ev_io1, List.set_cons_succ, List.set_cons_zero, true_and]
    exact hn (x % m) _ (Nat.mod_lt _ hy) ⟨m, x % m, rfl, rfl, by rw [← g, Nat.gcd_comm x m, Nat.gcd_rec m x, Nat.gcd_comm]⟩
  · have h0 : m = 0 := by omega
    subst h0
    have : x = Int.gcd a b := by simpa using g
    simp [this]) 2
noncomputable def c_low := fn2 (fun t b : Int => b ≠ 0 ∧ KF.ib 4000 b) (fun t b => Rat.divInt t b)
theorem q_low {t b : Int} (h : b ≠ 0) (h2 : KF.ib 4000 b) : c_low [.int t, .int b] = some (frD (Rat.divInt t b)) := fn2_eq (a := t) (b := b) ⟨h, h2⟩
theorem gcd_sm {t b : Int} (h : b ≠ 0) (h2 : KF.ib 4000 b) : 0 < (Int.gcd t b : Int) ∧ sm (Int.gcd t b : Int) = true := by
  have p : 0 < (Int.gcd t b : Int) := by
    have : Int.gcd t b ≠ 0 := fun z => h (Int.gcd_eq_zero_iff.mp z).2
    omega
  have l : Int.gcd t b ≤ b.natAbs := Nat.le_of_dvd (by omega) (Nat.gcd_dvd_right _ _)
  exact ⟨p, (h2.le (i := (Int.gcd t b : Int)) (by omega)).sm⟩
theorem l_low : ∀ ds d, ds.length = 2 → c_low ds = some d → m_low c_shared (seP d) (envP ds 1) := fn2_law (fun t b ⟨h, h2⟩ => by
  by_cases hb : b < 0
  · have g := gcd_sm (t := t) h h2
    have e : Rat.divInt t b = Rat.divInt (-t) (-b) := (Rat.neg_divInt_neg t b).symm
    have e1 : (Rat.divInt t b).num = -t / (Int.gcd t b : Int) := by rw [e, KF.num_gcd _ _ (show 0 < -b by omega), Int.gcd_neg, Int.neg_gcd]
    have e2 : ((Rat.divInt t b).den : Int) = -b / (Int.gcd t b : Int) := by rw [e, KF.den_gcd _ _ (show 0 < -b by omega), Int.gcd_neg, Int.neg_gcd]
    simp [m_low, hb, op_ii_div g.1 g.2, e1, e2]
  · have g := gcd_sm (t := t) h h2
    simp [m_low, hb, op_ii_div g.1 g.2, KF.num_gcd _ _ (show 0 < b by omega), KF.den_gcd _ _ (show 0 < b by omega)]) 2
noncomputable def c_times := fn2 (fun a b : Rat => KF.Sz 1990 a ∧ KF.Sz 1990 b) (fun a b => a * b)
theorem q_times {a b : Rat} (h1 : KF.Sz 1990 a) (h2 : KF.Sz 1990 b) : c_times [frD a, frD b] = some (frD (a * b)) := fn2_eq (a := a) (b := b) ⟨h1, h2⟩
theorem l_times : ∀ ds d, ds.length = 2 → c_times ds = some d → m_times c_low (seP d) (envP ds 0) := fn2_law (fun a b ⟨h1, h2⟩ => by
  have e := q_low (t := a.num * b.num) (b := (a.den : Int) * (b.den : Int)) (Int.mul_ne_zero (KF.den_ne' a) (KF.den_ne' b)) ((h1.d.mul h2.d).mono (by decide))
  rw [KF.mul_div] at e
  simp [m_times, toSl, op_ii_mul (h1.n.sm) (h2.n.sm), op_ii_mul (h1.d.sm) (h2.d.sm), e]) 2
noncomputable def c_plus := fn2 (fun a b : Rat => KF.Sz 1990 a ∧ KF.Sz 1990 b) (fun a b => a + b)
theorem q_plus {a b : Rat} (h1 : KF.Sz 1990 a) (h2 : KF.Sz 1990 b) : c_plus [frD a, frD b] = some (frD (a + b)) := fn2_eq (a := a) (b := b) ⟨h1, h2⟩
theorem l_plus : ∀ ds d, ds.length = 2 → c_plus ds = some d → m_plus c_low (seP d) (envP ds 0) := fn2_law (fun a b ⟨h1, h2⟩ => by
  have e := q_low (t := a.num * (b.den : Int) + b.num * (a.den : Int)) (b := (a.den : Int) * (b.den : Int)) (Int.mul_ne_zero (KF.den_ne' a) (KF.den_ne' b)) ((h1.d.mul h2.d).mono (by decide))
  rw [KF.add_div] at e
  simp [m_plus, toSl, op_ii_mul (h1.n.sm) (h2.d.sm), op_ii_mul (h2.n.sm) (h1.d.sm), op_ii_mul (h1.d.sm) (h2.d.sm), e]) 2
noncomputable def c_over := fn2 (fun a b : Rat => (KF.Sz 1990 a ∧ KF.Sz 1990 b) ∧ b ≠ 0) (fun a b => a / b)
theorem q_over {a b : Rat} (h1 : KF.Sz 1990 a) (h2 : KF.Sz 1990 b) (hb : b ≠ 0) : c_over [frD a, frD b] = some (frD (a / b)) := fn2_eq (a := a) (b := b) ⟨⟨h1, h2⟩, hb⟩
theorem l_over : ∀ ds d, ds.length = 2 → c_over ds = some d → m_over c_low (seP d) (envP ds 0) := fn2_law (fun a b ⟨⟨h1, h2⟩, hb⟩ => by
  have e := q_low (t := a.num * (b.den : Int)) (b := (a.den : Int) * b.num) (Int.mul_ne_zero (KF.den_ne' a) (KF.num_ne hb)) ((h1.d.mul h2.n).mono (by decide))
  rw [KF.div_div] at e
  simp [m_over, toSl, op_ii_mul (h1.n.sm) (h2.d.sm), op_ii_mul (h1.d.sm) (h2.n.sm), e]) 2
noncomputable def c_is_less := fn2 (fun a b : Rat => KF.Sz 4000 a ∧ KF.Sz 4000 b) (fun a b => decide (a < b))
theorem q_is_less {a b : Rat} (h1 : KF.Sz 4000 a) (h2 : KF.Sz 4000 b) : c_is_less [frD a, frD b] = some (.bool (decide (a < b))) := fn2_eq (a := a) (b := b) ⟨h1, h2⟩
theorem l_is_less : ∀ ds d, ds.length = 2 → c_is_less ds = some d → m_is_less (seP d) (envP ds 0) := fn2_law (fun a b ⟨h1, h2⟩ => by
  simp [m_is_less, toSl, op_ii_mul (h1.n.sm) (h2.d.sm), op_ii_mul (h2.n.sm) (h1.d.sm), Rat.lt_iff]) 2
noncomputable def c_sum_of := fn1 (fun xs : Lst Rat => xs.of.length ≤ 10 ∧ ∀ x ∈ xs.of, KF.Sz 100 x) (fun xs => xs.of.sum)
theorem q_sum_of {xs : List Rat} (h1 : xs.length ≤ 10) (h2 : ∀ x ∈ xs, KF.Sz 100 x) : c_sum_of [.list (xs.map frD)] = some (frD xs.sum) := fn1_eq (a := Lst.mk xs) ⟨h1, h2⟩
theorem sum_sz : ∀ (xs : List Rat), (∀ x ∈ xs, KF.Sz 100 x) → KF.Sz (101 * xs.length + 1) xs.sum
  | [], _ => ⟨by show (0 : Int).natAbs < _; decide, by show (1 : Nat) < 2 ^ 1; decide⟩
  | x :: xs, h => by
    have := (h x List.mem_cons_self).add (sum_sz xs fun y hy => h y (List.mem_cons_of_mem _ hy))
    rw [List.sum_cons]
    exact this.mono (by simp; omega)
theorem sum_snoc (xs : List Rat) (x : Rat) : (xs ++ [x]).sum = xs.sum + x := by
  induction xs with
  | nil => simp [Rat.add_zero, Rat.zero_add]
  | cons y ys ih => rw [List.cons_append, List.sum_cons, List.sum_cons, ih, Rat.add_assoc]
theorem l_sum_of : ∀ ds d, ds.length = 1 → c_sum_of ds = some d → m_sum_of c_plus (seP d) (envP ds 2) := fn1_law (fun ⟨xs⟩ ⟨h1, h2⟩ => by
  simp [m_sum_of, toSl] at h1 h2 ⊢
  refine fm_inv (f := frD) (xs := xs) (fun pre e => ∃ s2, notIo (some s2) = true ∧ e = [.bo (.list (xs.map frD)), .ow (frD pre.sum), s2]) ?_ ?_ ⟨.no, rfl, rfl⟩
  · rintro pre x post e S' hx ⟨s2, h2', rfl⟩ hrt hbk hn _
    have hpre : ∀ y ∈ pre, KF.Sz 100 y := fun y hy => h2 y (by rw [hx]; exact List.mem_append_left _ hy)
    have hxx : KF.Sz 100 x := h2 x (by rw [hx]; simp)
    have sz := sum_sz pre hpre
    have hl : pre.length ≤ 10 := by rw [hx] at h1; simp at h1; omega
    have q := q_plus (sz.mono (by omega)) (hxx.mono (by decide))
    rw [← sum_snoc] at q
    simp [h2', q]
    exact hn _ ⟨.ow (frD x), rfl, by simp [toSl]⟩
  · rintro e ⟨s2, _, rfl⟩
    simp) 1
noncomputable def c_is_fraction := fn1 (fun _ : Rat => True) (fun _ => true)
@[simp] theorem q_is_fraction {q : Rat} : c_is_fraction [frD q] = some (.bool true) := fn1_eq (a := q) trivial
theorem l_is_fraction : ∀ ds d, ds.length = 1 → c_is_fraction ds = some d → m_is_fraction c_shared c_is_integer (seP d) (envP ds 1) := fn1_law (fun q _ => by
  have g := KF.gcd_num q
  have p := q.den_pos
  have c2 : 2 ≤ cap := capL (by decide)
  have lc : compL (bName 1) bTrue (eFn 1 c_is_integer (aCons (eVar 1) aNil)) [.ow (frD q), .no] [.int q.num, .int (q.den : Int)] = some [.bool true, .bool true] := lcMap (f := PyData.int) (h := fun _ => .bool true) (xs := [q.num, (q.den : Int)]) fun x _ => by simp
  have ga : gAll [.list [.bool true, .bool true]] = some (.bool true) := gl_all (bs := [true, true])
  simp [m_is_fraction, toSl, c2, lc, ga, p, g]) 1
theorem sm_small {k : Int} (h1 : -(10 ^ 100) ≤ k) (h2 : k ≤ 10 ^ 100) : sm k = true := sm_of (by omega) (by omega)
theorem getD_mem {bs : List Int} {i : Nat} (h : i < bs.length) : bs.getD i 0 ∈ bs := by
  rw [List.getD_eq_getElem?_getD, List.getElem?_eq_getElem h]
  exact List.getElem_mem h
structure Hand where
  cells : List Int
  pos : Nat
  fix : Int
  seed : Int
  cnt : Int
def handD (h : Hand) : D := .list [.list (h.cells.map .int), .int (h.pos : Int), .int h.fix, .int h.seed, .int h.cnt]
structure Hand.Ok (h : Hand) (n : Int) : Prop where
  cells : ∀ c ∈ h.cells, 0 ≤ c ∧ c < 1000000000000000000000000000000000000
  fix : 0 ≤ h.fix ∧ h.fix < 1000000000000000000000000000000000000
  seed : 0 ≤ h.seed ∧ h.seed < 2147483629
  cnt : 0 ≤ h.cnt ∧ h.cnt ≤ n
def Hand.load (h : Hand) : Hand := if h.fix = 0 ∧ h.pos < h.cells.length then
    { h with pos := h.pos + 1, seed := (h.seed * 69621 + h.cells.getD h.pos 0 * 48271 + 17) % 2147483629, fix := if 1000000000000000000 ≤ h.cells.getD h.pos 0 then h.cells.getD h.pos 0 else h.fix }
  else h
def num1 (s c : Int) : Int := (s + 7919 * c) * 40692 % 2147483647
def num2 (a : Int) : Int := a * (a / 1009 + 69621) % 2147483647
def num3 (a : Int) : Int := a * (a / 2003 + 40014) % 2147483563
def Hand.draw (h : Hand) (many : Int) : Int × Hand := if 0 < h.load.fix then (h.load.fix % many, { h.load with fix := h.load.fix / many })
  else (num3 (num2 (num1 h.load.seed (h.load.cnt + 1))) / 16 % many, { h.load with cnt := h.load.cnt + 1 })
theorem Hand.Ok.load {h : Hand} {n : Int} (o : h.Ok n) : h.load.Ok n := by
  unfold Hand.load
  split
  · rename_i hc
    have hm : h.cells.getD h.pos 0 ∈ h.cells := getD_mem hc.2
    have q := o.cells _ hm
    refine ⟨o.cells, ?_, ?_, o.cnt⟩
    · show 0 ≤ (if 1000000000000000000 ≤ h.cells.getD h.pos 0 then h.cells.getD h.pos 0 else h.fix) ∧ (if 1000000000000000000 ≤ h.cells.getD h.pos 0 then h.cells.getD h.pos 0 else h.fix) < _
      split
      · exact q
      · exact o.fix
    · exact ⟨Int.emod_nonneg _ (by decide), Int.emod_lt_of_pos _ (by decide)⟩
  · exact o
theorem Hand.Ok.draw {h : Hand} {n many : Int} (o : h.Ok n) (hm : 0 < many) : (h.draw many).2.Ok (n + 1) ∧ 0 ≤ (h.draw many).1 ∧ (h.draw many).1 < many := by
  have o2 := o.load
  unfold Hand.draw
  split
  · refine ⟨⟨o2.cells, ?_, o2.seed, ?_⟩, Int.emod_nonneg _ (by omega), Int.emod_lt_of_pos _ hm⟩
    · have := o2.fix
      exact ⟨Int.ediv_nonneg this.1 (by omega), Int.lt_of_le_of_lt (Int.ediv_le_self _ this.1) this.2⟩
    · have := o2.cnt
      exact ⟨this.1, by show h.load.cnt ≤ n + 1; omega⟩
  · refine ⟨⟨o2.cells, o2.fix, o2.seed, ?_⟩, Int.emod_nonneg _ (by omega), Int.emod_lt_of_pos _ hm⟩
    have := o2.cnt
    exact ⟨by show 0 ≤ h.load.cnt + 1; omega, by show h.load.cnt + 1 ≤ n + 1; omega⟩
@[simp] theorem set5_1 {a b c d e v : D} : gSetL (.list [a, b, c, d, e]) (.int 1) v = some (.list [a, v, c, d, e]) := rfl
@[simp] theorem set5_2 {a b c d e v : D} : gSetL (.list [a, b, c, d, e]) (.int 2) v = some (.list [a, b, v, d, e]) := rfl
@[simp] theorem set5_3 {a b c d e v : D} : gSetL (.list [a, b, c, d, e]) (.int 3) v = some (.list [a, b, c, v, e]) := rfl
@[simp] theorem set5_4 {a b c d e v : D} : gSetL (.list [a, b, c, d, e]) (.int 4) v = some (.list [a, b, c, d, v]) := rfl
theorem handD_inj {h g : Hand} (e : handD h = handD g) : h = g := by
  obtain ⟨a, b, c, d, f⟩ := h
  obtain ⟨a', b', c', d', f'⟩ := g
  simp only [handD, PyData.list.injEq, List.cons.injEq, PyData.int.injEq, and_true] at e
  obtain ⟨e1, e2, e3, e4, e5⟩ := e
  have e1 := ints_inj e1
  have e2 : b = b' := by omega
  subst e1 e2 e3 e4 e5
  rfl
theorem Hand.Ok.mono {h : Hand} {n m : Int} (o : h.Ok n) (l : n ≤ m) : h.Ok m := ⟨o.cells, o.fix, o.seed, o.cnt.1, Int.le_trans o.cnt.2 l⟩
theorem Hand.Ok.any {h : Hand} {n : Int} (o : h.Ok n) {xs : List Int} (hx : 0 < xs.length) : ((h.draw (xs.length : Int)).1).toNat < xs.length ∧ ((h.draw (xs.length : Int)).1) = (((h.draw (xs.length : Int)).1).toNat : Int) := by
  have := (o.draw (show (0 : Int) < (xs.length : Int) by omega)).2
  omega

/-- what is drawn: a value and the hand behind it -/
abbrev Dr (α : Type) := Hand → α × Hand
def Dr.Good {α : Type} (d : Dr α) (P : α → Prop) (k : Int) : Prop := ∀ (h : Hand) (n : Int), h.Ok n → P (d h).1 ∧ (d h).2.Ok (n + k)
def dPure {α : Type} (a : α) : Dr α := fun h => (a, h)
def dBind {α β : Type} (d : Dr α) (f : α → Dr β) : Dr β := fun h => f (d h).1 (d h).2
def dMap {α β : Type} (f : α → β) (d : Dr α) : Dr β := fun h => (f (d h).1, (d h).2)
def dDraw (many : Int) : Dr Int := fun h => h.draw many
def dList {α : Type} (d : Dr α) : Nat → Dr (List α)
  | 0 => dPure []
  | k + 1 => dBind d fun x => dMap (x :: ·) (dList d k)
def dEach {α β : Type} (d : α → Dr β) : List α → Dr (List β)
  | [] => dPure []
  | a :: as => dBind (d a) fun x => dMap (x :: ·) (dEach d as)
theorem Dr.Good.imp {α : Type} {d : Dr α} {P Q : α → Prop} {k l : Int} (g : d.Good P k) (h : ∀ a, P a → Q a) (hl : k ≤ l) : d.Good Q l := fun hd n o => by
  obtain ⟨a, b⟩ := g hd n o
  exact ⟨h _ a, b.mono (by omega)⟩
theorem good_pure {α : Type} {a : α} {P : α → Prop} (h : P a) : (dPure a).Good P 0 := fun hd n o => ⟨h, by show hd.Ok (n + 0); rw [Int.add_zero]; exact o⟩
theorem good_draw {many : Int} (h : 0 < many) : (dDraw many).Good (fun v => 0 ≤ v ∧ v < many) 1 := fun hd n o => by
  obtain ⟨a, b, c⟩ := o.draw (many := many) h
  exact ⟨⟨b, c⟩, a⟩
theorem good_bind {α β : Type} {d : Dr α} {f : α → Dr β} {P : α → Prop} {Q : β → Prop} {k l : Int} (g : d.Good P k) (h : ∀ a, P a → (f a).Good Q l) : (dBind d f).Good Q (k + l) := fun hd n o => by
  obtain ⟨a, b⟩ := g hd n o
  obtain ⟨x, y⟩ := h _ a _ _ b
  exact ⟨x, by rw [← Int.add_assoc]; exact y⟩
theorem good_map {α β : Type} {d : Dr α} {f : α → β} {P : α → Prop} {Q : β → Prop} {k : Int} (g : d.Good P k) (h : ∀ a, P a → Q (f a)) : (dMap f d).Good Q k := fun hd n o => by
  obtain ⟨a, b⟩ := g hd n o
  exact ⟨h _ a, b⟩
theorem good_list {α : Type} {d : Dr α} {P : α → Prop} {k : Int} (g : d.Good P k) : ∀ m : Nat, (dList d m).Good (fun xs => xs.length = m ∧ ∀ x ∈ xs, P x) (k * (m : Int))
  | 0 => by
    simp only [Int.natCast_zero, Int.mul_zero]
    exact good_pure ⟨rfl, fun x hx => nomatch hx⟩
  | m + 1 => by
    have := good_bind (f := fun x => dMap (x :: ·) (dList d m)) g fun a ha => good_map (Q := fun xs : List α => xs.length = m + 1 ∧ ∀ x ∈ xs, P x) (good_list g m) fun xs ⟨h1, h2⟩ => ⟨by simp [h1], fun x hx => by
      rcases List.mem_cons.mp hx with rfl | hx
      · exact ha
      · exact h2 x hx⟩
    refine this.imp (fun _ h => h) ?_
    have e : k * ((m + 1 : Nat) : Int) = k + k * (m : Int) := by rw [Int.natCast_add, Int.mul_add]; omega
    omega
theorem good_each {α β : Type} {d : α → Dr β} {P : α → β → Prop} {k : Int} : ∀ (as : List α), (∀ a ∈ as, (d a).Good (P a) k) → (dEach d as).Good (fun xs => xs.length = as.length ∧ ∀ p ∈ as.zip xs, P p.1 p.2) (k * (as.length : Int))
  | [], _ => by
    simp only [List.length_nil, Int.natCast_zero, Int.mul_zero]
    exact good_pure ⟨rfl, fun x hx => nomatch hx⟩
  | a :: as, g => by
    have := good_bind (f := fun x => dMap (x :: ·) (dEach d as)) (g a List.mem_cons_self) fun b hb => good_map (Q := fun xs : List β => xs.length = (a :: as).length ∧ ∀ p ∈ (a :: as).zip xs, P p.1 p.2) (good_each as fun y hy => g y (List.mem_cons_of_mem _ hy)) fun xs ⟨h1, h2⟩ => ⟨by simp [h1], fun p hp => by
      rw [List.zip_cons_cons] at hp
      rcases List.mem_cons.mp hp with rfl | hp
      · exact hb
      · exact h2 p hp⟩
    refine this.imp (fun _ h => h) ?_
    have e : k * (((a :: as).length : Nat) : Int) = k + k * (as.length : Int) := by rw [List.length_cons, Int.natCast_add, Int.mul_add]; omega
    omega
/-- a comprehension that draws in each turn -/
theorem comp_draws {α β : Type} [Enc α] [Enc β] {vs : List Nat} {bd : Bd} {el : FM} {d : α → Dr β} {P : α → β → Prop} {k : Int} {T : En} (as : List α) (g : ∀ a ∈ as, (d a).Good (P a) k) (hk : 0 ≤ k)
    (turn : ∀ a ∈ as, ∀ (h : Hand) (n : Int), h.Ok n → n + k ≤ 1000000 → ((bd (Enc.enc a) (.io (handD h) :: T)).bind fun e1 => (el e1).bind fun y => if y.2.length = T.length + 1 then some (y.1, wipeE y.2 vs) else none) = some (Enc.enc (d a h).1, .io (handD (d a h).2) :: T)) :
    ∀ (h : Hand) (n : Int), h.Ok n → n + k * (as.length : Int) ≤ 1000000 → compM vs bd mTrue el (as.map Enc.enc) (.io (handD h) :: T) = some ((dEach d as h).1.map Enc.enc, .io (handD (dEach d as h).2) :: T) := by
  induction as with
  | nil => intro h n o _; rfl
  | cons a as ih =>
    intro h n o hn
    have e0 : k * (((a :: as).length : Nat) : Int) = k + k * (as.length : Int) := by rw [List.length_cons, Int.natCast_add, Int.mul_add]; omega
    rw [e0] at hn
    have hp : 0 ≤ k * (as.length : Int) := Int.mul_nonneg hk (by omega)
    obtain ⟨_, o2⟩ := g a List.mem_cons_self h n o
    have t := turn a List.mem_cons_self h n o (by omega)
    have r := ih (fun x hx => g x (List.mem_cons_of_mem _ hx)) (fun x hx => turn x (List.mem_cons_of_mem _ hx)) (d a h).2 _ o2 (by omega)
    obtain ⟨e1, q1, q2⟩ := bindSome t
    obtain ⟨y, q3, q4⟩ := bindSome q2
    split at q4
    · rename_i hl
      have q5 := Option.some.inj q4
      have q6 := (Prod.mk.inj q5).1
      have q7 := (Prod.mk.inj q5).2
      rw [List.map_cons, compM_cons, q1]
      simp only [Option.bind_some, ev_mtrue, if_true, q3, List.length_cons, hl, q7, r, Option.map_some]
      simp [q6, dEach, dBind, dMap]
    · cases q4
/-! contracts of defs that draw -/
section
variable {α β γ : Type} [Enc α] [Enc β] [Enc γ]
noncomputable def hf0 (dom : Hand → Prop) (r : Hand → D) (g : Hand → Hand) : List D → Option (D × D) := gOfI (fun h : Hand => [handD h]) dom (fun h => (r h, handD (g h)))
noncomputable def hf1 (dom : Hand → α → Prop) (r : Hand → α → D) (g : Hand → α → Hand) : List D → Option (D × D) := gOfI (fun a : Hand × α => [handD a.1, Enc.enc a.2]) (fun a => dom a.1 a.2) (fun a => (r a.1 a.2, handD (g a.1 a.2)))
noncomputable def hf2 (dom : Hand → α → β → Prop) (r : Hand → α → β → D) (g : Hand → α → β → Hand) : List D → Option (D × D) := gOfI (fun a : Hand × α × β => [handD a.1, Enc.enc a.2.1, Enc.enc a.2.2]) (fun a => dom a.1 a.2.1 a.2.2) (fun a => (r a.1 a.2.1 a.2.2, handD (g a.1 a.2.1 a.2.2)))
noncomputable def hf3 (dom : Hand → α → β → γ → Prop) (r : Hand → α → β → γ → D) (g : Hand → α → β → γ → Hand) : List D → Option (D × D) := gOfI (fun a : Hand × α × β × γ => [handD a.1, Enc.enc a.2.1, Enc.enc a.2.2.1, Enc.enc a.2.2.2]) (fun a => dom a.1 a.2.1 a.2.2.1 a.2.2.2) (fun a => (r a.1 a.2.1 a.2.2.1 a.2.2.2, handD (g a.1 a.2.1 a.2.2.1 a.2.2.2)))
theorem hf0_eq {dom : Hand → Prop} {r : Hand → D} {g : Hand → Hand} {h : Hand} (hd : dom h) : hf0 dom r g [handD h] = some (r h, handD (g h)) := gOfI_eq (f := fun h : Hand => [handD h]) (fun a b e => by
  simp only [List.cons.injEq, and_true] at e
  rw [handD_inj e]) (a := h) hd
theorem hf1_eq {dom : Hand → α → Prop} {r : Hand → α → D} {g : Hand → α → Hand} {h : Hand} {a : α} (hd : dom h a) : hf1 dom r g [handD h, Enc.enc a] = some (r h a, handD (g h a)) := gOfI_eq (f := fun a : Hand × α => [handD a.1, Enc.enc a.2]) (fun a b e => by
  simp only [List.cons.injEq, and_true] at e
  rw [handD_inj e.1, Enc.inj _ _ e.2]) (a := (h, a)) hd
theorem hf2_eq {dom : Hand → α → β → Prop} {r : Hand → α → β → D} {g : Hand → α → β → Hand} {h : Hand} {a : α} {b : β} (hd : dom h a b) : hf2 dom r g [handD h, Enc.enc a, Enc.enc b] = some (r h a b, handD (g h a b)) := gOfI_eq (f := fun a : Hand × α × β => [handD a.1, Enc.enc a.2.1, Enc.enc a.2.2]) (fun a b e => by
  simp only [List.cons.injEq, and_true] at e
  rw [handD_inj e.1, Enc.inj _ _ e.2.1, Enc.inj _ _ e.2.2]) (a := (h, a, b)) hd
theorem hf3_eq {dom : Hand → α → β → γ → Prop} {r : Hand → α → β → γ → D} {g : Hand → α → β → γ → Hand} {h : Hand} {a : α} {b : β} {c : γ} (hd : dom h a b c) : hf3 dom r g [handD h, Enc.enc a, Enc.enc b, Enc.enc c] = some (r h a b c, handD (g h a b c)) := gOfI_eq (f := fun a : Hand × α × β × γ => [handD a.1, Enc.enc a.2.1, Enc.enc a.2.2.1, Enc.enc a.2.2.2]) (fun a b e => by
  simp only [List.cons.injEq, and_true] at e
  rw [handD_inj e.1, Enc.inj _ _ e.2.1, Enc.inj _ _ e.2.2.1, Enc.inj _ _ e.2.2.2]) (a := (h, a, b, c)) hd
theorem hf0_law {dom : Hand → Prop} {r : Hand → D} {g : Hand → Hand} {m : FS} {k n : Nat} (t : ∀ h, dom h → m (seI 0 (r h) (handD (g h))) (envI [] (handD h) [] k)) : ∀ dpre d dpost r' d', dpre.length = 0 → dpre.length + 1 + dpost.length = n → hf0 dom r g (dpre ++ d :: dpost) = some (r', d') → m (seI 0 r' d') (envI dpre d dpost k) := by
  intro dpre d dpost r' d' hl _ q
  obtain ⟨a, hd, e, z⟩ := gOfI_inv q
  have e0 := List.eq_nil_of_length_eq_zero hl
  subst e0
  simp only [List.nil_append, List.cons.injEq] at e
  obtain ⟨rfl, rfl⟩ := e
  cases z
  exact t _ hd
theorem hf1_law {dom : Hand → α → Prop} {r : Hand → α → D} {g : Hand → α → Hand} {m : FS} {k n : Nat} (t : ∀ h a, dom h a → m (seI 0 (r h a) (handD (g h a))) (envI [] (handD h) [Enc.enc a] k)) : ∀ dpre d dpost r' d', dpre.length = 0 → dpre.length + 1 + dpost.length = n → hf1 dom r g (dpre ++ d :: dpost) = some (r', d') → m (seI 0 r' d') (envI dpre d dpost k) := by
  intro dpre d dpost r' d' hl _ q
  obtain ⟨a, hd, e, z⟩ := gOfI_inv q
  have e0 := List.eq_nil_of_length_eq_zero hl
  subst e0
  simp only [List.nil_append, List.cons.injEq] at e
  obtain ⟨rfl, rfl⟩ := e
  cases z
  exact t _ _ hd
theorem hf2_law {dom : Hand → α → β → Prop} {r : Hand → α → β → D} {g : Hand → α → β → Hand} {m : FS} {k n : Nat} (t : ∀ h a b, dom h a b → m (seI 0 (r h a b) (handD (g h a b))) (envI [] (handD h) [Enc.enc a, Enc.enc b] k)) : ∀ dpre d dpost r' d', dpre.length = 0 → dpre.length + 1 + dpost.length = n → hf2 dom r g (dpre ++ d :: dpost) = some (r', d') → m (seI 0 r' d') (envI dpre d dpost k) := by
  intro dpre d dpost r' d' hl _ q
  obtain ⟨a, hd, e, z⟩ := gOfI_inv q
  have e0 := List.eq_nil_of_length_eq_zero hl
  subst e0
  simp only [List.nil_append, List.cons.injEq] at e
  obtain ⟨rfl, rfl⟩ := e
  cases z
  exact t _ _ _ hd
theorem hf3_law {dom : Hand → α → β → γ → Prop} {r : Hand → α → β → γ → D} {g : Hand → α → β → γ → Hand} {m : FS} {k n : Nat} (t : ∀ h a b c, dom h a b c → m (seI 0 (r h a b c) (handD (g h a b c))) (envI [] (handD h) [Enc.enc a, Enc.enc b, Enc.enc c] k)) : ∀ dpre d dpost r' d', dpre.length = 0 → dpre.length + 1 + dpost.length = n → hf3 dom r g (dpre ++ d :: dpost) = some (r', d') → m (seI 0 r' d') (envI dpre d dpost k) := by
  intro dpre d dpost r' d' hl _ q
  obtain ⟨a, hd, e, z⟩ := gOfI_inv q
  have e0 := List.eq_nil_of_length_eq_zero hl
  subst e0
  simp only [List.nil_append, List.cons.injEq] at e
  obtain ⟨rfl, rfl⟩ := e
  cases z
  exact t _ _ _ _ hd
end
/-- so many turns -/
def iter {σ : Type} (f : σ → σ) : Nat → σ → σ
  | 0, s => s
  | k + 1, s => f (iter f k s)
theorem iter_inv {σ : Type} {f : σ → σ} (I : Nat → σ → Prop) {n : Nat} (step : ∀ k s, k < n → I k s → I (k + 1) (f s)) {s : σ} (h : I 0 s) : ∀ k, k ≤ n → I k (iter f k s)
  | 0, _ => h
  | k + 1, hk => step k _ (by omega) (iter_inv I step h k (by omega))
/-- a law: its defs' last, drawn and judged so many times -/
theorem comp_turns {c : List D → Option (D × D)} {g : Hand → Hand} {k : Int} (hk : 0 ≤ k) (turn : ∀ (h : Hand) (n : Int), h.Ok n → n + k ≤ 900000 → c [handD h] = some (.bool true, handD (g h)) ∧ (g h).Ok (n + k)) {q0 : Pd.Slot} {T : En} {j : Nat} (hT : T[j]? = some .no) : ∀ (is : List Int) (h : Hand) (m : Int), h.Ok m → m + k * (is.length : Int) ≤ 900000 →
    ∃ h', compM [j + 2] (bbName (j + 2)) mTrue (mIo 1 1 c (mhHole maNil)) (is.map .int) (q0 :: .ow (handD h) :: T) = some (is.map fun _ => .bool true, q0 :: .ow (handD h') :: T) := by
  intro is
  induction is with
  | nil => intro h n o _; exact ⟨h, rfl⟩
  | cons b is ih =>
    intro h m o hn
    have e0 : k * (((b :: is).length : Nat) : Int) = k + k * (is.length : Int) := by rw [List.length_cons, Int.natCast_add, Int.mul_add]; omega
    rw [e0] at hn
    have hp : 0 ≤ k * (is.length : Int) := Int.mul_nonneg hk (by omega)
    obtain ⟨q, o2⟩ := turn h m o (by omega)
    obtain ⟨h', e⟩ := ih (g h) _ o2 (by omega)
    refine ⟨h', ?_⟩
    rw [List.map_cons, compM_cons]
    simp only [ev_bbname, List.getElem?_cons_succ, hT, ev_io3, if_true, List.set_cons_succ, ts_int, Option.bind_some, ev_mtrue, ev_mio, ev_mineAtS, ev_mineAt0, ev_mine1, ev_mhhole, ev_manil, Option.map_some, List.length_nil, List.nil_append, q, ev_setmS, ev_setm0, List.length_set, List.length_cons, ev_wipeS, ev_wipe0, List.set_set, set_same hT, e]
    simp
noncomputable def c_law_draw := gOfI (fun a : Hand × Int => [handD a.1, .int a.2]) (fun a => a.1.Ok 1000000 ∧ 0 < a.2 ∧ a.2 ≤ 1000000000) (fun a => (.int (a.1.draw a.2).1, handD (a.1.draw a.2).2))
theorem q_law_draw {h : Hand} {many : Int} (o : h.Ok 1000000) (h1 : 0 < many) (h2 : many ≤ 1000000000) : c_law_draw [handD h, .int many] = some (.int (h.draw many).1, handD (h.draw many).2) := gOfI_eq (f := fun a : Hand × Int => [handD a.1, .int a.2]) (fun a b h => by
  simp only [List.cons.injEq, PyData.int.injEq, and_true] at h
  have e1 := handD_inj h.1
  have e2 := h.2
  obtain ⟨a1, a2⟩ := a
  obtain ⟨b1, b2⟩ := b
  simp only at e1 e2
  subst e1 e2
  rfl) (a := (h, many)) ⟨o, h1, h2⟩
abbrev restDraw : FS := sSeq (sIf (mT (tst (e2 cmpGt (e2 gIx (eVar 0) (eC (.int 2))) (eC (.int 0))))) (sSeq (sSet 4 (mP (e2 gMod (eCall gInt (aCons (e2 gIx (eVar 0) (eC (.int 2))) aNil)) (eVar 1))))
  (sSeq (sAsg (bSub 0 (eC (.int 2))) (mP (e2 gFdiv (e2 gIx (eVar 0) (eC (.int 2))) (eVar 1))))
  (sRet (mVar 4)))) sNext)
  (sSeq (sAsg (bSub 0 (eC (.int 4))) (mP (e2 gAdd (e2 gIx (eVar 0) (eC (.int 4))) (eC (.int 1)))))
  (sSeq (sSet 2 (mP (e2 gMod (eCall gInt (aCons (e2 gMul (eCall gInt (aCons (e2 gAdd (e2 gIx (eVar 0) (eC (.int 3))) (e2 gMul (eC (.int 7919)) (e2 gIx (eVar 0) (eC (.int 4))))) aNil)) (eC (.int 40692))) aNil)) (eC (.int 2147483647)))))
  (sSeq (sSet 2 (mP (e2 gMod (eCall gInt (aCons (e2 gMul (eVar 2) (e2 gAdd (e2 gFdiv (eVar 2) (eC (.int 1009))) (eC (.int 69621)))) aNil)) (eC (.int 2147483647)))))
  (sSeq (sSet 2 (mP (e2 gMod (eCall gInt (aCons (e2 gMul (eVar 2) (e2 gAdd (e2 gFdiv (eVar 2) (eC (.int 2003))) (eC (.int 40014)))) aNil)) (eC (.int 2147483563)))))
  (sRet (mP (e2 gMod (eCall gInt (aCons (e2 gFdiv (eVar 2) (eC (.int 16))) aNil)) (eVar 1))))))))
def Hand.rd (h : Hand) (many : Int) : Int × Hand := if 0 < h.fix then (h.fix % many, { h with fix := h.fix / many })
  else (num3 (num2 (num1 h.seed (h.cnt + 1))) / 16 % many, { h with cnt := h.cnt + 1 })
theorem Hand.draw_rd (h : Hand) (many : Int) : h.draw many = h.load.rd many := rfl
theorem rest_draw {g : Hand} {many n : Int} (o : g.Ok n) (hn : n ≤ 1000000) (h1 : 0 < many) (h2 : many ≤ 1000000000) (S : SE) {s3 : Pd.Slot} (hS : ∀ ε : En, ε[0]? = some (.io (handD (g.rd many).2)) → S.rt (.int (g.rd many).1) ε) :
    restDraw S [.io (handD g), .ow (.int many), .no, s3, .no] := by
  obtain ⟨f0, f1⟩ := o.fix
  obtain ⟨e0, e1⟩ := o.seed
  obtain ⟨c0, c1⟩ := o.cnt
  have sm1 : sm many = true := sm_small (by omega) (by omega)
  by_cases hf : 0 < g.fix
  · have e : g.rd many = (g.fix % many, { g with fix := g.fix / many }) := if_pos hf
    rw [e] at hS
    simp [restDraw, handD, hf, op_ii_mod h1, op_ii_div h1 sm1]
    exact hS _ rfl
  · have e : g.rd many = (num3 (num2 (num1 g.seed (g.cnt + 1))) / 16 % many, { g with cnt := g.cnt + 1 }) := if_neg hf
    rw [e] at hS
    have k1 : (0 : Int) < 2147483647 := by decide
    have k2 : (0 : Int) < 2147483563 := by decide
    have b1 : 0 ≤ num1 g.seed (g.cnt + 1) := Int.emod_nonneg _ (by decide)
    have b2 : num1 g.seed (g.cnt + 1) < 2147483647 := Int.emod_lt_of_pos _ k1
    have b3 : 0 ≤ num2 (num1 g.seed (g.cnt + 1)) := Int.emod_nonneg _ (by decide)
    have b4 : num2 (num1 g.seed (g.cnt + 1)) < 2147483647 := Int.emod_lt_of_pos _ k1
    have m1 : gMul (.int 7919) (.int (g.cnt + 1)) = some (.int (7919 * (g.cnt + 1))) := op_ii_mul (sm_small (by decide) (by decide)) (sm_small (by omega) (by omega))
    have m2 : gMul (.int (g.seed + 7919 * (g.cnt + 1))) (.int 40692) = some (.int ((g.seed + 7919 * (g.cnt + 1)) * 40692)) := op_ii_mul (sm_small (by omega) (by omega)) (sm_small (by decide) (by decide))
    have r1 : gMod (.int ((g.seed + 7919 * (g.cnt + 1)) * 40692)) (.int 2147483647) = some (.int (num1 g.seed (g.cnt + 1))) := op_ii_mod k1
    have d1 : ∀ a : Int, gFdiv (.int a) (.int 1009) = some (.int (a / 1009)) := fun a => op_ii_div (by decide) (sm_small (by decide) (by decide))
    have d2 : ∀ a : Int, gFdiv (.int a) (.int 2003) = some (.int (a / 2003)) := fun a => op_ii_div (by decide) (sm_small (by decide) (by decide))
    have d3 : ∀ a : Int, gFdiv (.int a) (.int 16) = some (.int (a / 16)) := fun a => op_ii_div (by decide) (sm_small (by decide) (by decide))
    have m3 : gMul (.int (num1 g.seed (g.cnt + 1))) (.int (num1 g.seed (g.cnt + 1) / 1009 + 69621)) = some (.int (num1 g.seed (g.cnt + 1) * (num1 g.seed (g.cnt + 1) / 1009 + 69621))) := op_ii_mul (sm_small (by omega) (by omega)) (sm_small (by omega) (by omega))
    have r2 : gMod (.int (num1 g.seed (g.cnt + 1) * (num1 g.seed (g.cnt + 1) / 1009 + 69621))) (.int 2147483647) = some (.int (num2 (num1 g.seed (g.cnt + 1)))) := op_ii_mod k1
    have m4 : gMul (.int (num2 (num1 g.seed (g.cnt + 1)))) (.int (num2 (num1 g.seed (g.cnt + 1)) / 2003 + 40014)) = some (.int (num2 (num1 g.seed (g.cnt + 1)) * (num2 (num1 g.seed (g.cnt + 1)) / 2003 + 40014))) := op_ii_mul (sm_small (by omega) (by omega)) (sm_small (by omega) (by omega))
    have r3 : gMod (.int (num2 (num1 g.seed (g.cnt + 1)) * (num2 (num1 g.seed (g.cnt + 1)) / 2003 + 40014))) (.int 2147483563) = some (.int (num3 (num2 (num1 g.seed (g.cnt + 1))))) := op_ii_mod k2
    simp [restDraw, handD, hf, op_ii_mod h1, m1, m2, r1, d1, d2, d3, m3, r2, m4, r3]
    exact hS _ rfl
theorem l_law_draw : ∀ dpre d dpost r d', dpre.length = 0 → dpre.length + 1 + dpost.length = 2 → c_law_draw (dpre ++ d :: dpost) = some (r, d') → m_law_draw (seI 0 r d') (envI dpre d dpost 3) := by
  intro dpre d dpost r d' hl _ h
  obtain ⟨⟨hd, many⟩, ⟨o, h1, h2⟩, e, q⟩ := gOfI_inv h
  have e0 := List.eq_nil_of_length_eq_zero hl
  subst e0
  simp only [List.nil_append, List.cons.injEq] at e
  obtain ⟨rfl, rfl⟩ := e
  cases q
  simp only at o h1 h2
  have rest := fun (S : SE) (s3 : Pd.Slot) hS => rest_draw (g := hd.load) (many := many) o.load (Int.le_refl _) h1 h2 S (s3 := s3) hS
  have p18 : gPow (.int 10) (.int 18) = some (.int 1000000000000000000) := pow_10 18 (by decide)
  have hS : ∀ ε : En, ε[0]? = some (.io (handD (hd.load.rd many).2)) → (seI 0 (PyData.int (hd.draw many).1) (handD (hd.draw many).2)).rt (.int (hd.load.rd many).1) ε := fun ε z => by
    rw [← Hand.draw_rd] at z ⊢
    exact ⟨rfl, z⟩
  have z := fun s3 => rest (seI 0 (PyData.int (hd.draw many).1) (handD (hd.draw many).2)) s3 hS
  obtain ⟨e0, e1⟩ := o.seed
  unfold m_law_draw
  rw [ev_seq]
  change (sIf _ _ sNext) ⟨restDraw (seI 0 (PyData.int (hd.draw many).1) (handD (hd.draw many).2)), _, _, _⟩ _
  generalize restDraw (seI 0 (PyData.int (hd.draw many).1) (handD (hd.draw many).2)) = N at z ⊢
  by_cases hc : hd.fix = 0 ∧ hd.pos < hd.cells.length
  · have hm : hd.cells.getD hd.pos 0 ∈ hd.cells := getD_mem hc.2
    have q := o.cells _ hm
    have ix : gIx (.list (hd.cells.map .int)) (.int (hd.pos : Int)) = some (.int (hd.cells.getD hd.pos 0)) := ix_lm (by rw [List.getD_eq_getElem?_getD, List.getElem?_eq_getElem hc.2]; rfl)
    have el : hd.load = { hd with pos := hd.pos + 1, seed := (hd.seed * 69621 + hd.cells.getD hd.pos 0 * 48271 + 17) % 2147483629, fix := if 1000000000000000000 ≤ hd.cells.getD hd.pos 0 then hd.cells.getD hd.pos 0 else hd.fix } := if_pos hc
    rw [el] at z
    generalize hd.cells.getD hd.pos 0 = c at *
    have m1 : gMul (.int hd.seed) (.int 69621) = some (.int (hd.seed * 69621)) := op_ii_mul (sm_small (by omega) (by omega)) (sm_small (by decide) (by decide))
    have m2 : gMul (.int c) (.int 48271) = some (.int (c * 48271)) := op_ii_mul (sm_small (by omega) (by omega)) (sm_small (by decide) (by decide))
    have r1 : ∀ a : Int, gMod (.int a) (.int 2147483629) = some (.int (a % 2147483629)) := fun a => op_ii_mod (by decide)
    have z' := z (.ow (.int c))
    by_cases h18 : 1000000000000000000 ≤ c
    · rw [if_pos h18] at z'
      simp [handD, hc.1, hc.2, ix, m1, m2, r1, p18, h18]
      simp [handD] at z'
      exact z'
    · rw [if_neg h18] at z'
      simp [handD, hc.1, hc.2, ix, m1, m2, r1, p18, h18]
      simp [handD, hc.1] at z'
      exact z'
  · have el : hd.load = hd := if_neg hc
    rw [el] at z
    have z' := z .no
    by_cases h0 : hd.fix = 0
    · have h3 : ¬ hd.pos < hd.cells.length := fun t => hc ⟨h0, t⟩
      simp [handD, h0, h3]
      simp [handD, h0] at z'
      exact z'
    · simp [handD, h0]
      simp [handD] at z'
      exact z'
/-! the script's hand -/
def cellsOf (ns : List Int) : List Int := ns.map fun c => (if c < 0 then -c else c) % 1000000000000000000000000000000000000
def handOf (ns : List Int) : Hand := ⟨cellsOf ns, 0, 0, 211 + 7 * ((cellsOf ns).length : Int), 0⟩
theorem handOf_ok {ns : List Int} (h : ns.length ≤ 63) : (handOf ns).Ok 0 := by
  refine ⟨fun c hc => ?_, ⟨Int.le_refl 0, show (0 : Int) < _ by decide⟩, ?_, ⟨Int.le_refl 0, Int.le_refl 0⟩⟩
  · obtain ⟨x, _, rfl⟩ := List.mem_map.mp hc
    exact ⟨Int.emod_nonneg _ (by decide), Int.emod_lt_of_pos _ (by decide)⟩
  · show 0 ≤ 211 + 7 * ((cellsOf ns).length : Int) ∧ 211 + 7 * ((cellsOf ns).length : Int) < 2147483629
    unfold cellsOf
    rw [List.length_map]
    omega
def scrD (ns : List Int) : D := .dict [(.bool true, .list (ns.map .int))]
noncomputable def c_law_hand := gOf (fun ns : List Int => [scrD ns]) (fun ns => ns.length ≤ 63) (fun ns => handD (handOf ns))
theorem q_law_hand {ns : List Int} (h : ns.length ≤ 63) : c_law_hand [scrD ns] = some (handD (handOf ns)) := gOf_eq (f := fun ns : List Int => [scrD ns]) (fun a b h => by
  simp only [scrD, List.cons.injEq, PyData.dict.injEq, Prod.mk.injEq, PyData.list.injEq, true_and, and_true] at h
  rw [ints_inj h]) (a := ns) h
theorem l_law_hand : ∀ ds d, ds.length = 1 → c_law_hand ds = some d → m_law_hand (seP d) (envP ds 2) := by
  intro ds d _ h
  obtain ⟨ns, hn, rfl, rfl⟩ := gOf_inv h
  have p36 : gPow (.int 10) (.int 36) = some (.int 1000000000000000000000000000000000000) := pow_10 36 (by decide)
  have sl : gSl (scrD ns) none (some 63) = some (.list (ns.map .int)) := by
    show (if frozenL (ns.map PyData.int) = true then some (PyData.list (cutL (ns.map PyData.int) none (some ((63 : Nat) : Int)))) else none) = _
    rw [if_pos fz_ints]
    congr 2
    unfold cutL
    rw [HT.sIx_nat, HT.sIx_none, List.drop_zero, List.take_of_length_le (by simp; omega)]
  have cl : ns.length ≤ cap := capL (by omega)
  have r1 : ∀ a : Int, gMod (.int a) (.int 1000000000000000000000000000000000000) = some (.int (a % 1000000000000000000000000000000000000)) := fun a => op_ii_mod (by decide)
  have m7 : gMul (.int 7) (.int (ns.length : Int)) = some (.int (7 * (ns.length : Int))) := op_ii_mul (sm_small (by decide) (by decide)) (sm_small (by omega) (by omega))
  have ts : toSl (scrD ns) = .bo (scrD ns) := rfl
  simp [m_law_hand, ts, sl, cl]
  rw [lcMap (h := fun c => .int ((if c < 0 then -c else c) % 1000000000000000000000000000000000000))]
  · have e : (ns.map fun c => PyData.int ((if c < 0 then -c else c) % 1000000000000000000000000000000000000)) = (cellsOf ns).map .int := by simp [cellsOf]
    have le : (cellsOf ns).length = ns.length := by simp [cellsOf]
    rw [e]
    simp [m7, le, handD, handOf]
  · intro c _
    simp [p36, r1]

theorem hand_draw {h : Hand} {n many : Int} (o : h.Ok n) (hn : n ≤ 1000000) (h1 : 0 < many) (h2 : many ≤ 1000000000) : c_law_draw [handD h, .int many] = some (.int (dDraw many h).1, handD (dDraw many h).2) := q_law_draw (o.mono hn) h1 h2
noncomputable def c_law_any : List D → Option (D × D) := gOfI (fun a : Hand × List D => [handD a.1, .list a.2]) (fun a => a.1.Ok 1000000 ∧ 0 < a.2.length ∧ a.2.length ≤ 1000 ∧ frozenL a.2 = true) (fun a => (a.2.getD ((a.1.draw (a.2.length : Int)).1).toNat .none, handD (a.1.draw (a.2.length : Int)).2))
theorem q_law_any {h : Hand} {xs : List D} (o : h.Ok 1000000) (h1 : 0 < xs.length) (h2 : xs.length ≤ 1000) (h3 : frozenL xs = true) : c_law_any [handD h, .list xs] = some (xs.getD ((h.draw (xs.length : Int)).1).toNat .none, handD (h.draw (xs.length : Int)).2) := gOfI_eq (f := fun a : Hand × List D => [handD a.1, .list a.2]) (fun a b h => by
  simp only [List.cons.injEq, PyData.list.injEq, and_true] at h
  have e1 := handD_inj h.1
  have e2 := h.2
  obtain ⟨a1, a2⟩ := a
  obtain ⟨b1, b2⟩ := b
  simp only at e1 e2
  subst e1 e2
  rfl) (a := (h, xs)) ⟨o, h1, h2, h3⟩
theorem l_law_any : ∀ dpre d dpost r d', dpre.length = 0 → dpre.length + 1 + dpost.length = 2 → c_law_any (dpre ++ d :: dpost) = some (r, d') → m_law_any c_law_draw (seI 0 r d') (envI dpre d dpost 0) := by
  intro dpre d dpost r d' hl _ h
  obtain ⟨⟨hd, xs⟩, ⟨o, h1, h2, h3⟩, e, q⟩ := gOfI_inv h
  have e0 := List.eq_nil_of_length_eq_zero hl
  subst e0
  simp only [List.nil_append, List.cons.injEq] at e
  obtain ⟨rfl, rfl⟩ := e
  cases q
  simp only at o h1 h2 h3
  have dr := q_law_draw (many := (xs.length : Int)) o (by omega) (by omega)
  have k := (o.draw (many := (xs.length : Int)) (by omega)).2
  have k1 : ((hd.draw (xs.length : Int)).1).toNat < xs.length := by omega
  have k2 : (hd.draw (xs.length : Int)).1 = (((hd.draw (xs.length : Int)).1).toNat : Int) := by omega
  have gx : xs.getD ((hd.draw (xs.length : Int)).1).toNat .none = xs[((hd.draw (xs.length : Int)).1).toNat] := by rw [List.getD_eq_getElem?_getD, List.getElem?_eq_getElem k1]; rfl
  have ix : gIx (.list xs) (.int (hd.draw (xs.length : Int)).1) = some (xs.getD ((hd.draw (xs.length : Int)).1).toNat .none) := by
    rw [gx]
    conv => lhs; rw [k2]
    exact ix_l (List.getElem?_eq_getElem k1)
  have fz : frozen (xs.getD ((hd.draw (xs.length : Int)).1).toNat .none) = true := by
    rw [gx]
    exact frozenL_mem h3 (List.getElem_mem k1)
  simp only [List.getD_eq_getElem?_getD] at ix fz
  simp [m_law_any, dr, ix, fz]
theorem cut_from {α : Type} (xs : List α) (k : Nat) : cutL xs (some (k : Int)) none = xs.drop k := by
  unfold cutL
  rw [HT.sIx_nat, HT.sIx_none, List.take_of_length_le (by simp)]
  by_cases h : k ≤ xs.length
  · rw [Nat.min_eq_left h]
  · rw [Nat.min_eq_right (by omega), List.drop_of_length_le (Nat.le_refl _), List.drop_of_length_le (by omega)]
theorem cut_to {α : Type} (xs : List α) (k : Nat) : cutL xs none (some (k : Int)) = xs.take k := by
  unfold cutL
  rw [HT.sIx_nat, HT.sIx_none, List.drop_zero, Nat.sub_zero]
  by_cases h : k ≤ xs.length
  · rw [Nat.min_eq_left h]
  · rw [Nat.min_eq_right (by omega), List.take_of_length_le (Nat.le_refl _), List.take_of_length_le (by omega)]
theorem sl_from {xs : List D} (k : Nat) (h : frozenL xs = true) : gSl (.tuple xs) (some (k : Int)) none = some (.tuple (xs.drop k)) := by
  show (if frozenL xs = true then some (PyData.tuple (cutL xs (some (k : Int)) none)) else none) = _
  rw [if_pos h, cut_from]
theorem sl_to {xs : List D} (k : Nat) (h : frozenL xs = true) : gSl (.tuple xs) none (some (k : Int)) = some (.tuple (xs.take k)) := by
  show (if frozenL xs = true then some (PyData.tuple (cutL xs none (some (k : Int)))) else none) = _
  rw [if_pos h, cut_to]
theorem sll_from {xs : List D} (k : Nat) (h : frozenL xs = true) : gSl (.list xs) (some (k : Int)) none = some (.list (xs.drop k)) := by
  show (if frozenL xs = true then some (PyData.list (cutL xs (some (k : Int)) none)) else none) = _
  rw [if_pos h, cut_from]
theorem sll_to {xs : List D} (k : Nat) (h : frozenL xs = true) : gSl (.list xs) none (some (k : Int)) = some (.list (xs.take k)) := by
  show (if frozenL xs = true then some (PyData.list (cutL xs none (some (k : Int)))) else none) = _
  rw [if_pos h, cut_to]
theorem sl_tail {α : Type} {f : α → D} {xs : List α} (h : frozenL (xs.map f) = true) : gSl (.tuple (xs.map f)) (some 1) none = some (.tuple (xs.map f).tail) := by
  have := sl_from 1 h
  rw [List.drop_one] at this
  exact this
theorem gi_tail {α : Type} {f : α → D} {xs : List α} : giZip [.tuple (xs.map f), .tuple (xs.map f).tail] = some ((xs.zip xs.tail).map fun p => .tuple [f p.1, f p.2]) := by
  rw [← List.map_tail]
  exact gi_zip
theorem zip_tl {α : Type} {xs : List α} {p : α × α} (h : p ∈ xs.zip xs.tail) : p.1 ∈ xs ∧ p.2 ∈ xs := ⟨(List.of_mem_zip h).1, List.mem_of_mem_tail (List.of_mem_zip h).2⟩
theorem ix_last {xs : List D} {x : D} (h : xs.getLast? = some x) : gIx (.tuple xs) (.int (-1)) = some x := by
  obtain ⟨ys, rfl⟩ := List.getLast?_eq_some_iff.mp h
  exact atI_last _ _
theorem ixl_last {xs : List D} {x : D} (h : xs.getLast? = some x) : gIx (.list xs) (.int (-1)) = some x := by
  obtain ⟨ys, rfl⟩ := List.getLast?_eq_some_iff.mp h
  exact atI_last _ _
theorem fz_frs {xs : List Rat} : frozenL (xs.map frD) = true := fz_map (fun _ => rfl) xs
theorem frD_int (i : Int) : frD (i : Rat) = .tuple [.int i, .int 1] := rfl
theorem ts_of {d : D} (h : frozen d = true) : toSl d = .ow d := ts_frz h
theorem ts_tuple {xs : List D} (h : frozenL xs = true) : toSl (.tuple xs) = .ow (.tuple xs) := ts_frz (by simpa using h)
theorem g_app {xs : List D} {x : D} (h : xs.length ≤ 10000) : gApp (.list xs) x = some (.list (xs ++ [x])) := if_pos (Nat.le_trans h (by decide))
structure Belt (bs : List Int) : Prop where
  ne : 1 ≤ bs.length
  len : bs.length ≤ 6
  lim : ∀ b ∈ bs, 2 ≤ b ∧ b ≤ 400
abbrev tI (xs : List Int) : D := .tuple (xs.map .int)
def lcmL (bs : List Int) : Int := KN.lcmF 1 bs
theorem Belt.pos {bs : List Int} (h : Belt bs) : ∀ b ∈ bs, 0 < b := fun b hb => by have := h.lim b hb; omega
theorem Belt.lcm_pos {bs : List Int} (h : Belt bs) : 0 < lcmL bs := KN.lcmF_pos (by decide) h.pos
theorem Belt.lcm_le {bs : List Int} (h : Belt bs) : lcmL bs ≤ 4096000000000000 := KN.lcmF_le (bs := bs) (f := 1) (M := 1) 6 (by decide) (by decide) (fun b hb => ⟨h.pos b hb, (h.lim b hb).2⟩) h.len (by decide)
noncomputable def c_is_belt := fn1 Belt (fun _ => true)
theorem q_is_belt {bs : List Int} (h : Belt bs) : c_is_belt [tI bs] = some (.bool true) := fn1_eq (a := bs) h
theorem l_is_belt : ∀ ds d, ds.length = 1 → c_is_belt ds = some d → m_is_belt c_is_some (seP d) (envP ds 0) := fn1_law (fun bs h => by
  have := h.ne
  have := h.len
  simp [m_is_belt, q_is_some_t (xs := bs) (n := 1) (m := 6) (by omega) (by omega) (by omega) h.lim]) 1
noncomputable def c_check_belt := fn1 Belt (fun _ => ())
theorem q_check_belt {bs : List Int} (h : Belt bs) : c_check_belt [tI bs] = some .none := fn1_eq (a := bs) h
theorem l_check_belt : ∀ ds d, ds.length = 1 → c_check_belt ds = some d → m_check_belt c_is_belt (seP d) (envP ds 0) := fn1_law (fun bs h => by
  simp [m_check_belt, q_is_belt h]
  rfl) 1
noncomputable def c_check_moved := fn1 (fun m : Int => 0 ≤ m ∧ m ≤ 100000000000000000000) (fun _ => ())
theorem q_check_moved {m : Int} (h1 : 0 ≤ m) (h2 : m ≤ 100000000000000000000) : c_check_moved [.int m] = some .none := fn1_eq (a := m) ⟨h1, h2⟩
theorem l_check_moved : ∀ ds d, ds.length = 1 → c_check_moved ds = some d → m_check_moved c_is_within (seP d) (envP ds 0) := fn1_law (fun m ⟨h1, h2⟩ => by
  simp [m_check_moved, h1, h2]
  rfl) 1
def after (bs : List Int) (m : Int) : List Int := bs.map fun b => m % b
noncomputable def c_marks_after := fn2 (fun (bs : List Int) (m : Int) => Belt bs ∧ 0 ≤ m ∧ m ≤ 100000000000000000000) after
theorem q_marks_after {bs : List Int} {m : Int} (h : Belt bs) (h1 : 0 ≤ m) (h2 : m ≤ 100000000000000000000) : c_marks_after [tI bs, .int m] = some (tI (after bs m)) := fn2_eq (a := bs) (b := m) ⟨h, h1, h2⟩
theorem l_marks_after : ∀ ds d, ds.length = 2 → c_marks_after ds = some d → m_marks_after c_check_moved c_check_belt (seP d) (envP ds 1) := fn2_law (fun bs m ⟨h, h1, h2⟩ => by
  have hl := h.len
  have lc : compL (bName 2) bTrue (e2 gMod (eVar 1) (eVar 2)) [.ow (tI bs), .ow (.int m), .no] (bs.map PyData.int) = some (bs.map fun b => .int (m % b)) := lcMap fun b hb => by simp [op_ii_mod (h.pos b hb)]
  have e : (bs.map fun b => PyData.int (m % b)) = (after bs m).map .int := by simp [after]
  simp [m_marks_after, q_check_belt h, q_check_moved h1 h2, capL (show bs.length ≤ 1000 by omega), lc, e, gl_tupL]) 2
noncomputable def c_round_of := fn1 Belt lcmL
theorem q_round_of {bs : List Int} (h : Belt bs) : c_round_of [tI bs] = some (.int (lcmL bs)) := fn1_eq (a := bs) h
theorem lcmF_snoc {f b : Int} {bs : List Int} : KN.lcmF f (bs ++ [b]) = (Int.lcm (KN.lcmF f bs) b : Int) := by
  unfold KN.lcmF
  rw [List.foldl_append]
  rfl
theorem lcmF_ib : ∀ {bs : List Int} {f : Int} {k : Nat}, 0 < f → KF.ib k f → (∀ b ∈ bs, 0 < b ∧ b ≤ 400) → KF.ib (k + 9 * bs.length) (KN.lcmF f bs)
  | [], f, k, _, h, _ => h
  | b :: bs, f, k, hf, h, hb => by
    have q := hb b List.mem_cons_self
    have h2 : KF.ib (k + 9) (Int.lcm f b : Int) := (h.mul (KF.ib.of (k := 9) (i := b) (by omega) (by omega))).le (by
      have := KN.lcm_le hf q.1
      have := KN.lcm_pos hf q.1
      omega)
    exact (lcmF_ib (bs := bs) (KN.lcm_pos hf q.1) h2 fun x hx => hb x (List.mem_cons_of_mem _ hx)).mono (by simp; omega)
theorem l_round_of : ∀ ds d, ds.length = 1 → c_round_of ds = some d → m_round_of c_shared c_check_belt (seP d) (envP ds 2) := fn1_law (fun bs h => by
  have hl := h.len
  simp [m_round_of, q_check_belt h]
  refine fm_inv (f := PyData.int) (xs := bs) (fun pre e => ∃ s2, notIo (some s2) = true ∧ e = [.ow (tI bs), .ow (.int (lcmL pre)), s2]) ?_ ?_ ⟨.no, rfl, rfl⟩
  · rintro pre x post e S' hx ⟨s2, h2, rfl⟩ hrt hbk hn _
    have q := h.lim x (by rw [hx]; simp)
    have hp : ∀ b ∈ pre, 0 < b ∧ b ≤ 400 := fun b hb => by have := h.lim b (by rw [hx]; exact List.mem_append_left _ hb); omega
    have pos : 0 < lcmL pre := KN.lcmF_pos (by decide) fun b hb => (hp b hb).1
    have ibf : KF.ib 100 (lcmL pre) := (lcmF_ib (k := 1) (f := 1) (by decide) (show (1 : Nat) < 2 ^ 1 by decide) hp).mono (by rw [hx] at hl; simp at hl; omega)
    have ibx : KF.ib 9 x := KF.ib.of (by omega) (by omega)
    have g0 : 0 < (Int.gcd (lcmL pre) x : Int) := by
      have := Int.gcd_pos_of_ne_zero_left x (show lcmL pre ≠ 0 by omega)
      omega
    have gx : KF.ib 9 (Int.gcd (lcmL pre) x : Int) := ibx.le (by
      have := Int.le_of_dvd (show 0 < x by omega) (Int.gcd_dvd_right (lcmL pre) x)
      omega)
    have e := lcmF_snoc (f := 1) (b := x) (bs := pre)
    simp [h2, op_ii_mul ibf.sm ibx.sm, op_ii_div g0 gx.sm, KN.lcm_two pos (show 0 < x by omega)]
    have e' : lcmL (pre ++ [x]) = (Int.lcm (lcmL pre) x : Int) := e
    exact hn _ ⟨.ow (.int x), rfl, by rw [e']⟩
  · rintro e ⟨s2, _, rfl⟩
    simp) 1
noncomputable def c_check_teeth := fn1 (fun xs : List Int => xs.length ≤ 100 ∧ ∀ x ∈ xs, 2 ≤ x ∧ x ≤ 1000) (fun _ => ())
theorem q_check_teeth {xs : List Int} (h : xs.length ≤ 100) (h2 : ∀ x ∈ xs, 2 ≤ x ∧ x ≤ 1000) : c_check_teeth [tI xs] = some .none := fn1_eq (a := xs) ⟨h, h2⟩
theorem l_check_teeth : ∀ ds d, ds.length = 1 → c_check_teeth ds = some d → m_check_teeth c_is_within (seP d) (envP ds 1) := fn1_law (fun xs ⟨h, h2⟩ => by
  have lc : compL (bName 1) bTrue (eFn 3 c_is_within (aCons (eVar 1) (aCons (eC (.int 2)) (aCons (eC (.int 1000)) aNil)))) [.ow (tI xs), .no] (xs.map PyData.int) = some (xs.map fun _ => .bool true) := lcMap fun x hx => by simp [h2 x hx]
  simp [m_check_teeth, capL (show xs.length ≤ 1000 by omega), lc, gl_all']
  rfl) 1
def turnedV (xs : List Int) (q : Rat) : Rat := q * Rat.divInt ((if xs.length % 2 = 1 then 1 else -1) * xs.headD 0) (xs.getLastD 0)
noncomputable def c_turned_by := fn2 (fun (xs : List Int) (q : Rat) => (xs.length = 2 ∧ ∀ x ∈ xs, 2 ≤ x ∧ x ≤ 1000) ∧ KF.Sz 900 q) turnedV
theorem q_turned_by {xs : List Int} {q : Rat} (h : xs.length = 2) (h2 : ∀ x ∈ xs, 2 ≤ x ∧ x ≤ 1000) (h3 : KF.Sz 900 q) : c_turned_by [tI xs, frD q] = some (frD (turnedV xs q)) := fn2_eq (a := xs) (b := q) ⟨⟨h, h2⟩, h3⟩
theorem l_turned_by : ∀ ds d, ds.length = 2 → c_turned_by ds = some d → m_turned_by c_times c_low c_is_fraction (gStar 0 c_check_teeth) (seP d) (envP ds 1) := fn2_law (fun xs q ⟨⟨h, h2⟩, h3⟩ => by
  match xs, h with
  | [a, b], _ =>
    have ha := h2 a (by simp)
    have hb := h2 b (by simp)
    have q1 : gStar 0 c_check_teeth [.int a, .int b] = some .none := q_check_teeth (xs := [a, b]) (by simp) h2
    have iba : KF.ib 12 (-a) := KF.ib.of (by omega) (by omega)
    have ibb : KF.ib 12 b := KF.ib.of (by omega) (by omega)
    have q2 := q_low (t := -a) (b := b) (by omega) (ibb.mono (by decide))
    have q3 := q_times (h3.mono (l := 1990) (by decide)) ((KF.sz_divInt (by omega) iba ibb).mono (by decide))
    have mu : gMul (.int (-1)) (.int a) = some (.int (-a)) := by
      have := op_ii_mul (i := -1) (j := a) (KF.ib.sm (k := 2) (show (-1 : Int).natAbs < 2 ^ 2 by decide)) (KF.ib.sm (k := 12) (KF.ib.of (by omega) (by omega)))
      rw [this, Int.neg_one_mul]
    have md : gMod (.int 2) (.int 2) = some (.int 0) := op_ii_mod (by decide)
    have il : gIx (.tuple [.int a, .int b]) (.int (-1)) = some (.int b) := ix_last rfl
    simp [m_turned_by, ts_tuple, eFnS, itemsD, q1, md, mu, il, q2, q3, turnedV]) 2
noncomputable def c_check_reading := fn1 (fun xs : List Int => xs.length ≤ 100 ∧ ∀ x ∈ xs, 0 ≤ x ∧ x ≤ 999999999) (fun _ => ())
theorem q_check_reading {xs : List Int} (h : xs.length ≤ 100) (h2 : ∀ x ∈ xs, 0 ≤ x ∧ x ≤ 999999999) : c_check_reading [.tuple (xs.map .int)] = some .none := fn1_eq (a := xs) ⟨h, h2⟩
theorem l_check_reading : ∀ ds d, ds.length = 1 → c_check_reading ds = some d → m_check_reading c_is_within (seP d) (envP ds 1) := fn1_law (fun xs ⟨h, h2⟩ => by
  have lc : compL (bName 1) bTrue (eFn 3 c_is_within (aCons (eVar 1) (aCons (eC (.int 0)) (aCons (eC (.int 999999999)) aNil)))) [.ow (.tuple (xs.map .int)), .no] (xs.map PyData.int) = some (xs.map fun _ => .bool true) := lcMap fun x hx => by simp [h2 x hx]
  simp [m_check_reading, capL (show xs.length ≤ 1000 by omega), lc, gl_all']
  rfl) 1
def turnAt (a b : Int) (w : Nat) : Int := b / 10 ^ w - a / 10 ^ w
structure Reads2 (a b : Int) : Prop where
  lo : 0 ≤ a
  le : a ≤ b
  hi : b ≤ 999999999
theorem Reads2.q {a b : Int} (r : Reads2 a b) : gStar 0 c_check_reading [.int a, .int b] = some .none := q_check_reading (xs := [a, b]) (by simp) (fun x hx => by
  have := r.lo
  have := r.le
  have := r.hi
  simp at hx
  omega)
noncomputable def c_turned_between := fn2 Reads2 (fun a b => ((List.range 9).map (turnAt a b)).sum)
theorem q_turned_between {a b : Int} (r : Reads2 a b) : c_turned_between [.int a, .int b] = some (.int ((List.range 9).map (turnAt a b)).sum) := fn2_eq (a := a) (b := b) r
theorem pow_sm {k : Nat} (h : k ≤ 9) : 0 < (10 : Int) ^ k ∧ sm ((10 : Int) ^ k) = true := by
  have : k = 0 ∨ k = 1 ∨ k = 2 ∨ k = 3 ∨ k = 4 ∨ k = 5 ∨ k = 6 ∨ k = 7 ∨ k = 8 ∨ k = 9 := by omega
  rcases this with rfl | rfl | rfl | rfl | rfl | rfl | rfl | rfl | rfl | rfl <;> exact ⟨by decide, sm_small (by decide) (by decide)⟩
theorem rg9 : giRg1 [.int 9] = some ((List.range 9).map fun i : Nat => PyData.int (i : Int)) := rg1_nat (n := 9) (by decide)
theorem range_pre {n x : Nat} {pre post : List Nat} (h : List.range n = pre ++ x :: post) : pre = List.range x ∧ x < n := by
  have e : (List.range n)[pre.length]? = some x := by rw [h]; simp
  have hl : pre.length < n := by
    have := congrArg List.length h
    simp at this
    omega
  rw [List.getElem?_range hl] at e
  have e := Option.some.inj e
  refine ⟨?_, by omega⟩
  have t := congrArg (List.take pre.length) h
  rw [List.take_range, List.take_left] at t
  rw [← t, ← e, Nat.min_eq_left (by omega)]
theorem l_turned_between : ∀ ds d, ds.length = 2 → c_turned_between ds = some d → m_turned_between (gStar 0 c_check_reading) (seP d) (envP ds 3) := fn2_law (fun a b r => by
  have hq := r.q
  have hn := r.le
  simp [m_turned_between, hq, show ¬ b < a by omega, rg9]
  refine fm_inv (f := fun i : Nat => PyData.int (i : Int)) (xs := List.range 9) (fun pre e => ∃ s4, notIo (some s4) = true ∧ e = [.ow (.int a), .ow (.int b), .ow (.int (pre.map (turnAt a b)).sum), .ow (.int (10 ^ pre.length)), s4]) ?_ ?_ ⟨.no, rfl, rfl⟩
  · rintro pre x post e S' hx ⟨s4, h4, rfl⟩ hrt hbk hn _
    obtain ⟨rfl, hlt⟩ := range_pre hx
    have p := pow_sm (k := x) (by omega)
    have t10 : sm (10 : Int) = true := sm_small (by decide) (by decide)
    have e1 : (10 : Int) * 10 ^ x = 10 ^ (x + 1) := by rw [Int.pow_succ, Int.mul_comm]
    simp [h4, op_ii_div p.1 p.2, op_ii_mul t10 p.2, e1]
    refine hn _ ⟨.ow (.int (x : Int)), rfl, ?_⟩
    simp [turnAt]
  · rintro e ⟨s4, _, rfl⟩
    simp) 2
noncomputable def c_wheel_turns := fn2 Reads2 (fun a b => (List.range 9).map (turnAt a b))
theorem q_wheel_turns {a b : Int} (r : Reads2 a b) : c_wheel_turns [.int a, .int b] = some (.tuple (((List.range 9).map (turnAt a b)).map .int)) := fn2_eq (a := a) (b := b) r
theorem l_wheel_turns : ∀ ds d, ds.length = 2 → c_wheel_turns ds = some d → m_wheel_turns c_turned_between (seP d) (envP ds 3) := fn2_law (fun a b r => by
  have hq := q_turned_between r
  simp [m_wheel_turns, hq, rg9]
  refine fm_inv (f := fun i : Nat => PyData.int (i : Int)) (xs := List.range 9) (fun pre e => ∃ s4, notIo (some s4) = true ∧ e = [.ow (.int a), .ow (.int b), .ow (.list ((pre.map (turnAt a b)).map .int)), .ow (.int (10 ^ pre.length)), s4]) ?_ ?_ ⟨.no, rfl, rfl⟩
  · rintro pre x post e S' hx ⟨s4, h4, rfl⟩ hrt hbk hn _
    obtain ⟨rfl, hlt⟩ := range_pre hx
    have p := pow_sm (k := x) (by omega)
    have t10 : sm (10 : Int) = true := sm_small (by decide) (by decide)
    have e1 : (10 : Int) * 10 ^ x = 10 ^ (x + 1) := by rw [Int.pow_succ, Int.mul_comm]
    have ga := fun y : D => g_app (xs := ((List.range x).map (turnAt a b)).map .int) (x := y) (by simp; omega)
    simp at ga
    simp [h4, op_ii_div p.1 p.2, op_ii_mul t10 p.2, e1, isLst, ga]
    refine hn _ ⟨.ow (.int (x : Int)), rfl, ?_⟩
    simp [turnAt]
  · rintro e ⟨s4, _, rfl⟩
    have tp := gl_tupL (fz_ints (xs := (List.range 9).map (turnAt a b)))
    simp at tp
    simp [tp]) 2
def shownL (r w : Nat) : List Nat := (List.replicate w 48 ++ TL.numL r).drop (TL.numL r).length
def shownS (r w : Nat) : Str := ⟨(shownL r w).toArray⟩
noncomputable def c_shown := fn2 (fun r w : Nat => r ≤ 999999999 ∧ 1 ≤ w ∧ w ≤ 9) shownS
theorem q_shown {r w : Nat} (h : r ≤ 999999999) (h1 : 1 ≤ w) (h2 : w ≤ 9) : c_shown [.int (r : Int), .int (w : Int)] = some (.str (shownS r w)) := fn2_eq (a := r) (b := w) ⟨h, h1, h2⟩
theorem rep48 : ∀ w : Nat, (List.replicate w [48]).flatten.toArray.toList = List.replicate w 48
  | 0 => rfl
  | w + 1 => by
    have := rep48 w
    simp [List.replicate_succ] at this ⊢
theorem numL_9 {r : Nat} (h : r ≤ 999999999) : (TL.numL r).length ≤ 9 := TL.numL_len (by decide) (by omega)
theorem l_shown : ∀ ds d, ds.length = 2 → c_shown ds = some d → m_shown c_is_within (gStar 0 c_check_reading) (seP d) (envP ds 1) := fn2_law (fun r w ⟨h, h1, h2⟩ => by
  have hq : gStar 0 c_check_reading [.int (r : Int)] = some .none := q_check_reading (xs := [(r : Int)]) (by simp) (fun x hx => by simp at hx; omega)
  have st : gStr [.int (r : Int)] = some (.str (toString (r : Int))) := if_pos (decide_eq_true (by
    have : ((r : Int)).natAbs < 2 ^ 30 := by omega
    exact Nat.lt_of_lt_of_le this (Nat.pow_le_pow_right (by decide) (by decide))))
  have tl : (Str.ofString (toString (r : Int))).cps.toList = TL.numL r := TL.tl_num r
  have ln : (Str.ofString (toString (r : Int))).length = (TL.numL r).length := by rw [← tl]; exact Array.length_toList.symm
  have l9 := numL_9 h
  have mu : gMul (.str "0") (.int (w : Int)) = some (.str (repS "0" w)) := if_pos ⟨by omega, by omega, by decide⟩
  have lr : (repS "0" w).length = w := by rw [repS_len]; show w * 1 = w; omega
  have ad : gAdd (.str (repS "0" w)) (.str (Str.ofString (toString (r : Int)))) = some (.str (repS "0" w ++ Str.ofString (toString (r : Int)))) := if_pos (by rw [lr, ln]; exact Nat.le_trans (show w + (TL.numL r).length ≤ 1000 by omega) (by decide))
  have cp : (repS "0" w ++ Str.ofString (toString (r : Int))).cps.toList = List.replicate w 48 ++ TL.numL r := by
    show ((repS "0" w).cps ++ (Str.ofString (toString (r : Int))).cps).toList = _
    rw [Array.toList_append, tl]
    congr 1
    unfold repS
    simp only
    have : ("0" : Str).cps.toList = [48] := rfl
    rw [this]
    exact rep48 w
  have len : (repS "0" w ++ Str.ofString (toString (r : Int))).length = w + (TL.numL r).length := by
    have : (repS "0" w ++ Str.ofString (toString (r : Int))).length = (repS "0" w ++ Str.ofString (toString (r : Int))).cps.toList.length := Array.length_toList.symm
    rw [this, cp]
    simp
  have cut : cutS (repS "0" w ++ Str.ofString (toString (r : Int))) (some (-(w : Int))) none = shownS r w := by
    unfold cutS shownS shownL
    rw [cp, len]
    have e1 : HT.sIx (w + (TL.numL r).length) 0 (some (-(w : Int))) = (TL.numL r).length := by
      show (if (-(w : Int)) < 0 then (-(w : Int) + ((w + (TL.numL r).length : Nat) : Int)).toNat else _) = _
      rw [if_pos (by omega)]
      omega
    rw [e1, HT.sIx_none, List.take_of_length_le (by simp)]
  have sl : gSl (.str (repS "0" w ++ Str.ofString (toString (r : Int)))) (some (-(w : Int))) none = some (.str (shownS r w)) := by
    show (if _ then some (PyData.str (cutS (repS "0" w ++ Str.ofString (toString (r : Int))) (some (-(w : Int))) none)) else none) = _
    rw [cut, if_pos (by rw [len]; exact Nat.le_trans (show w + (TL.numL r).length ≤ 1000 by omega) (by decide))]
  have w1 : (1 : Int) ≤ (w : Int) := by omega
  have w9 : (w : Int) ≤ 9 := by omega
  generalize Str.ofString (toString (r : Int)) = T at *
  simp [m_shown, natD, hq, w1, w9, st, mu, ad, sl]) 2
theorem shownL_pad {r w : Nat} (h : (TL.numL r).length ≤ w) : shownL r w = List.replicate (w - (TL.numL r).length) 48 ++ TL.numL r := by
  unfold shownL
  rw [List.drop_append_of_le_length (by simpa using h), List.drop_replicate]
theorem shown_int {r w : Nat} (h : (TL.numL r).length ≤ w) (hw : w ≤ 600) : gInt [.str (shownS r w)] = some (.int (r : Int)) := by
  have e := shownL_pad h
  have ds : NumText.AllDigits (shownL r w) := by
    rw [e]
    intro c hc
    rcases List.mem_append.mp hc with hc | hc
    · rw [(List.mem_replicate.mp hc).2]
      omega
    · exact TL.numL_digits r c hc
  have ne : shownL r w ≠ [] := by
    rw [e]
    have := TL.numL_ne r
    simp [this]
  have ll : (shownS r w).length = w := by
    show (shownL r w).toArray.size = w
    rw [List.size_toArray, e]
    simp
    omega
  have tl : (shownS r w).cps.toList = shownL r w := rfl
  have v := intText_digits (x := shownS r w) (by rw [tl]; exact ds) (by rw [tl]; exact ne) (by omega)
  have val : NumText.digitsVal (shownL r w) = r := by
    rw [e]
    have := TL.numL_val r
    unfold NumText.digitsVal at this ⊢
    rw [List.foldl_append]
    have z : ∀ k : Nat, (List.replicate k 48).foldl (fun acc c => acc * 10 + (c - 48)) 0 = 0 := by
      intro k
      induction k with
      | zero => rfl
      | succ k ih => rw [List.replicate_succ, List.foldl_cons]; exact ih
    rw [z]
    exact this
  rw [tl, val] at v
  show (if _ then (intText? (shownS r w)).map PyData.int else none) = _
  rw [if_pos (by omega), v]
  rfl
structure Part (q : Rat) : Prop where
  lo : 1 ≤ q.num
  hi : q.num ≤ 10000
  den : (q.den : Int) ≤ 10000
theorem Part.sz {q : Rat} (p : Part q) : KF.Sz 14 q := ⟨KF.ib.of (by have := p.lo; omega) (by have := p.hi; omega), KF.ib.of (by have := KF.den_pos' q; omega) (by have := p.den; omega)⟩
structure Box (rs : List Rat) : Prop where
  ne : 1 ≤ rs.length
  len : rs.length ≤ 8
  part : ∀ q ∈ rs, Part q
  desc : ∀ p ∈ rs.zip rs.tail, p.2 < p.1
structure Eng (es : List (Int × Int)) : Prop where
  ne : 1 ≤ es.length
  len : es.length ≤ 8
  lim : ∀ p ∈ es, (1 ≤ p.1 ∧ p.1 ≤ 10000) ∧ 0 ≤ p.2 ∧ p.2 ≤ 1000
  asc : ∀ p ∈ es.zip es.tail, p.1.1 < p.2.1
theorem fz_prs {es : List (Int × Int)} : frozenL (es.map prD) = true := fz_map (fun _ => rfl) es
noncomputable def c_is_part := fn1 Part (fun _ => true)
theorem q_is_part {q : Rat} (h : Part q) : c_is_part [frD q] = some (.bool true) := fn1_eq (a := q) h
theorem l_is_part : ∀ ds d, ds.length = 1 → c_is_part ds = some d → m_is_part c_is_fraction (seP d) (envP ds 0) := fn1_law (fun q p => by
  have h1 := p.lo
  have h2 := p.hi
  have h3 := p.den
  simp [m_is_part, ts_tuple, h1, h2, h3]) 1
noncomputable def c_is_gearbox := fn1 Box (fun _ => true)
theorem q_is_gearbox {rs : List Rat} (h : Box rs) : c_is_gearbox [.tuple (rs.map frD)] = some (.bool true) := fn1_eq (a := rs) h
theorem Box.sz {rs : List Rat} (b : Box rs) : ∀ q ∈ rs, KF.Sz 14 q := fun q hq => (b.part q hq).sz
theorem l_is_gearbox : ∀ ds d, ds.length = 1 → c_is_gearbox ds = some d → m_is_gearbox c_is_less c_is_part (seP d) (envP ds 2) := fn1_law (fun rs b => by
  have h0 := b.len
  have h1 : (1 : Int) ≤ (rs.length : Int) := by have := b.ne; omega
  have h2 : (rs.length : Int) ≤ 8 := by omega
  have c1 : rs.length ≤ cap := capL (by omega)
  have c2 : rs.length ≤ cap + 1 := Nat.le_succ_of_le c1
  have sl := sl_tail (xs := rs) fz_frs
  have lc1 : ∀ e : En, 1 < e.length → compL (bName 1) bTrue (eFn 1 c_is_part (aCons (eVar 1) aNil)) e (rs.map frD) = some (rs.map fun _ => .bool true) := fun e he => lcMap fun q hq => by simp [get_set_self he, q_is_part (b.part q hq)]
  have lc2 : ∀ e : En, 2 < e.length → compL (bTup (bCons (bName 1) (bCons (bName 2) bNil))) bTrue (eFn 2 c_is_less (aCons (eVar 2) (aCons (eVar 1) aNil))) e ((rs.zip rs.tail).map fun p => .tuple [frD p.1, frD p.2]) = some ((rs.zip rs.tail).map fun _ => .bool true) := fun e he => lcMap fun p hp => by
    have m := zip_tl hp
    have q := q_is_less ((b.sz _ m.2).mono (l := 4000) (by decide)) ((b.sz _ m.1).mono (by decide))
    rw [decide_eq_true (b.desc p hp)] at q
    simp [get_set_self, get_set_ne, he, show 1 < e.length by omega, q]
  simp [m_is_gearbox, ts_tuple, h1, h2, c1, fz_frs]
  rw [lc1 _ (by simp)]
  simp [gl_all', sl, gi_tail, c2]
  rw [lc2 _ (by simp)]
  simp [gl_all']) 1
noncomputable def c_is_engine := fn1 Eng (fun _ => true)
theorem q_is_engine {es : List (Int × Int)} (h : Eng es) : c_is_engine [.tuple (es.map prD)] = some (.bool true) := fn1_eq (a := es) h
theorem l_is_engine : ∀ ds d, ds.length = 1 → c_is_engine ds = some d → m_is_engine c_is_within (seP d) (envP ds 3) := fn1_law (fun es b => by
  have h0 := b.len
  have h1 : (1 : Int) ≤ (es.length : Int) := by have := b.ne; omega
  have h2 : (es.length : Int) ≤ 8 := by omega
  have c1 : es.length ≤ cap := capL (by omega)
  have c2 : es.length ≤ cap + 1 := Nat.le_succ_of_le c1
  have sl := sl_tail (xs := es) fz_prs
  have lc2 : ∀ e : En, 3 < e.length → compL (bTup (bCons (bName 2) (bCons (bName 3) bNil))) bTrue (e2 cmpLt (e2 gIx (eVar 2) (eC (.int 0))) (e2 gIx (eVar 3) (eC (.int 0)))) e ((es.zip es.tail).map fun p => .tuple [prD p.1, prD p.2]) = some ((es.zip es.tail).map fun _ => .bool true) := fun e he => lcMap fun p hp => by
    simp [get_set_self, get_set_ne, he, show 2 < e.length by omega, b.asc p hp]
  have fz := fz_prs (es := es)
  have en : (Enc.enc : Int × Int → D) = prD := rfl
  simp [m_is_engine, en, ts_tuple, h1, h2, c1, fz]
  refine fm_inv (f := prD) (xs := es) (fun pre e => ∃ s1, notIo (some s1) = true ∧ e = [.ow (.tuple (es.map prD)), s1, .no, .no]) ?_ ?_ ⟨.no, rfl, rfl⟩
  · rintro pre x post e S' hx ⟨s1, h1', rfl⟩ hrt hbk hn _
    have q := b.lim x (by rw [hx]; simp)
    simp [h1', ts_tuple, q.1.1, q.1.2, q.2.1, q.2.2]
    exact hn _ ⟨.ow (prD x), rfl, rfl⟩
  · rintro e ⟨s1, _, rfl⟩
    simp [sl, gi_tail, c2]
    rw [lc2 _ (by simp)]
    simp [gl_all']) 1
def pullOf (es : List (Int × Int)) (revs : Rat) : Option Int := (es.find? fun p => !decide ((p.1 : Rat) < revs)).map (·.2)
noncomputable def c_pull_of := fn2 (fun (es : List (Int × Int)) (revs : Rat) => Eng es ∧ KF.Sz 1000 revs) pullOf
theorem q_pull_of {es : List (Int × Int)} {revs : Rat} (h : Eng es) (h2 : KF.Sz 1000 revs) : c_pull_of [.tuple (es.map prD), frD revs] = some (encO (pullOf es revs)) := fn2_eq (a := es) (b := revs) ⟨h, h2⟩
theorem Eng.szI {es : List (Int × Int)} (b : Eng es) {p : Int × Int} (hp : p ∈ es) : KF.Sz 14 (p.1 : Rat) := KF.Sz.int (KF.ib.of (by have := b.lim p hp; omega) (by have := b.lim p hp; omega)) (by decide)
theorem find_pre {α : Type} {p : α → Bool} {pre : List α} (h : ∀ y ∈ pre, p y = false) (x : α) (post : List α) : (pre ++ x :: post).find? p = if p x then some x else post.find? p := by
  rw [List.find?_append, List.find?_eq_none.mpr (fun y hy => by simp [h y hy]), Option.none_or, List.find?_cons]
  cases p x <;> rfl
theorem l_pull_of : ∀ ds d, ds.length = 2 → c_pull_of ds = some d → m_pull_of c_is_less (seP d) (envP ds 2) := fn2_law (fun es revs ⟨b, h2⟩ => by
  have fz := fz_prs (es := es)
  have en : (Enc.enc : Int × Int → D) = prD := rfl
  simp [m_pull_of, en, ts_tuple, fz]
  refine fm_inv (f := prD) (xs := es) (fun pre e => ∃ s2 s3, notIo (some s2) = true ∧ notIo (some s3) = true ∧ (∀ y ∈ pre, (!decide ((y.1 : Rat) < revs)) = false) ∧ e = [.ow (.tuple (es.map prD)), .ow (frD revs), s2, s3]) ?_ ?_ ⟨.no, .no, rfl, rfl, by simp, rfl⟩
  · rintro pre x post e S' hx ⟨s2, s3, hs2, hs3, hp, rfl⟩ hrt hbk hn _
    have q := q_is_less ((b.szI (p := x) (by rw [hx]; simp)).mono (l := 4000) (by decide)) (h2.mono (by decide))
    rw [frD_int] at q
    by_cases hc : (x.1 : Rat) < revs
    · rw [decide_eq_true hc] at q
      simp [hs2, hs3, q]
      refine hn _ ⟨.ow (.int x.1), .ow (.int x.2), rfl, rfl, fun y hy => ?_, rfl⟩
      rcases List.mem_append.mp hy with hy | hy
      · exact hp y hy
      · rcases List.mem_singleton.mp hy with rfl
        simp [hc]
    · rw [decide_eq_false hc] at q
      have e : pullOf es revs = some x.2 := by
        unfold pullOf
        rw [hx, find_pre hp]
        simp [hc]
      simp [hs2, hs3, q, hrt, e, encO]
  · rintro e ⟨s2, s3, _, _, hp, rfl⟩
    have e : pullOf es revs = none := by
      unfold pullOf
      rw [List.find?_eq_none.mpr (fun y hy => by rw [hp y hy]; simp)]
      rfl
    simp [e]) 2
theorem fz_tris {es : List (Tri Int Int Int)} : frozenL (es.map triD) = true := fz_map (fun _ => rfl) es
theorem fz_optR {xs : List (Option Rat)} : frozenL (xs.map encO) = true := fz_map (fun x => by cases x <;> rfl) xs
@[simp] theorem fz_optR1 {x : Option Rat} : frozen (encO x) = true := by cases x <;> rfl
structure Drv where
  a : Int
  b : Int
  box : List Rat
  eng : List (Int × Int)
  mm : Int
abbrev drvD (d : Drv) : D := .tuple [.int d.a, .int d.b, .tuple (d.box.map frD), .tuple (d.eng.map prD), .int d.mm]
instance : Enc Drv := ⟨drvD, fun x y h => by
  simp only [PyData.tuple.injEq, List.cons.injEq, PyData.int.injEq, and_true] at h
  obtain ⟨h1, h2, h3, h4, h5⟩ := h
  cases x; cases y
  simp only at h1 h2 h3 h4 h5
  rw [h1, h2, h5, map_inj_of (Enc.inj (α := Rat)) h3, map_inj_of (Enc.inj (α := Int × Int)) h4]⟩
@[simp] theorem enc_drv : (Enc.enc : Drv → D) = drvD := rfl
theorem fz_drv {d : Drv} : frozenL [.int d.a, .int d.b, .tuple (d.box.map frD), .tuple (d.eng.map prD), .int d.mm] = true := by simp [fz_frs, fz_prs]
@[simp] theorem ts_drv {d : Drv} : toSl (drvD d) = .ow (drvD d) := ts_tuple fz_drv
structure DrvOk (d : Drv) : Prop where
  a : 2 ≤ d.a ∧ d.a ≤ 200
  b : 2 ≤ d.b ∧ d.b ≤ 200
  box : Box d.box
  eng : Eng d.eng
  mm : 500 ≤ d.mm ∧ d.mm ≤ 3000
structure PartOk (p : Tri Int Int Int) : Prop where
  a : 1 ≤ p.a ∧ p.a ≤ 100000
  b : 1 ≤ p.b ∧ p.b ≤ 100
  c : 0 ≤ p.c ∧ p.c ≤ 10000
structure TripOk (t : List (Tri Int Int Int)) : Prop where
  ne : 1 ≤ t.length
  len : t.length ≤ 8
  part : ∀ p ∈ t, PartOk p
noncomputable def c_is_drive := fn1 DrvOk (fun _ => true)
theorem q_is_drive {d : Drv} (h : DrvOk d) : c_is_drive [drvD d] = some (.bool true) := fn1_eq (a := d) h
theorem l_is_drive : ∀ ds d, ds.length = 1 → c_is_drive ds = some d → m_is_drive c_is_within c_is_engine c_is_gearbox c_is_row (seP d) (envP ds 0) := fn1_law (fun d o => by
  have sl := sl_to 2 (fz_drv (d := d))
  have r := q_is_row_t (xs := [d.a, d.b]) (n := 2) (lo := 2) (hi := 200) (by simp) (by simp) (by simp [o.a, o.b])
  simp at sl r
  have i3 : gIx (drvD d) (.int 3) = some (.tuple (d.eng.map prD)) := ix_t (k := 3) rfl
  have i4 : gIx (drvD d) (.int 4) = some (.int d.mm) := ix_t (k := 4) rfl
  simp [m_is_drive, ts_tuple, fz_drv, sl, r, q_is_gearbox o.box, i3, i4, q_is_engine o.eng, o.mm]) 1
noncomputable def c_is_trip := fn1 TripOk (fun _ => true)
theorem q_is_trip {t : List (Tri Int Int Int)} (h : TripOk t) : c_is_trip [.tuple (t.map triD)] = some (.bool true) := fn1_eq (a := t) h
theorem l_is_trip : ∀ ds d, ds.length = 1 → c_is_trip ds = some d → m_is_trip c_is_row (seP d) (envP ds 1) := fn1_law (fun t o => by
  have h0 := o.len
  have h1 : (1 : Int) ≤ (t.length : Int) := by have := o.ne; omega
  have h2 : (t.length : Int) ≤ 8 := by omega
  simp [m_is_trip, ts_tuple, fz_tris, h1, h2]
  refine fm_inv (f := triD) (xs := t) (fun pre e => ∃ s1, notIo (some s1) = true ∧ e = [.ow (.tuple (t.map triD)), s1]) ?_ ?_ ⟨.no, rfl, rfl⟩
  · rintro pre x post e S' hx ⟨s1, h1', rfl⟩ hrt hbk hn _
    have q := o.part x (by rw [hx]; simp)
    have r := q_is_row_t (xs := [x.a, x.b, x.c]) (n := 3) (lo := 0) (hi := 100000) (by simp) (by simp) (by have := q.a; have := q.b; have := q.c; simp; omega)
    simp at r
    simp [h1', ts_tuple, r, show ¬ x.a < 1 by have := q.a; omega, q.b, show ¬ 10000 < x.c by have := q.c; omega]
    exact hn _ ⟨.ow (triD x), rfl, rfl⟩
  · rintro e ⟨s1, _, rfl⟩
    simp) 1
noncomputable def c_check_drive := fn2 (fun (d : Drv) (t : List (Tri Int Int Int)) => DrvOk d ∧ TripOk t) (fun _ _ => ())
theorem q_check_drive {d : Drv} {t : List (Tri Int Int Int)} (h : DrvOk d) (h2 : TripOk t) : c_check_drive [drvD d, .tuple (t.map triD)] = some .none := fn2_eq (a := d) (b := t) ⟨h, h2⟩
theorem l_check_drive : ∀ ds d, ds.length = 2 → c_check_drive ds = some d → m_check_drive c_is_trip c_is_drive (seP d) (envP ds 0) := fn2_law (fun d t ⟨h, h2⟩ => by
  simp [m_check_drive, ts_tuple, fz_drv, fz_tris, q_is_drive h, q_is_trip h2]
  rfl) 2
def pullsOf (rs : List Rat) (es : List (Int × Int)) (w : Rat) : List (Option Rat) := rs.map fun r => (pullOf es (r * w)).map fun p => r * ((p : Int) : Rat)
noncomputable def c_pulls_of := fn3 (fun (rs : List Rat) (es : List (Int × Int)) (w : Rat) => Box rs ∧ Eng es ∧ KF.Sz 900 w) pullsOf
theorem q_pulls_of {rs : List Rat} {es : List (Int × Int)} {w : Rat} (h : Box rs) (h1 : Eng es) (h2 : KF.Sz 900 w) : c_pulls_of [.tuple (rs.map frD), .tuple (es.map prD), frD w] = some (.tuple ((pullsOf rs es w).map encO)) := fn3_eq (a := rs) (b := es) (c := w) ⟨h, h1, h2⟩
theorem pullOf_mem {es : List (Int × Int)} {r : Rat} {p : Int} (h : pullOf es r = some p) : ∃ x ∈ es, x.2 = p := by
  unfold pullOf at h
  obtain ⟨x, h1, h2⟩ := Option.map_eq_some_iff.mp h
  exact ⟨x, List.mem_of_find?_eq_some h1, h2⟩
theorem Eng.pull {es : List (Int × Int)} (b : Eng es) {r : Rat} {p : Int} (h : pullOf es r = some p) : 0 ≤ p ∧ p ≤ 1000 := by
  obtain ⟨x, hx, rfl⟩ := pullOf_mem h
  exact (b.lim x hx).2
theorem Eng.pull_sz {es : List (Int × Int)} (b : Eng es) {r : Rat} {p : Int} (h : pullOf es r = some p) : KF.Sz 11 (p : Rat) := KF.Sz.int (KF.ib.of (by have := b.pull h; omega) (by have := b.pull h; omega)) (by decide)
theorem l_pulls_of : ∀ ds d, ds.length = 3 → c_pulls_of ds = some d → m_pulls_of c_times c_pull_of (seP d) (envP ds 3) := fn3_law (fun rs es w ⟨b, e, h⟩ => by
  have hl := b.len
  simp [m_pulls_of, ts_tuple, fz_frs, fz_prs]
  refine fm_inv (f := frD) (xs := rs) (fun pre ev => ∃ s4 s5, notIo (some s4) = true ∧ notIo (some s5) = true ∧ ev = [.ow (.tuple (rs.map frD)), .ow (.tuple (es.map prD)), .ow (frD w), .ow (.list ((pullsOf pre es w).map encO)), s4, s5]) ?_ ?_ ⟨.no, .no, rfl, rfl, rfl⟩
  · rintro pre x post ev S' hx ⟨s4, s5, h4, h5, rfl⟩ hrt hbk hn _
    have hm : x ∈ rs := by rw [hx]; simp
    have sx := b.sz x hm
    have q1 := q_times (sx.mono (l := 1990) (by decide)) (h.mono (by decide))
    have q2 := q_pull_of e ((sx.mul h).mono (l := 1000) (by decide))
    have hp : (pullsOf pre es w).length ≤ 10000 := by simp [pullsOf]; rw [hx] at hl; simp at hl; omega
    have ga : ∀ y : D, gApp (.list ((pullsOf pre es w).map encO)) y = some (.list ((pullsOf pre es w).map encO ++ [y])) := fun y => g_app (by simpa using hp)
    have fin : ∀ v : Option Rat, v = (pullOf es (x * w)).map (fun p => x * ((p : Int) : Rat)) → (pullsOf pre es w).map encO ++ [encO v] = (pullsOf (pre ++ [x]) es w).map encO := fun v hv => by simp [pullsOf, hv]
    cases hv : pullOf es (x * w) with
    | none =>
      rw [hv] at q2 fin
      have := fin none rfl
      simp at this
      simp [h4, h5, ts_tuple, q1, q2, isLst, ga, this]
      exact hn _ ⟨.ow (frD x), .ow .none, rfl, rfl, rfl⟩
    | some p =>
      rw [hv] at q2 fin
      have q3 := q_times (sx.mono (l := 1990) (by decide)) ((e.pull_sz hv).mono (by decide))
      rw [frD_int] at q3
      have := fin _ rfl
      simp at this
      simp [h4, h5, ts_tuple, q1, q2, q3, isLst, ga, this]
      exact hn _ ⟨.ow (frD x), .ow (.int p), rfl, rfl, rfl⟩
  · rintro ev ⟨s4, s5, _, _, rfl⟩
    simp [gl_tupL, fz_optR]) 3
def byTeeth (d : Drv) : Rat := Rat.divInt d.b d.a
def wheelPulls (d : Drv) (t : Rat) : List (Option Rat) := (pullsOf d.box d.eng t).map (Option.map (· * byTeeth d))
theorem DrvOk.sz {d : Drv} (o : DrvOk d) : KF.Sz 8 (byTeeth d) := KF.sz_divInt (by have := o.a; omega) (KF.ib.of (by have := o.b; omega) (by have := o.b; omega)) (KF.ib.of (by have := o.a; omega) (by have := o.a; omega))
theorem q_low_teeth {d : Drv} (o : DrvOk d) : c_low [.int d.b, .int d.a] = some (frD (byTeeth d)) := q_low (by have := o.a; omega) ((KF.ib.of (k := 8) (by have := o.a; omega) (by have := o.a; omega)).mono (by decide))
theorem pulls_sz {rs : List Rat} {es : List (Int × Int)} {w : Rat} (b : Box rs) (e : Eng es) {q : Rat} (h : some q ∈ pullsOf rs es w) : KF.Sz 25 q := by
  obtain ⟨r, hr, h2⟩ := List.mem_map.mp h
  obtain ⟨p, h3, rfl⟩ := Option.map_eq_some_iff.mp h2
  exact ((b.sz r hr).mul (e.pull_sz h3)).mono (by decide)
noncomputable def c_wheel_pulls_drives := fn2 (fun (d : Drv) (t : Rat) => DrvOk d ∧ KF.Sz 900 t) wheelPulls
theorem q_wheel_pulls_drives {d : Drv} {t : Rat} (h : DrvOk d) (h2 : KF.Sz 900 t) : c_wheel_pulls_drives [drvD d, frD t] = some (.tuple ((wheelPulls d t).map encO)) := fn2_eq (a := d) (b := t) ⟨h, h2⟩
theorem l_wheel_pulls_drives : ∀ ds d, ds.length = 2 → c_wheel_pulls_drives ds = some d → m_wheel_pulls_drives c_pulls_of c_times c_low (seP d) (envP ds 2) := fn2_law (fun d t ⟨o, h⟩ => by
  have hl := o.box.len
  have q0 := q_pulls_of o.box o.eng h
  have i3 : gIx (drvD d) (.int 3) = some (.tuple (d.eng.map prD)) := ix_t (k := 3) rfl
  simp [m_wheel_pulls_drives, ts_tuple, fz_drv, i3, q0]
  refine fm_inv (f := encO) (xs := pullsOf d.box d.eng t) (fun pre ev => ∃ s3, notIo (some s3) = true ∧ ev = [.ow (drvD d), .ow (frD t), .ow (.list ((pre.map (Option.map (· * byTeeth d))).map encO)), s3]) ?_ ?_ ⟨.no, rfl, rfl⟩
  · rintro pre x post ev S' hx ⟨s3, h3, rfl⟩ hrt hbk hn _
    have lp : (pullsOf d.box d.eng t).length ≤ 8 := by simp [pullsOf]; exact hl
    have hp : ((pre.map (Option.map (· * byTeeth d))).map encO).length ≤ 10000 := by rw [hx] at lp; simp at lp ⊢; omega
    have ga := fun y : D => g_app (x := y) hp
    have tl := q_low_teeth o
    cases x with
    | none =>
      simp at ga
      simp [h3, isLst, ga]
      refine hn _ ⟨.ow .none, rfl, ?_⟩
      simp
    | some q =>
      have sq := pulls_sz o.box o.eng (q := q) (w := t) (by rw [hx]; simp)
      have q3 := q_times (sq.mono (l := 1990) (by decide)) (o.sz.mono (by decide))
      simp at ga
      simp [h3, ts_tuple, isLst, ga, tl, q3]
      refine hn _ ⟨.ow (frD q), rfl, ?_⟩
      simp
  · rintro ev ⟨s3, _, rfl⟩
    have fz := fz_optR (xs := wheelPulls d t)
    have tp := gl_tupL fz
    unfold wheelPulls at tp ⊢
    simp at tp
    simp [tp]) 2
def shaftT (d : Drv) (m : Rat) : Rat := m * Rat.divInt 1000 d.mm * byTeeth d
theorem DrvOk.szm {d : Drv} (o : DrvOk d) : KF.Sz 12 (Rat.divInt 1000 d.mm) := KF.sz_divInt (by have := o.mm; omega) (KF.ib.of (by decide) (by decide)) (KF.ib.of (by have := o.mm; omega) (by have := o.mm; omega))
theorem q_low_mm {d : Drv} (o : DrvOk d) {t : Int} : c_low [.int t, .int d.mm] = some (frD (Rat.divInt t d.mm)) := q_low (by have := o.mm; omega) ((KF.ib.of (k := 12) (by have := o.mm; omega) (by have := o.mm; omega)).mono (by decide))
noncomputable def c_shaft_turns := fn2 (fun (d : Drv) (m : Rat) => DrvOk d ∧ KF.Sz 800 m) shaftT
theorem q_shaft_turns {d : Drv} {m : Rat} (h : DrvOk d) (h2 : KF.Sz 800 m) : c_shaft_turns [drvD d, frD m] = some (frD (shaftT d m)) := fn2_eq (a := d) (b := m) ⟨h, h2⟩
theorem shaft_sz {d : Drv} {m : Rat} {k : Nat} (o : DrvOk d) (h : KF.Sz k m) : KF.Sz (k + 20) (shaftT d m) := ((h.mul o.szm).mul o.sz).mono (by omega)
theorem l_shaft_turns : ∀ ds d, ds.length = 2 → c_shaft_turns ds = some d → m_shaft_turns c_times c_low (seP d) (envP ds 0) := fn2_law (fun d m ⟨o, h⟩ => by
  have q1 := q_low_mm o (t := 1000)
  have q2 := q_low_teeth o
  have q3 := q_times (h.mono (l := 1990) (by decide)) (o.szm.mono (by decide))
  have q4 := q_times ((h.mul o.szm).mono (l := 1990) (by decide)) (o.sz.mono (by decide))
  have i4 : gIx (drvD d) (.int 4) = some (.int d.mm) := ix_t (k := 4) rfl
  simp [m_shaft_turns, ts_tuple, fz_drv, i4, q1, q2, q3, q4, shaftT]) 2
def shaftAt (d : Drv) (s : Int) : Rat := shaftT d (s : Rat) * ((60 : Int) : Rat)
noncomputable def c_shaft_at := fn2 (fun (d : Drv) (s : Int) => DrvOk d ∧ 0 ≤ s ∧ s ≤ 100) shaftAt
theorem q_shaft_at {d : Drv} {s : Int} (h : DrvOk d) (h1 : 0 ≤ s) (h2 : s ≤ 100) : c_shaft_at [drvD d, .int s] = some (frD (shaftAt d s)) := fn2_eq (a := d) (b := s) ⟨h, h1, h2⟩
theorem sz_speed {s : Int} (h1 : 0 ≤ s) (h2 : s ≤ 100) : KF.Sz 7 (s : Rat) := KF.Sz.int (KF.ib.of (by omega) (by omega)) (by decide)
theorem shaftAt_sz {d : Drv} {s : Int} (o : DrvOk d) (h1 : 0 ≤ s) (h2 : s ≤ 100) : KF.Sz 40 (shaftAt d s) := ((shaft_sz o (sz_speed h1 h2)).mul (KF.Sz.int (k := 7) (KF.ib.of (by decide) (by decide)) (by decide))).mono (by decide)
theorem l_shaft_at : ∀ ds d, ds.length = 2 → c_shaft_at ds = some d → m_shaft_at c_times c_shaft_turns c_is_within c_is_drive (seP d) (envP ds 0) := fn2_law (fun d s ⟨o, h1, h2⟩ => by
  have q1 := q_shaft_turns o ((sz_speed h1 h2).mono (l := 800) (by decide))
  have q2 := q_times ((shaft_sz o (sz_speed h1 h2)).mono (l := 1990) (by decide)) (KF.Sz.int (i := 60) (k := 1990) ((KF.ib.of (k := 7) (by decide) (by decide)).mono (by decide)) (by decide))
  rw [frD_int] at q1 q2
  simp [m_shaft_at, ts_tuple, fz_drv, q_is_drive o, h1, h2, q1, q2, shaftAt]) 2
def isGood (p : Tri Int Int Int) (x : Option Rat) : Bool := match x with
  | none => false
  | some q => decide (p.c * (q.den : Int) ≤ q.num)
def goodL (d : Drv) (p : Tri Int Int Int) : List Nat := ((wheelPulls d (shaftAt d p.b)).zipIdx.filter fun x => isGood p x.1).map (·.2)
noncomputable def c_gears_good := fn2 (fun (d : Drv) (p : Tri Int Int Int) => DrvOk d ∧ PartOk p) (fun d p => Lst.mk (goodL d p))
theorem q_gears_good {d : Drv} {p : Tri Int Int Int} (h : DrvOk d) (h1 : PartOk p) : c_gears_good [drvD d, triD p] = some (.list ((goodL d p).map natD)) := fn2_eq (a := d) (b := p) ⟨h, h1⟩
theorem wheel_sz {d : Drv} (o : DrvOk d) {t q : Rat} (h : some q ∈ wheelPulls d t) : KF.Sz 40 q := by
  unfold wheelPulls at h
  obtain ⟨x, h1, h2⟩ := List.mem_map.mp h
  obtain ⟨y, rfl, rfl⟩ := Option.map_eq_some_iff.mp h2
  exact ((pulls_sz o.box o.eng h1).mul o.sz).mono (by decide)
theorem wheel_len {d : Drv} (o : DrvOk d) {t : Rat} : (wheelPulls d t).length ≤ 8 := by
  unfold wheelPulls pullsOf
  simp
  exact o.box.len
theorem zipIdx_fst {α : Type} {xs : List α} {p : α × Nat} {k : Nat} (h : p ∈ xs.zipIdx k) : p.1 ∈ xs := by
  obtain ⟨x, i⟩ := p
  exact List.fst_mem_of_mem_zipIdx h
theorem gi_enumO {xs : List (Option Rat)} : giEnum [.tuple (xs.map encO)] = some (xs.zipIdx.map fun p => .tuple [.int (p.2 : Int), encO p.1]) := gi_enum
theorem l_gears_good : ∀ ds d, ds.length = 2 → c_gears_good ds = some d → m_gears_good c_wheel_pulls_drives c_shaft_at (seP d) (envP ds 3) := fn2_law (fun d p ⟨o, h⟩ => by
  have q1 := q_shaft_at o (s := p.b) (by have := h.b; omega) (by have := h.b; omega)
  have q2 := q_wheel_pulls_drives o ((shaftAt_sz o (s := p.b) (by have := h.b; omega) (by have := h.b; omega)).mono (l := 900) (by decide))
  have hl := wheel_len o (t := shaftAt d p.b)
  have hz : ∀ q, some q ∈ wheelPulls d (shaftAt d p.b) → KF.Sz 40 q := fun q => wheel_sz o
  have eg : goodL d p = ((wheelPulls d (shaftAt d p.b)).zipIdx.filter fun x => isGood p x.1).map (·.2) := rfl
  generalize wheelPulls d (shaftAt d p.b) = ws at *
  simp [m_gears_good, ts_tuple, q1, q2, gi_enumO]
  refine fm_inv (f := fun x : Option Rat × Nat => PyData.tuple [.int (x.2 : Int), encO x.1]) (xs := ws.zipIdx) (fun pre ev => ∃ s3 s4, notIo (some s3) = true ∧ notIo (some s4) = true ∧ ev = [.ow (drvD d), .ow (triD p), .ow (.list (((pre.filter fun x => isGood p x.1).map (·.2)).map natD)), s3, s4]) ?_ ?_ ⟨.no, .no, rfl, rfl, rfl⟩
  · rintro pre x post ev S' hx ⟨s3, s4, h3, h4, rfl⟩ hrt hbk hn _
    have lz : ws.zipIdx.length ≤ 8 := by simpa using hl
    have hp : (((pre.filter fun x => isGood p x.1).map (·.2)).map natD).length ≤ 10000 := by
      have := List.length_filter_le (fun x : Option Rat × Nat => isGood p x.1) pre
      rw [hx] at lz
      simp at lz ⊢
      omega
    have ga := fun y : D => g_app (x := y) hp
    have hm : x.1 ∈ ws := zipIdx_fst (k := 0) (by rw [hx]; simp)
    obtain ⟨y, i⟩ := x
    cases y with
    | none =>
      have hn' := hn [.ow (drvD d), .ow (triD p), .ow (.list (((pre.filter fun x => isGood p x.1).map (·.2)).map natD)), .ow (.int (i : Int)), .ow .none] ⟨.ow (.int (i : Int)), .ow .none, rfl, rfl, by simp [List.filter_append, isGood]⟩
      simp [h3, h4]
      simp at hn'
      exact hn'
    | some q =>
      have sq := hz q hm
      have mu := op_ii_mul (i := p.c) (j := (q.den : Int)) (KF.ib.sm (k := 15) (KF.ib.of (by have := h.c; omega) (by have := h.c; omega))) sq.d.sm
      by_cases hc : p.c * (q.den : Int) ≤ q.num
      · have hn' := hn [.ow (drvD d), .ow (triD p), .ow (.list (((pre.filter fun x => isGood p x.1).map (·.2)).map natD ++ [.int (i : Int)])), .ow (.int (i : Int)), .ow (frD q)] ⟨.ow (.int (i : Int)), .ow (frD q), rfl, rfl, by simp [List.filter_append, isGood, hc]⟩
        simp at ga
        simp [h3, h4, ts_tuple, mu, hc, isLst, ga]
        simpa using hn'
      · have hn' := hn [.ow (drvD d), .ow (triD p), .ow (.list (((pre.filter fun x => isGood p x.1).map (·.2)).map natD)), .ow (.int (i : Int)), .ow (frD q)] ⟨.ow (.int (i : Int)), .ow (frD q), rfl, rfl, by simp [List.filter_append, isGood, hc]⟩
        simp [h3, h4, ts_tuple, mu, hc]
        simpa using hn'
  · rintro ev ⟨s3, s4, _, _, rfl⟩
    simp [eg]) 2
noncomputable def c_drive_pulls := fn2 (fun (d : Drv) (s : Int) => DrvOk d ∧ 0 ≤ s ∧ s ≤ 100) (fun d s => wheelPulls d (shaftAt d s))
theorem q_drive_pulls {d : Drv} {s : Int} (h : DrvOk d) (h1 : 0 ≤ s) (h2 : s ≤ 100) : c_drive_pulls [drvD d, .int s] = some (.tuple ((wheelPulls d (shaftAt d s)).map encO)) := fn2_eq (a := d) (b := s) ⟨h, h1, h2⟩
theorem l_drive_pulls : ∀ ds d, ds.length = 2 → c_drive_pulls ds = some d → m_drive_pulls c_wheel_pulls_drives c_shaft_at (seP d) (envP ds 1) := fn2_law (fun d s ⟨o, h1, h2⟩ => by
  have q1 := q_shaft_at o h1 h2
  have q2 := q_wheel_pulls_drives o ((shaftAt_sz o h1 h2).mono (l := 900) (by decide))
  simp [m_drive_pulls, q1, q2]) 2
abbrev stopD (d : Drv) (p : Tri Int Int Int) (i : Nat) : D := .tuple [.str "stop", .tuple [.int (i : Int), .tuple ((wheelPulls d (shaftAt d p.b)).map encO)]]
abbrev tripD (gs : List Nat) : D := .tuple [.str "trip", .tuple (gs.map natD)]
def lastG (d : Drv) (p : Tri Int Int Int) : Nat := (goodL d p).getLastD 0
def firstStop (d : Drv) (t : List (Tri Int Int Int)) : Option (Tri Int Int Int × Nat) := t.zipIdx.find? fun x => decide (goodL d x.1 = [])
def toldD (d : Drv) (t : List (Tri Int Int Int)) : D := match firstStop d t with
  | some x => stopD d x.1 x.2
  | none => tripD (t.map (lastG d))
noncomputable def c_trip_told := fn2 (fun (d : Drv) (t : List (Tri Int Int Int)) => DrvOk d ∧ TripOk t) toldD
theorem q_trip_told {d : Drv} {t : List (Tri Int Int Int)} (h : DrvOk d) (h1 : TripOk t) : c_trip_told [drvD d, .tuple (t.map triD)] = some (toldD d t) := fn2_eq (a := d) (b := t) ⟨h, h1⟩
theorem cq_ln {xs : List Nat} : cmpEq (.list (xs.map natD)) (.list []) = some (.bool (decide (xs = []))) := by
  cases xs with
  | nil => rfl
  | cons x xs =>
    have ok : ∀ n : Nat, okD (n + 2) (.list ((x :: xs).map natD)) := fun n => okD_list fun y hy => by
      obtain ⟨k, _, rfl⟩ := List.mem_map.mp hy
      exact okD_int
    rw [cq_of (okD_mono (ok 0) (by decide)) (show okD 40 (.list []) from okD_list (n := 39) fun y h => by cases h)]
    simp
    rfl
theorem cn_ln {xs : List Nat} : cmpNe (.list (xs.map natD)) (.list []) = some (.bool (!decide (xs = []))) := by
  cases xs with
  | nil => rfl
  | cons x xs =>
    have ok : ∀ n : Nat, okD (n + 2) (.list ((x :: xs).map natD)) := fun n => okD_list fun y hy => by
      obtain ⟨k, _, rfl⟩ := List.mem_map.mp hy
      exact okD_int
    rw [cn_of (okD_mono (ok 0) (by decide)) (show okD 40 (.list []) from okD_list (n := 39) fun y h => by cases h)]
    simp
    rfl
theorem ixl_lastN {xs : List Nat} (h : xs ≠ []) : gIx (.list (xs.map natD)) (.int (-1)) = some (natD (xs.getLastD 0)) := by
  refine ixl_last ?_
  rw [List.getLast?_map, List.getLastD_eq_getLast?, List.getLast?_eq_some_getLast h]
  rfl
theorem l_trip_told : ∀ ds d, ds.length = 2 → c_trip_told ds = some d → m_trip_told c_drive_pulls c_gears_good c_check_drive (seP d) (envP ds 4) := fn2_law (fun d t ⟨o, h⟩ => by
  have hl := h.len
  simp [m_trip_told, ts_tuple, fz_tris, q_check_drive o h, gi_enum]
  refine fm_inv (f := fun x : Tri Int Int Int × Nat => PyData.tuple [.int (x.2 : Int), triD x.1]) (xs := t.zipIdx) (fun pre ev => ∃ s3 s4 s5, notIo (some s3) = true ∧ notIo (some s4) = true ∧ notIo (some s5) = true ∧ (∀ y ∈ pre, decide (goodL d y.1 = []) = false) ∧ ev = [.ow (drvD d), .ow (.tuple (t.map triD)), .ow (.list ((pre.map fun y => lastG d y.1).map natD)), s3, s4, s5]) ?_ ?_ ⟨.no, .no, .no, rfl, rfl, rfl, by simp, rfl⟩
  · rintro pre x post ev S' hx ⟨s3, s4, s5, h3, h4, h5, hp, rfl⟩ hrt hbk hn _
    have hm : x.1 ∈ t := zipIdx_fst (k := 0) (by rw [hx]; simp)
    have po := h.part _ hm
    have q1 := q_gears_good o po
    have q2 := q_drive_pulls o (s := x.1.b) (by have := po.b; omega) (by have := po.b; omega)
    obtain ⟨p, i⟩ := x
    simp only at q1 q2 po
    have ce := cq_ln (xs := goodL d p)
    by_cases hg : goodL d p = []
    · have e : toldD d t = stopD d p i := by
        unfold toldD firstStop
        rw [hx, find_pre hp]
        simp [hg]
      simp only [hg, List.map_nil] at q1
      have c0 : cmpEq (.list []) (.list []) = some (.bool true) := rfl
      simp [h3, h4, h5, ts_tuple, q1, c0, q2, hrt, e]
    · rw [decide_eq_false hg] at ce
      have lz : t.zipIdx.length ≤ 8 := by simpa using hl
      have hlen : ((pre.map fun y => lastG d y.1).map natD).length ≤ 10000 := by
        rw [hx] at lz
        simp at lz ⊢
        omega
      have ga := fun y : D => g_app (x := y) hlen
      have ix := ixl_lastN hg
      simp at ga
      simp [h3, h4, h5, ts_tuple, q1, ce, ix, isLst, ga]
      refine hn _ ⟨.ow (.int (i : Int)), .ow (triD p), .ow (.list ((goodL d p).map natD)), rfl, rfl, rfl, fun y hy => ?_, by simp [lastG]⟩
      rcases List.mem_append.mp hy with hy | hy
      · exact hp y hy
      · rcases List.mem_singleton.mp hy with rfl
        simp [hg]
  · rintro ev ⟨s3, s4, s5, _, _, _, hp, rfl⟩
    have e : toldD d t = tripD (t.map (lastG d)) := by
      unfold toldD firstStop
      rw [List.find?_eq_none.mpr (fun y hy => by rw [hp y hy]; simp)]
    have e2 : (t.zipIdx.map fun y => lastG d y.1) = t.map (lastG d) := by
      have : (t.zipIdx.map fun y => lastG d y.1) = (t.zipIdx.map Prod.fst).map (lastG d) := by rw [List.map_map]; rfl
      rw [this, List.zipIdx_map_fst]
    have fz : frozenL ((t.map (lastG d)).map natD) = true := fz_map (fun _ => rfl) _
    have tp := gl_tupL fz
    rw [e2, e]
    simp at tp
    simp [tp]) 2
def toldOk (d : Drv) (t : List (Tri Int Int Int)) (v : D) : Prop := (v = toldD d t ∧ firstStop d t ≠ none) ∨ ∃ gs : List Nat, v = tripD gs ∧ gs.length = t.length ∧ ∀ p ∈ gs.zip t, p.1 ∈ goodL d p.2
noncomputable def c_is_trip_told := fn3 (fun (d : Drv) (t : List (Tri Int Int Int)) (v : D) => (DrvOk d ∧ TripOk t) ∧ toldOk d t v) (fun _ _ _ => true)
theorem q_is_trip_told {d : Drv} {t : List (Tri Int Int Int)} {v : D} (h : DrvOk d) (h1 : TripOk t) (h2 : toldOk d t v) : c_is_trip_told [drvD d, .tuple (t.map triD), v] = some (.bool true) := fn3_eq (a := d) (b := t) (c := v) ⟨⟨h, h1⟩, h2⟩
theorem good_lt {d : Drv} {p : Tri Int Int Int} {g : Nat} (h : g ∈ goodL d p) : g < d.box.length := by
  unfold goodL at h
  obtain ⟨x, h1, rfl⟩ := List.mem_map.mp h
  have := List.mem_filter.mp h1
  have := List.snd_lt_of_mem_zipIdx this.1
  simpa [wheelPulls, pullsOf] using this
theorem stop_spec {d : Drv} {t : List (Tri Int Int Int)} {x : Tri Int Int Int × Nat} (h : firstStop d t = some x) : t[x.2]? = some x.1 ∧ goodL d x.1 = [] := by
  unfold firstStop at h
  have h1 := List.mem_of_find?_eq_some h
  have h2 := List.find?_some h
  refine ⟨?_, by simpa using h2⟩
  obtain ⟨p, i⟩ := x
  exact List.mem_zipIdx_iff_getElem?.mp h1
theorem plain_optR : ∀ xs : List (Option Rat), PyData.plainAll (xs.map encO) = true := plainAll_map fun x => by cases x <;> rfl
theorem depth_frD (q : Rat) : (frD q).depth ≤ 1 := by
  show (PyData.depthAll [.int q.num, .int (q.den : Int)]) + 1 ≤ 1
  simp [PyData.depthAll, PyData.depth]
theorem wheel_num {d : Drv} (o : DrvOk d) {t : Rat} : numAll ((wheelPulls d t).map encO) = true ∧ nodesAll ((wheelPulls d t).map encO) ≤ 400 ∧ (PyData.tuple ((wheelPulls d t).map encO)).depth ≤ 40 := by
  have hl := wheel_len o (t := t)
  have hz : ∀ q, some q ∈ wheelPulls d t → KF.Sz 40 q := fun q => wheel_sz o
  generalize wheelPulls d t = ws at *
  have sm1 : ∀ {k : Nat} {i : Int}, KF.ib k i → k ≤ 1000 → smT i = true := fun h hk => decide_eq_true (Nat.lt_of_lt_of_le h (Nat.pow_le_pow_right (by decide) hk))
  refine ⟨numAll_map fun x hx => ?_, Nat.le_trans (nodes_map (k := 3) fun x hx => ?_) (by omega), ?_⟩
  · cases x with
    | none => rfl
    | some q =>
      show (smT q.num && (smT (q.den : Int) && true)) = true
      rw [sm1 (hz q hx).n (by decide), sm1 (hz q hx).d (by decide)]
      rfl
  · cases x with
    | none => show 1 ≤ 3; decide
    | some q => show 1 + (1 + (1 + 0)) ≤ 3; decide
  · have : PyData.depthAll (ws.map encO) ≤ 5 := depthAll_le _ fun x hx => by
      obtain ⟨y, _, rfl⟩ := List.mem_map.mp hx
      cases y with
      | none => show (0 : Nat) ≤ 5; decide
      | some q => exact Nat.le_trans (depth_frD q) (by decide)
    show PyData.depthAll (ws.map encO) + 1 ≤ 40
    omega
theorem ci_ln {g : Nat} {xs : List Nat} : cmpIn (.int (g : Int)) (.list (xs.map natD)) = some (.bool (decide (g ∈ xs))) := by
  have e : xs.map natD = (xs.map fun n : Nat => (n : Int)).map PyData.int := by simp
  rw [e, ci_il]
  congr 2
  rw [decide_eq_decide, List.mem_map]
  constructor
  · rintro ⟨a, h, z⟩
    have : a = g := by omega
    exact this ▸ h
  · exact fun h => ⟨g, h, rfl⟩
theorem l_is_trip_told : ∀ ds d, ds.length = 3 → c_is_trip_told ds = some d → m_is_trip_told c_drive_pulls c_gears_good c_is_within c_is_row c_check_drive (seP d) (envP ds 4) := fn3_law (fun d t v ⟨⟨o, h⟩, hv⟩ => by
  have hl := h.len
  rcases hv with ⟨rfl, hs⟩ | ⟨gs, rfl, h1, h2⟩
  · obtain ⟨x, hx⟩ : ∃ x, firstStop d t = some x := Option.ne_none_iff_exists'.mp hs
    have ev : toldD d t = stopD d x.1 x.2 := by unfold toldD; rw [hx]
    obtain ⟨s1, s2⟩ := stop_spec hx
    have hlt : x.2 < t.length := (List.getElem?_eq_some_iff.mp s1).1
    have po : PartOk x.1 := h.part _ (List.mem_of_getElem? s1)
    have q1 := q_gears_good o po
    rw [s2] at q1
    have q2 := q_drive_pulls o (s := x.1.b) (by have := po.b; omega) (by have := po.b; omega)
    obtain ⟨n1, n2, n3⟩ := wheel_num o (t := shaftAt d x.1.b)
    have rp := repr_num n1 n2 n3
    have ix : gIx (.tuple (t.map triD)) (.int (x.2 : Int)) = some (triD x.1) := ix_tm s1
    have fz := fz_optR (xs := wheelPulls d (shaftAt d x.1.b))
    have c0 : cmpNe (.list []) (.list []) = some (.bool false) := rfl
    have sne : ("stop" : Str) ≠ "trip" := word_ne rfl
    rw [ev]
    obtain ⟨p, i⟩ := x
    simp only [stopD] at *
    generalize wheelPulls d (shaftAt d p.b) = ws at *
    simp at q1
    have i1 : (i : Int) ≤ (t.length : Int) - 1 := by omega
    simp [m_is_trip_told, ts_tuple, fz_tris, fz, q_check_drive o h, sne, q1, c0, ix, q2, rp, i1]
  · have hlen : gs.length ≤ 1000 := by omega
    have bx : ∀ g ∈ gs, g < d.box.length := fun g hg => by
      obtain ⟨i, hi, rfl⟩ := List.mem_iff_getElem.mp hg
      have := h2 (gs[i], t[i]'(by omega)) (by
        rw [List.mem_iff_getElem]
        exact ⟨i, by simp; omega, by simp⟩)
      exact good_lt this
    have r := q_is_row_t (xs := gs.map fun n : Nat => (n : Int)) (n := (t.length : Int)) (lo := 0) (hi := (d.box.length : Int) - 1) (by simpa using hlen) (by simp [h1]) (by
      intro x hx
      obtain ⟨g, hg, rfl⟩ := List.mem_map.mp hx
      have := bx g hg
      omega)
    have e : (gs.map fun n : Nat => (n : Int)).map PyData.int = gs.map natD := by simp
    rw [e] at r
    have lc : ∀ ev : En, 6 < ev.length → Pd.get ev 0 = some (drvD d) → compL (bTup (bCons (bName 5) (bCons (bName 6) bNil))) bTrue (e2 cmpIn (eVar 5) (eFn 2 c_gears_good (aCons (eVar 0) (aCons (eVar 6) aNil)))) ev ((gs.zip t).map fun p => .tuple [natD p.1, triD p.2]) = some ((gs.zip t).map fun _ => .bool true) := fun ev he g0 => lcMap fun p hp => by
      have q := q_gears_good o (h.part _ (List.of_mem_zip hp).2)
      have ci := ci_ln (g := p.1) (xs := goodL d p.2)
      rw [decide_eq_true (h2 p hp)] at ci
      simp [get_set_self, get_set_ne, he, show 5 < ev.length by omega, g0, q, ci]
    have fz : frozenL (gs.map natD) = true := fz_map (fun _ => rfl) _
    have gz : giZip [.tuple (gs.map natD), .tuple (t.map triD)] = _ := gi_zip
    have c1 : min gs.length t.length ≤ cap := Nat.le_trans (Nat.min_le_right _ _) (capL (by omega))
    simp [m_is_trip_told, ts_tuple, fz_tris, fz, q_check_drive o h, r, gz, c1]
    rw [lc _ (by simp) rfl]
    simp [gl_all']) 3
theorem TripOk.szt {t : List (Tri Int Int Int)} (h : TripOk t) : ∀ p ∈ t, KF.Sz 20 (Rat.divInt p.a p.b) := fun p hp => by
  have q := h.part p hp
  exact KF.sz_divInt (by have := q.b; omega) (KF.ib.of (by have := q.a; omega) (by have := q.a; omega)) (KF.ib.of (by have := q.b; omega) (by have := q.b; omega))
def tripTime (t : List (Tri Int Int Int)) : Rat := (t.map fun p => Rat.divInt p.a p.b).sum
noncomputable def c_trip_time := fn1 TripOk tripTime
theorem q_trip_time {t : List (Tri Int Int Int)} (h : TripOk t) : c_trip_time [.tuple (t.map triD)] = some (frD (tripTime t)) := fn1_eq (a := t) h
theorem l_trip_time : ∀ ds d, ds.length = 1 → c_trip_time ds = some d → m_trip_time c_sum_of c_low c_is_trip (seP d) (envP ds 1) := fn1_law (fun t h => by
  have hl := h.len
  have lc : compL (bName 1) bTrue (eFn 2 c_low (aCons (e2 gIx (eVar 1) (eC (.int 0))) (aCons (e2 gIx (eVar 1) (eC (.int 1))) aNil))) [.ow (.tuple (t.map triD)), .no] (t.map triD) = some (t.map fun p => frD (Rat.divInt p.a p.b)) := lcMap fun p hp => by
    have q := h.part p hp
    have ql := q_low (t := p.a) (b := p.b) (by have := q.b; omega) ((KF.ib.of (k := 20) (by have := q.b; omega) (by have := q.b; omega)).mono (by decide))
    simp [ql]
  have qs := q_sum_of (xs := t.map fun p => Rat.divInt p.a p.b) (by simp; omega) (fun x hx => by
    obtain ⟨p, hp, rfl⟩ := List.mem_map.mp hx
    exact (h.szt p hp).mono (by decide))
  rw [List.map_map] at qs
  have qs : c_sum_of [.list (t.map fun p => frD (Rat.divInt p.a p.b))] = some (frD (tripTime t)) := qs
  simp [m_trip_time, ts_tuple, fz_tris, q_is_trip h, capL (show t.length ≤ 1000 by omega), lc, qs]) 1
def turnsV (d : Drv) (t : List (Tri Int Int Int)) (gs : List Nat) : Rat := ((t.zip gs).map fun p => shaftT d (p.1.a : Rat) * d.box.getD p.2 0).sum
noncomputable def c_trip_turns := fn3 (fun (d : Drv) (t : List (Tri Int Int Int)) (gs : List Nat) => (DrvOk d ∧ TripOk t) ∧ gs.length = t.length ∧ ∀ g ∈ gs, g < d.box.length) turnsV
theorem q_trip_turns {d : Drv} {t : List (Tri Int Int Int)} {gs : List Nat} (h : DrvOk d) (h1 : TripOk t) (h2 : gs.length = t.length) (h3 : ∀ g ∈ gs, g < d.box.length) : c_trip_turns [drvD d, .tuple (t.map triD), .tuple (gs.map natD)] = some (frD (turnsV d t gs)) := fn3_eq (a := d) (b := t) (c := gs) ⟨⟨h, h1⟩, h2, h3⟩
theorem getD_rat {rs : List Rat} {i : Nat} (h : i < rs.length) : rs.getD i 0 ∈ rs := by
  rw [List.getD_eq_getElem?_getD, List.getElem?_eq_getElem h]
  exact List.getElem_mem h
theorem ix_rat {rs : List Rat} {i : Nat} (h : i < rs.length) : gIx (.tuple (rs.map frD)) (.int (i : Int)) = some (frD (rs.getD i 0)) := ix_tm (by rw [List.getD_eq_getElem?_getD, List.getElem?_eq_getElem h]; rfl)
theorem PartOk.szm {p : Tri Int Int Int} (h : PartOk p) : KF.Sz 17 (p.a : Rat) := KF.Sz.int (KF.ib.of (by have := h.a; omega) (by have := h.a; omega)) (by decide)
theorem turn_sz {d : Drv} {p : Tri Int Int Int} {g : Nat} (o : DrvOk d) (h : PartOk p) (hg : g < d.box.length) : KF.Sz 100 (shaftT d (p.a : Rat) * d.box.getD g 0) := ((shaft_sz o h.szm).mul (o.box.sz _ (getD_rat hg))).mono (by decide)
theorem l_trip_turns : ∀ ds d, ds.length = 3 → c_trip_turns ds = some d → m_trip_turns c_plus c_times c_shaft_turns c_is_row c_check_drive (seP d) (envP ds 3) := fn3_law (fun d t gs ⟨⟨o, h⟩, h1, h2⟩ => by
  have hl := h.len
  have r := q_is_row_t (xs := gs.map fun n : Nat => (n : Int)) (n := (t.length : Int)) (lo := 0) (hi := (d.box.length : Int) - 1) (by simp; omega) (by simp [h1]) (by
    intro x hx
    obtain ⟨g, hg, rfl⟩ := List.mem_map.mp hx
    have := h2 g hg
    omega)
  have e : (gs.map fun n : Nat => (n : Int)).map PyData.int = gs.map natD := by simp
  rw [e] at r
  have fz : frozenL (gs.map natD) = true := fz_map (fun _ => rfl) _
  have gz : giZip [.tuple (t.map triD), .tuple (gs.map natD)] = _ := gi_zip
  simp [m_trip_turns, ts_tuple, fz_tris, fz, q_check_drive o h, r, gz]
  refine fm_inv (f := fun p : Tri Int Int Int × Nat => PyData.tuple [triD p.1, natD p.2]) (xs := t.zip gs) (fun pre ev => ∃ s4 s5, notIo (some s4) = true ∧ notIo (some s5) = true ∧ ev = [.ow (drvD d), .ow (.tuple (t.map triD)), .ow (.tuple (gs.map natD)), .ow (frD (pre.map fun p => shaftT d (p.1.a : Rat) * d.box.getD p.2 0).sum), s4, s5]) ?_ ?_ ⟨.no, .no, rfl, rfl, rfl⟩
  · rintro pre x post ev S' hx ⟨s4, s5, h4, h5, rfl⟩ hrt hbk hn _
    have hm : x ∈ t.zip gs := by rw [hx]; simp
    have po := h.part _ (List.of_mem_zip hm).1
    have hg := h2 _ (List.of_mem_zip hm).2
    have hpre : ∀ p ∈ pre, KF.Sz 100 (shaftT d (p.1.a : Rat) * d.box.getD p.2 0) := fun p hp => by
      have hm : p ∈ t.zip gs := by rw [hx]; exact List.mem_append_left _ hp
      exact turn_sz o (h.part _ (List.of_mem_zip hm).1) (h2 _ (List.of_mem_zip hm).2)
    have lz : (t.zip gs).length ≤ 8 := by simp; omega
    have ss := sum_sz (pre.map fun p => shaftT d (p.1.a : Rat) * d.box.getD p.2 0) (by
      intro y hy
      obtain ⟨p, hp, rfl⟩ := List.mem_map.mp hy
      exact hpre p hp)
    have q1 := q_shaft_turns o (po.szm.mono (l := 800) (by decide))
    rw [frD_int] at q1
    have q2 := q_times ((shaft_sz o po.szm).mono (l := 1990) (by decide)) ((o.box.sz _ (getD_rat hg)).mono (by decide))
    have q3 := q_plus (ss.mono (l := 1990) (by rw [hx] at lz; simp at lz ⊢; omega)) ((turn_sz o po hg).mono (by decide))
    have ix := ix_rat hg
    have es := sum_snoc (pre.map fun p => shaftT d (p.1.a : Rat) * d.box.getD p.2 0) (shaftT d (x.1.a : Rat) * d.box.getD x.2 0)
    have hn' := hn [.ow (drvD d), .ow (.tuple (t.map triD)), .ow (.tuple (gs.map natD)), .ow (frD ((pre.map fun p => shaftT d (p.1.a : Rat) * d.box.getD p.2 0).sum + shaftT d (x.1.a : Rat) * d.box.getD x.2 0)), .ow (triD x.1), .ow (natD x.2)] ⟨.ow (triD x.1), .ow (natD x.2), rfl, rfl, by rw [List.map_append, List.map_singleton, es]⟩
    generalize shaftT d (x.1.a : Rat) = A at *
    generalize d.box.getD x.2 0 = B at *
    generalize (pre.map fun p => shaftT d (p.1.a : Rat) * d.box.getD p.2 0).sum = C at *
    simp [h4, h5, ts_tuple, q1, ix, q2, q3]
    simpa using hn'
  · rintro ev ⟨s4, s5, _, _, rfl⟩
    simp [turnsV]) 3
def fewV (d : Drv) (t : List (Tri Int Int Int)) : Option Rat := if firstStop d t = none then some (turnsV d t (t.map (lastG d))) else none
noncomputable def c_fewest_turns := fn2 (fun (d : Drv) (t : List (Tri Int Int Int)) => DrvOk d ∧ TripOk t) fewV
theorem q_fewest_turns {d : Drv} {t : List (Tri Int Int Int)} (h : DrvOk d) (h1 : TripOk t) : c_fewest_turns [drvD d, .tuple (t.map triD)] = some (encO (fewV d t)) := fn2_eq (a := d) (b := t) ⟨h, h1⟩
theorem last_good {d : Drv} {p : Tri Int Int Int} (h : goodL d p ≠ []) : lastG d p ∈ goodL d p := by
  unfold lastG
  rw [List.getLastD_eq_getLast?, List.getLast?_eq_some_getLast h]
  exact List.getLast_mem h
theorem no_stop {d : Drv} {t : List (Tri Int Int Int)} (h : firstStop d t = none) : ∀ p ∈ t, goodL d p ≠ [] := fun p hp z => by
  unfold firstStop at h
  rw [List.find?_eq_none] at h
  obtain ⟨i, hi, rfl⟩ := List.mem_iff_getElem.mp hp
  refine h (t[i], i) ?_ (by simpa using z)
  rw [List.mem_zipIdx_iff_getElem?]
  exact List.getElem?_eq_getElem hi
theorem l_fewest_turns : ∀ ds d, ds.length = 2 → c_fewest_turns ds = some d → m_fewest_turns c_trip_turns c_trip_told (seP d) (envP ds 2) := fn2_law (fun d t ⟨o, h⟩ => by
  have q1 := q_trip_told o h
  cases hs : firstStop d t with
  | none =>
    have ev : toldD d t = tripD (t.map (lastG d)) := by unfold toldD; rw [hs]
    have ef : fewV d t = some (turnsV d t (t.map (lastG d))) := if_pos hs
    have q2 := q_trip_turns o h (gs := t.map (lastG d)) (by simp) (fun g hg => by
      obtain ⟨p, hp, rfl⟩ := List.mem_map.mp hg
      exact good_lt (last_good (no_stop hs p hp)))
    rw [ev] at q1
    generalize t.map (lastG d) = gs at *
    simp [m_fewest_turns, ts_tuple, fz_tris, q1, q2, ef]
  | some x =>
    have ev : toldD d t = stopD d x.1 x.2 := by unfold toldD; rw [hs]
    have ef : fewV d t = none := if_neg (by rw [hs]; exact fun z => nomatch z)
    have sne : ("stop" : Str) ≠ "trip" := word_ne rfl
    rw [ev] at q1
    simp [m_fewest_turns, ts_tuple, fz_tris, q1, ef, sne]) 2
def beltV (d : Drv) (t : List (Tri Int Int Int)) (bs : List Int) : Option (List Int) := (fewV d t).map fun q => after bs (q.num / (q.den : Int) * bs.headD 0)
noncomputable def c_belt_after := fn3 (fun (d : Drv) (t : List (Tri Int Int Int)) (bs : List Int) => ((DrvOk d ∧ TripOk t) ∧ Belt bs) ∧ ∀ q, fewV d t = some q → (0 ≤ q ∧ q.num / (q.den : Int) ≤ 1000000000000)) beltV
theorem q_belt_after {d : Drv} {t : List (Tri Int Int Int)} {bs : List Int} (h : DrvOk d) (h1 : TripOk t) (h2 : Belt bs) (h3 : ∀ q, fewV d t = some q → (0 ≤ q ∧ q.num / (q.den : Int) ≤ 1000000000000)) : c_belt_after [drvD d, .tuple (t.map triD), tI bs] = some (encO (beltV d t bs)) := fn3_eq (a := d) (b := t) (c := bs) ⟨⟨⟨h, h1⟩, h2⟩, h3⟩
theorem few_sz {d : Drv} {t : List (Tri Int Int Int)} {q : Rat} (o : DrvOk d) (h : TripOk t) (e : fewV d t = some q) : KF.Sz 1000 q := by
  unfold fewV at e
  split at e
  · rename_i hs
    cases e
    unfold turnsV
    refine (sum_sz _ fun x hx => ?_).mono (by have := h.len; simp; omega)
    obtain ⟨p, hp, rfl⟩ := List.mem_map.mp hx
    have hm := List.of_mem_zip hp
    refine turn_sz o (h.part _ hm.1) ?_
    obtain ⟨y, hy, e⟩ := List.mem_map.mp hm.2
    rw [← e]
    exact good_lt (last_good (no_stop hs y hy))
  · cases e
theorem l_belt_after : ∀ ds d, ds.length = 3 → c_belt_after ds = some d → m_belt_after c_marks_after c_is_belt c_fewest_turns (seP d) (envP ds 1) := fn3_law (fun d t bs ⟨⟨⟨o, h⟩, hb⟩, h3⟩ => by
  have q1 := q_fewest_turns o h
  have hne := hb.ne
  match bs, hb with
  | b :: bs, hb =>
    have bl := hb.lim b List.mem_cons_self
    cases e : fewV d t with
    | none =>
      rw [e] at q1
      have ev : beltV d t (b :: bs) = none := by unfold beltV; rw [e]; rfl
      have ib := q_is_belt hb
      simp only [tI, List.map_cons] at ib
      simp [m_belt_after, ts_tuple, fz_tris, fz_ints, q1, ib, ev]
    | some q =>
      rw [e] at q1
      obtain ⟨g0, g1⟩ := h3 q e
      have sq := few_sz o h e
      have dp := KF.den_pos' q
      have v0 : 0 ≤ q.num / (q.den : Int) := Int.ediv_nonneg (Rat.num_nonneg.mpr g0) (by omega)
      have dv := op_ii_div (i := q.num) dp sq.d.sm
      have mu := op_ii_mul (i := q.num / (q.den : Int)) (j := b) (sm_small (by omega) (by omega)) (sm_small (by omega) (by omega))
      have m0 : 0 ≤ q.num / (q.den : Int) * b := Int.mul_nonneg v0 (by omega)
      have m1 : q.num / (q.den : Int) * b ≤ 1000000000000 * 400 := Int.mul_le_mul g1 (by omega) (by omega) (by decide)
      have qm := q_marks_after hb m0 (by omega)
      have ev : beltV d t (b :: bs) = some (after (b :: bs) (q.num / (q.den : Int) * b)) := by unfold beltV; rw [e]; rfl
      have ib := q_is_belt hb
      simp only [tI, List.map_cons] at ib qm
      simp [m_belt_after, ts_tuple, fz_tris, fz_ints, q1, ib, dv, mu, qm, ev]) 3
noncomputable def c_odometer_after := fn2 (fun (r : Int) (t : List (Tri Int Int Int)) => (0 ≤ r ∧ r ≤ 1000000) ∧ TripOk t) (fun r t => r + (t.map (·.a)).sum / 1000)
theorem q_odometer_after {r : Int} {t : List (Tri Int Int Int)} (h : 0 ≤ r) (h1 : r ≤ 1000000) (h2 : TripOk t) : c_odometer_after [.int r, .tuple (t.map triD)] = some (.int (r + (t.map (·.a)).sum / 1000)) := fn2_eq (a := r) (b := t) ⟨⟨h, h1⟩, h2⟩
theorem l_odometer_after : ∀ ds d, ds.length = 2 → c_odometer_after ds = some d → m_odometer_after c_is_within c_is_trip (seP d) (envP ds 1) := fn2_law (fun r t ⟨⟨h, h1⟩, h2⟩ => by
  have hl := h2.len
  have lc : compL (bName 2) bTrue (eFrz (e2 gIx (eVar 2) (eC (.int 0)))) [.ow (.int r), .ow (.tuple (t.map triD)), .no] (t.map triD) = some ((t.map (·.a)).map .int) := by
    rw [lcMap (h := fun p : Tri Int Int Int => .int p.a)]
    · simp
    · intro p _
      simp
  have d3 := op_ii_div (i := (t.map (·.a)).sum) (j := 1000) (by decide) (sm_small (by decide) (by decide))
  simp [m_odometer_after, ts_tuple, fz_tris, q_is_trip h2, h, h1, capL (show t.length ≤ 1000 by omega)]
  rw [lc]
  have gs := gl_sum (ns := t.map (·.a))
  simp at gs
  simp [gs, d3]) 2
def topL (d : Drv) (l : Int) : List Int := ((List.range 100).filter fun i : Nat => !decide (goodL d ⟨1, 1 + (i : Int), l⟩ = [])).map fun i : Nat => 1 + (i : Int)
noncomputable def c_top_speed := fn2 (fun (d : Drv) (l : Int) => DrvOk d ∧ 0 ≤ l ∧ l ≤ 10000) (fun d l => (topL d l).getLast?)
theorem q_top_speed {d : Drv} {l : Int} (h : DrvOk d) (h1 : 0 ≤ l) (h2 : l ≤ 10000) : c_top_speed [drvD d, .int l] = some (encO (topL d l).getLast?) := fn2_eq (a := d) (b := l) ⟨h, h1, h2⟩
theorem rg100 : giRg2 [.int 1, .int 101] = some ((List.range 100).map fun i : Nat => PyData.int (1 + (i : Int))) := by
  rw [rg2_of (by decide) (by decide) (by decide) (by decide)]
  rfl
theorem cn_li {xs : List Int} : cmpNe (.list (xs.map .int)) (.list []) = some (.bool (!decide (xs = []))) := by
  cases xs with
  | nil => rfl
  | cons x xs =>
    have ok : ∀ n : Nat, okD (n + 2) (.list ((x :: xs).map .int)) := fun n => okD_list fun y hy => by
      obtain ⟨k, _, rfl⟩ := List.mem_map.mp hy
      exact okD_int
    rw [cn_of (okD_mono (ok 0) (by decide)) (show okD 40 (.list []) from okD_list (n := 39) fun y h => by cases h)]
    simp
    rfl
theorem l_top_speed : ∀ ds d, ds.length = 2 → c_top_speed ds = some d → m_top_speed c_gears_good c_is_within c_is_drive (seP d) (envP ds 2) := fn2_law (fun d l ⟨o, h1, h2⟩ => by
  have lc : compL (bName 3) (tst (e2 cmpNe (eFn 2 c_gears_good (aCons (eVar 0) (aCons (eTup (aCons (eC (.int 1)) (aCons (eFrz (eVar 3)) (aCons (eFrz (eVar 1)) aNil)))) aNil))) (eLst aNil))) (eFrz (eVar 3)) [.ow (drvD d), .ow (.int l), .no, .no] ((List.range 100).map fun i : Nat => PyData.int (1 + (i : Int))) = some ((topL d l).map .int) := by
    rw [lcFilter (p := fun i : Nat => !decide (goodL d ⟨1, 1 + (i : Int), l⟩ = [])) (h := fun i : Nat => .int (1 + (i : Int)))]
    · simp [topL]
    · intro i hi
      have hi := List.mem_range.mp hi
      have q := q_gears_good o (p := ⟨1, 1 + (i : Int), l⟩) ⟨⟨by show (1 : Int) ≤ 1; decide, by show (1 : Int) ≤ 100000; decide⟩, ⟨by show 1 ≤ 1 + (i : Int); omega, by show 1 + (i : Int) ≤ 100; omega⟩, h1, h2⟩
      have cn := cn_ln (xs := goodL d ⟨1, 1 + (i : Int), l⟩)
      simp [q, cn]
      by_cases z : goodL d ⟨1, 1 + (i : Int), l⟩ = [] <;> simp [z]
  have cn := cn_li (xs := topL d l)
  have c1 : 100 ≤ cap := capL (by decide)
  simp [m_top_speed, q_is_drive o, h1, h2, rg100, c1, lc, cn]
  cases z : (topL d l).getLast? with
  | none =>
    have : topL d l = [] := List.getLast?_eq_none_iff.mp z
    simp [this]
  | some x =>
    have ne : topL d l ≠ [] := fun e => by rw [e] at z; cases z
    have ix : gIx (.list ((topL d l).map .int)) (.int (-1)) = some (.int x) := ixl_last (by rw [List.getLast?_map, z]; rfl)
    simp [ne, ix]) 2
noncomputable def c_check_gearbox := fn1 Box (fun _ => ())
theorem q_check_gearbox {rs : List Rat} (h : Box rs) : c_check_gearbox [.tuple (rs.map frD)] = some .none := fn1_eq (a := rs) h
theorem l_check_gearbox : ∀ ds d, ds.length = 1 → c_check_gearbox ds = some d → m_check_gearbox c_is_gearbox (seP d) (envP ds 0) := fn1_law (fun rs h => by
  simp [m_check_gearbox, ts_tuple, fz_frs, q_is_gearbox h]
  rfl) 1
noncomputable def c_check_both := fn2 (fun (rs : List Rat) (es : List (Int × Int)) => Box rs ∧ Eng es) (fun _ _ => ())
theorem q_check_both {rs : List Rat} {es : List (Int × Int)} (h : Box rs) (h1 : Eng es) : c_check_both [.tuple (rs.map frD), .tuple (es.map prD)] = some .none := fn2_eq (a := rs) (b := es) ⟨h, h1⟩
theorem l_check_both : ∀ ds d, ds.length = 2 → c_check_both ds = some d → m_check_both c_is_engine c_check_gearbox (seP d) (envP ds 0) := fn2_law (fun rs es ⟨h, h1⟩ => by
  simp [m_check_both, ts_tuple, fz_frs, fz_prs, q_check_gearbox h, q_is_engine h1]
  rfl) 2
structure Speed (q : Rat) : Prop where
  lo : 0 ≤ q.num
  hi : q.num ≤ 1000000
  den : (q.den : Int) ≤ 10000
theorem Speed.sz {q : Rat} (p : Speed q) : KF.Sz 20 q := ⟨KF.ib.of (by have := p.lo; omega) (by have := p.hi; omega), KF.ib.of (by have := KF.den_pos' q; omega) (by have := p.den; omega)⟩
noncomputable def c_is_speed := fn1 Speed (fun _ => true)
theorem q_is_speed {q : Rat} (h : Speed q) : c_is_speed [frD q] = some (.bool true) := fn1_eq (a := q) h
theorem l_is_speed : ∀ ds d, ds.length = 1 → c_is_speed ds = some d → m_is_speed c_is_fraction (seP d) (envP ds 0) := fn1_law (fun q p => by
  have h1 := p.lo
  have h2 := p.hi
  have h3 := p.den
  simp [m_is_speed, ts_tuple, h1, h2, h3]) 1
noncomputable def c_wheel_pulls_gearboxes := fn3 (fun (rs : List Rat) (es : List (Int × Int)) (w : Rat) => Box rs ∧ Eng es ∧ Speed w) pullsOf
theorem q_wheel_pulls_gearboxes {rs : List Rat} {es : List (Int × Int)} {w : Rat} (h : Box rs) (h1 : Eng es) (h2 : Speed w) : c_wheel_pulls_gearboxes [.tuple (rs.map frD), .tuple (es.map prD), frD w] = some (.tuple ((pullsOf rs es w).map encO)) := fn3_eq (a := rs) (b := es) (c := w) ⟨h, h1, h2⟩
theorem l_wheel_pulls_gearboxes : ∀ ds d, ds.length = 3 → c_wheel_pulls_gearboxes ds = some d → m_wheel_pulls_gearboxes c_pulls_of c_is_speed c_check_both (seP d) (envP ds 0) := fn3_law (fun rs es w ⟨h, h1, h2⟩ => by
  simp [m_wheel_pulls_gearboxes, ts_tuple, fz_frs, fz_prs, q_check_both h h1, q_is_speed h2, q_pulls_of h h1 (h2.sz.mono (by decide))]) 3
noncomputable def c_check_speed := fn3 (fun (rs : List Rat) (g : Nat) (w : Rat) => Box rs ∧ g < rs.length ∧ Speed w) (fun _ _ _ => ())
theorem q_check_speed {rs : List Rat} {g : Nat} {w : Rat} (h : Box rs) (h1 : g < rs.length) (h2 : Speed w) : c_check_speed [.tuple (rs.map frD), .int (g : Int), frD w] = some .none := fn3_eq (a := rs) (b := g) (c := w) ⟨h, h1, h2⟩
theorem l_check_speed : ∀ ds d, ds.length = 3 → c_check_speed ds = some d → m_check_speed c_is_speed c_is_within c_check_gearbox (seP d) (envP ds 0) := fn3_law (fun rs g w ⟨h, h1, h2⟩ => by
  have e : (g : Int) ≤ (rs.length : Int) - 1 := by omega
  simp [m_check_speed, natD, ts_tuple, fz_frs, q_check_gearbox h, q_is_speed h2, e]
  rfl) 3
noncomputable def c_revs_at := fn3 (fun (rs : List Rat) (g : Nat) (w : Rat) => Box rs ∧ g < rs.length ∧ Speed w) (fun rs g w => rs.getD g 0 * w)
theorem q_revs_at {rs : List Rat} {g : Nat} {w : Rat} (h : Box rs) (h1 : g < rs.length) (h2 : Speed w) : c_revs_at [.tuple (rs.map frD), .int (g : Int), frD w] = some (frD (rs.getD g 0 * w)) := fn3_eq (a := rs) (b := g) (c := w) ⟨h, h1, h2⟩
theorem l_revs_at : ∀ ds d, ds.length = 3 → c_revs_at ds = some d → m_revs_at c_times c_check_speed (seP d) (envP ds 0) := fn3_law (fun rs g w ⟨h, h1, h2⟩ => by
  have q := q_times ((h.sz _ (getD_rat h1)).mono (l := 1990) (by decide)) (h2.sz.mono (by decide))
  have ix := ix_rat h1
  generalize rs.getD g 0 = r at *
  simp [m_revs_at, natD, ts_tuple, fz_frs, q_check_speed h h1 h2, ix, q]) 3
noncomputable def c_wheel_at := fn3 (fun (rs : List Rat) (g : Nat) (w : Rat) => Box rs ∧ g < rs.length ∧ Speed w) (fun rs g w => w / rs.getD g 0)
theorem q_wheel_at {rs : List Rat} {g : Nat} {w : Rat} (h : Box rs) (h1 : g < rs.length) (h2 : Speed w) : c_wheel_at [.tuple (rs.map frD), .int (g : Int), frD w] = some (frD (w / rs.getD g 0)) := fn3_eq (a := rs) (b := g) (c := w) ⟨h, h1, h2⟩
theorem Part.ne {q : Rat} (p : Part q) : q ≠ 0 := fun e => by
  have := p.lo
  rw [e] at this
  exact absurd this (by decide)
theorem l_wheel_at : ∀ ds d, ds.length = 3 → c_wheel_at ds = some d → m_wheel_at c_over c_check_speed (seP d) (envP ds 0) := fn3_law (fun rs g w ⟨h, h1, h2⟩ => by
  have q := q_over (h2.sz.mono (l := 1990) (by decide)) ((h.sz _ (getD_rat h1)).mono (by decide)) (h.part _ (getD_rat h1)).ne
  have ix := ix_rat h1
  generalize rs.getD g 0 = r at *
  simp [m_wheel_at, natD, ts_tuple, fz_frs, q_check_speed h h1 h2, ix, q]) 3
noncomputable def c_pull_at := fn2 (fun (es : List (Int × Int)) (w : Rat) => Eng es ∧ Speed w) pullOf
theorem q_pull_at {es : List (Int × Int)} {w : Rat} (h1 : Eng es) (h2 : Speed w) : c_pull_at [.tuple (es.map prD), frD w] = some (encO (pullOf es w)) := fn2_eq (a := es) (b := w) ⟨h1, h2⟩
theorem l_pull_at : ∀ ds d, ds.length = 2 → c_pull_at ds = some d → m_pull_at c_pull_of c_is_speed c_is_engine (seP d) (envP ds 0) := fn2_law (fun es w ⟨h1, h2⟩ => by
  simp [m_pull_at, ts_tuple, fz_prs, q_is_engine h1, q_is_speed h2, q_pull_of h1 (h2.sz.mono (by decide))]) 2
noncomputable def c_tops_of := fn2 (fun (rs : List Rat) (es : List (Int × Int)) => Box rs ∧ Eng es) (fun rs es => rs.map fun r => (((es.getLastD (0, 0)).1 : Int) : Rat) / r)
theorem q_tops_of {rs : List Rat} {es : List (Int × Int)} (h : Box rs) (h1 : Eng es) : c_tops_of [.tuple (rs.map frD), .tuple (es.map prD)] = some (.tuple ((rs.map fun r => (((es.getLastD (0, 0)).1 : Int) : Rat) / r).map frD)) := fn2_eq (a := rs) (b := es) ⟨h, h1⟩
theorem eng_last {es : List (Int × Int)} (h : Eng es) : gIx (.tuple (es.map prD)) (.int (-1)) = some (prD (es.getLastD (0, 0))) ∧ es.getLastD (0, 0) ∈ es := by
  have ne : es ≠ [] := fun z => by have := h.ne; simp [z] at this
  constructor
  · refine ix_last ?_
    rw [List.getLast?_map, List.getLastD_eq_getLast?, List.getLast?_eq_some_getLast ne]
    rfl
  · rw [List.getLastD_eq_getLast?, List.getLast?_eq_some_getLast ne]
    exact List.getLast_mem ne
theorem l_tops_of : ∀ ds d, ds.length = 2 → c_tops_of ds = some d → m_tops_of c_over c_check_both (seP d) (envP ds 1) := fn2_law (fun rs es ⟨h, h1⟩ => by
  have hl := h.len
  obtain ⟨il, lm⟩ := eng_last h1
  have lc : ∀ r : Int × Int, r = es.getLastD (0, 0) → compL (bName 2) bTrue (eFn 2 c_over (aCons (eTup (aCons (eFrz (e2 gIx (e2 gIx (eVar 1) (e1 gNeg (eC (.int 1)))) (eC (.int 0)))) (aCons (eC (.int 1)) aNil))) (aCons (eVar 2) aNil))) [.ow (.tuple (rs.map frD)), .ow (.tuple (es.map prD)), .no] (rs.map frD) = some (rs.map fun q => frD ((r.1 : Rat) / q)) := fun r hr => lcMap fun x hx => by
    have q := q_over ((h1.szI lm).mono (l := 1990) (by decide)) ((h.sz x hx).mono (by decide)) (h.part x hx).ne
    rw [frD_int, ← hr] at q
    rw [← hr] at il
    simp [il, q]
  have fz : frozenL (rs.map fun q => frD (((es.getLastD (0, 0)).1 : Rat) / q)) = true := fz_map (fun _ => rfl) _
  have tp := gl_tupL fz
  have l := lc _ rfl
  generalize es.getLastD (0, 0) = z at *
  simp [m_tops_of, ts_tuple, fz_frs, fz_prs, q_check_both h h1, capL (show rs.length ≤ 1000 by omega), l, tp]) 2
noncomputable def c_steps_of := fn1 Box (fun rs => (rs.zip rs.tail).map fun p => p.1 / p.2)
theorem q_steps_of {rs : List Rat} (h : Box rs) : c_steps_of [.tuple (rs.map frD)] = some (.tuple (((rs.zip rs.tail).map fun p => p.1 / p.2).map frD)) := fn1_eq (a := rs) h
theorem l_steps_of : ∀ ds d, ds.length = 1 → c_steps_of ds = some d → m_steps_of c_over c_check_gearbox (seP d) (envP ds 2) := fn1_law (fun rs h => by
  have hl := h.len
  have c2 : rs.length ≤ cap + 1 := Nat.le_succ_of_le (capL (by omega))
  have lc : compL (bTup (bCons (bName 1) (bCons (bName 2) bNil))) bTrue (eFn 2 c_over (aCons (eVar 1) (aCons (eVar 2) aNil))) [.ow (.tuple (rs.map frD)), .no, .no] ((rs.zip rs.tail).map fun p => .tuple [frD p.1, frD p.2]) = some ((rs.zip rs.tail).map fun p => frD (p.1 / p.2)) := lcMap fun p hp => by
    have m := zip_tl hp
    have q := q_over ((h.sz _ m.1).mono (l := 1990) (by decide)) ((h.sz _ m.2).mono (by decide)) (h.part _ m.2).ne
    simp [q]
  have fz : frozenL ((rs.zip rs.tail).map fun p => frD (p.1 / p.2)) = true := fz_map (fun _ => rfl) _
  have tp := gl_tupL fz
  have sl := sl_tail (xs := rs) fz_frs
  simp [m_steps_of, ts_tuple, fz_frs, q_check_gearbox h, sl, gi_tail, c2]
  rw [lc]
  simp [tp]) 1
/-- a written fraction -/
structure Fb (k : Nat) (p : Int × Int) : Prop where
  n : KF.ib k p.1
  d : KF.ib k p.2
  ne : p.2 ≠ 0
def prV (p : Int × Int) : Rat := Rat.divInt p.1 p.2
theorem prV_rat (q : Rat) : prV (q.num, (q.den : Int)) = q := Rat.num_divInt_den q
theorem prD_rat (q : Rat) : prD (q.num, (q.den : Int)) = frD q := rfl
theorem fb_rat {q : Rat} {k : Nat} (h : KF.Sz k q) : Fb k (q.num, (q.den : Int)) := ⟨h.n, h.d, KF.den_ne' q⟩
theorem Fb.mono {k l : Nat} {p : Int × Int} (h : Fb k p) (hl : k ≤ l) : Fb l p := ⟨h.n.mono hl, h.d.mono hl, h.ne⟩
theorem prV_mul {a b : Int × Int} : Rat.divInt (a.1 * b.1) (a.2 * b.2) = prV a * prV b := (Rat.divInt_mul_divInt _ _).symm
theorem prV_add {a b : Int × Int} (ha : a.2 ≠ 0) (hb : b.2 ≠ 0) : Rat.divInt (a.1 * b.2 + b.1 * a.2) (a.2 * b.2) = prV a + prV b := (Rat.divInt_add_divInt _ _ ha hb).symm
noncomputable def c_law_low := fn2 (fun t b : Int => b ≠ 0 ∧ KF.ib 4000 b) (fun t b => Rat.divInt t b)
theorem q_law_low {t b : Int} (h : b ≠ 0) (h2 : KF.ib 4000 b) : c_law_low [.int t, .int b] = some (frD (Rat.divInt t b)) := fn2_eq (a := t) (b := b) ⟨h, h2⟩
theorem law_low_pos {t b : Int} (hb : 0 < b) (h2 : KF.ib 4000 b) {S : SE} (hS : ∀ e, S.rt (frD (Rat.divInt t b)) e) :
    (sSeq (sPar 2 3 (mP (eCall gAbs (aCons (eVar 0) aNil))) (mVar 1)) (sSeq (sWhile (mT (tst (e2 cmpGt (eVar 3) (eC (.int 0))))) (sPar 2 3 (mVar 3) (mP (e2 gMod (eCall gInt (aCons (eVar 2) aNil)) (eVar 3)))))
      (sRet (mP (eTup (aCons (e2 gFdiv (eVar 0) (eVar 2)) (aCons (e2 gFdiv (eVar 1) (eVar 2)) aNil))))))) S [.ow (.int t), .ow (.int b), .no, .no] := by
  have ea : (if t < 0 then -t else t) = (t.natAbs : Int) := by split <;> omega
  have eb : b = (b.natAbs : Int) := by omega
  simp only [ev_seq, ev_par, ev_mP, ev_call, ev_acons, ev_anil, ev_var, ev_get0, ev_val1, Option.bind_some, gl_abs, ea, Option.map_some, ev_os, ev_mvarS, ev_mvar0, fz_int, if_true, List.getElem?_cons_succ, List.getElem?_cons_zero, ev_io3, List.set_cons_succ, List.set_cons_zero, true_and]
  refine wh_inv (fun m e => ∃ x y : Nat, e = [.ow (.int t), .ow (.int b), .ow (.int (x : Int)), .ow (.int (y : Int))] ∧ m = y ∧ Nat.gcd x y = Int.gcd t b) ?_ (m := b.natAbs) ⟨t.natAbs, b.natAbs, by rw [← eb], rfl, rfl⟩
  rintro m e S' ⟨x, y, rfl, rfl, g⟩ hrt hbk hn _
  by_cases hy : 0 < m
  · have hm : (0 : Int) < (m : Int) := by omega
    have em : ((x : Int) % (m : Int)) = ((x % m : Nat) : Int) := by simp
    simp only [ev_mT, ev_tst, ev_e2, ev_var, ev_c, ev_call, ev_acons, ev_anil, gl_int, ev_get0, ev_getS, ev_val1, Option.bind_some, cg_ii, ev_toB, Option.map_some, ev_os, decide_eq_true hm, if_true, ev_par, ev_mvarS, ev_mvar0, fz_int, ev_mP, op_ii_mod hm, em, List.getElem?_cons_succ, List.getElem?_cons_zero, ev_io1, List.set_cons_succ, List.set_cons_zero, true_and]
    exact hn (x % m) _ (Nat.mod_lt _ hy) ⟨m, x % m, rfl, rfl, by rw [← g, Nat.gcd_comm x m, Nat.gcd_rec m x, Nat.gcd_comm]⟩
  · have h0 : m = 0 := by omega
    subst h0
    have ex : x = Int.gcd t b := by simpa using g
    have gs := gcd_sm (t := t) (b := b) (by omega) h2
    have e1 := KF.num_gcd t b hb
    have e2 := KF.den_gcd t b hb
    have fin : ∀ e, S.rt (.tuple [.int (t / (Int.gcd t b : Int)), .int (b / (Int.gcd t b : Int))]) e := by
      intro e
      have := hS e
      rw [frD, e1, e2] at this
      exact this
    simp [ex, op_ii_div gs.1 gs.2]
    exact fin _
theorem l_law_low : ∀ ds d, ds.length = 2 → c_law_low ds = some d → m_law_low (seP d) (envP ds 2) := fn2_law (fun t b ⟨h, h2⟩ => by
  unfold m_law_low
  by_cases hb : b < 0
  · have e : Rat.divInt t b = Rat.divInt (-t) (-b) := (Rat.neg_divInt_neg t b).symm
    have := law_low_pos (t := -t) (b := -b) (by omega) h2.neg (S := seP (frD (Rat.divInt t b))) (fun _ => by rw [e]; rfl)
    rw [ev_seq]
    simp [hb]
    simpa using this
  · have := law_low_pos (t := t) (b := b) (by omega) h2 (S := seP (frD (Rat.divInt t b))) (fun _ => rfl)
    rw [ev_seq]
    simp [hb]
    simpa using this) 2
noncomputable def c_law_times := fn2 (fun a b : Int × Int => Fb 1990 a ∧ Fb 1990 b) (fun a b => prV a * prV b)
theorem q_law_times' {a b : Int × Int} (h1 : Fb 1990 a) (h2 : Fb 1990 b) : c_law_times [prD a, prD b] = some (frD (prV a * prV b)) := fn2_eq (a := a) (b := b) ⟨h1, h2⟩
theorem q_law_times {a b : Rat} (h1 : KF.Sz 1990 a) (h2 : KF.Sz 1990 b) : c_law_times [frD a, frD b] = some (frD (a * b)) := by
  have := q_law_times' (fb_rat h1) (fb_rat h2)
  rwa [prV_rat, prV_rat] at this
theorem l_law_times : ∀ ds d, ds.length = 2 → c_law_times ds = some d → m_law_times c_law_low (seP d) (envP ds 0) := fn2_law (fun a b ⟨h1, h2⟩ => by
  have e := q_law_low (t := a.1 * b.1) (b := a.2 * b.2) (Int.mul_ne_zero h1.ne h2.ne) ((h1.d.mul h2.d).mono (by decide))
  rw [prV_mul] at e
  simp [m_law_times, ts_tuple, op_ii_mul (h1.n.sm) (h2.n.sm), op_ii_mul (h1.d.sm) (h2.d.sm), e]) 2
noncomputable def c_law_plus := fn2 (fun a b : Int × Int => Fb 1990 a ∧ Fb 1990 b) (fun a b => prV a + prV b)
theorem q_law_plus' {a b : Int × Int} (h1 : Fb 1990 a) (h2 : Fb 1990 b) : c_law_plus [prD a, prD b] = some (frD (prV a + prV b)) := fn2_eq (a := a) (b := b) ⟨h1, h2⟩
theorem q_law_plus {a b : Rat} (h1 : KF.Sz 1990 a) (h2 : KF.Sz 1990 b) : c_law_plus [frD a, frD b] = some (frD (a + b)) := by
  have := q_law_plus' (fb_rat h1) (fb_rat h2)
  rwa [prV_rat, prV_rat] at this
theorem l_law_plus : ∀ ds d, ds.length = 2 → c_law_plus ds = some d → m_law_plus c_law_low (seP d) (envP ds 0) := fn2_law (fun a b ⟨h1, h2⟩ => by
  have e := q_law_low (t := a.1 * b.2 + b.1 * a.2) (b := a.2 * b.2) (Int.mul_ne_zero h1.ne h2.ne) ((h1.d.mul h2.d).mono (by decide))
  rw [prV_add h1.ne h2.ne] at e
  simp [m_law_plus, ts_tuple, op_ii_mul (h1.n.sm) (h2.d.sm), op_ii_mul (h2.n.sm) (h1.d.sm), op_ii_mul (h1.d.sm) (h2.d.sm), e]) 2
noncomputable def c_law_is_less := fn2 (fun a b : Int × Int => (Fb 4000 a ∧ Fb 4000 b) ∧ 0 < a.2 ∧ 0 < b.2) (fun a b => decide (a.1 * b.2 < b.1 * a.2))
theorem q_law_is_less' {a b : Int × Int} (h1 : Fb 4000 a) (h2 : Fb 4000 b) (h3 : 0 < a.2) (h4 : 0 < b.2) : c_law_is_less [prD a, prD b] = some (.bool (decide (a.1 * b.2 < b.1 * a.2))) := fn2_eq (a := a) (b := b) ⟨⟨h1, h2⟩, h3, h4⟩
theorem q_law_is_less {a b : Rat} (h1 : KF.Sz 4000 a) (h2 : KF.Sz 4000 b) : c_law_is_less [frD a, frD b] = some (.bool (decide (a < b))) := by
  have := q_law_is_less' (fb_rat h1) (fb_rat h2) (KF.den_pos' a) (KF.den_pos' b)
  rw [this]
  congr 2
  rw [decide_eq_decide, Rat.lt_iff]
theorem l_law_is_less : ∀ ds d, ds.length = 2 → c_law_is_less ds = some d → m_law_is_less (seP d) (envP ds 0) := fn2_law (fun a b ⟨⟨h1, h2⟩, h3, h4⟩ => by
  simp [m_law_is_less, ts_tuple, op_ii_mul (h1.n.sm) (h2.d.sm), op_ii_mul (h2.n.sm) (h1.d.sm)]) 2
noncomputable def c_law_sum := fn1 (fun xs : Lst Rat => xs.of.length ≤ 10 ∧ ∀ x ∈ xs.of, KF.Sz 100 x) (fun xs => xs.of.sum)
theorem q_law_sum {xs : List Rat} (h1 : xs.length ≤ 10) (h2 : ∀ x ∈ xs, KF.Sz 100 x) : c_law_sum [.list (xs.map frD)] = some (frD xs.sum) := fn1_eq (a := Lst.mk xs) ⟨h1, h2⟩
theorem sum_sz' : ∀ (xs : List Rat), (∀ x ∈ xs, KF.Sz 100 x) → KF.Sz (101 * xs.length + 1) xs.sum
  | [], _ => ⟨by show (0 : Int).natAbs < _; decide, by show (1 : Nat) < 2 ^ 1; decide⟩
  | x :: xs, h => by
    have := (h x List.mem_cons_self).add (sum_sz' xs fun y hy => h y (List.mem_cons_of_mem _ hy))
    rw [List.sum_cons]
    exact this.mono (by simp; omega)
theorem sum_snoc' (xs : List Rat) (x : Rat) : (xs ++ [x]).sum = xs.sum + x := by
  induction xs with
  | nil => simp [Rat.add_zero, Rat.zero_add]
  | cons y ys ih => rw [List.cons_append, List.sum_cons, List.sum_cons, ih, Rat.add_assoc]
theorem l_law_sum : ∀ ds d, ds.length = 1 → c_law_sum ds = some d → m_law_sum c_law_plus (seP d) (envP ds 2) := fn1_law (fun ⟨xs⟩ ⟨h1, h2⟩ => by
  simp [m_law_sum, toSl] at h1 h2 ⊢
  refine fm_inv (f := frD) (xs := xs) (fun pre e => ∃ s2, notIo (some s2) = true ∧ e = [.bo (.list (xs.map frD)), .ow (frD pre.sum), s2]) ?_ ?_ ⟨.no, rfl, rfl⟩
  · rintro pre x post e S' hx ⟨s2, h2', rfl⟩ hrt hbk hn _
    have hpre : ∀ y ∈ pre, KF.Sz 100 y := fun y hy => h2 y (by rw [hx]; exact List.mem_append_left _ hy)
    have hxx : KF.Sz 100 x := h2 x (by rw [hx]; simp)
    have sz := sum_sz' pre hpre
    have hl : pre.length ≤ 10 := by rw [hx] at h1; simp at h1; omega
    have q := q_law_plus (sz.mono (by omega)) (hxx.mono (by decide))
    rw [← sum_snoc'] at q
    simp [h2', q]
    exact hn _ ⟨.ow (frD x), rfl, by simp [toSl]⟩
  · rintro e ⟨s2, _, rfl⟩
    simp) 1
end KK

set_option Elab.async false
set_option linter.all false
set_option maxRecDepth 100000
set_option maxHeartbeats 4000000
namespace KK
open PySem PySem.Spec PyProof.Rows L2 Pd Gen
theorem num_mul_le (a b : Rat) : (a * b).num.natAbs ≤ a.num.natAbs * b.num.natAbs ∧ (a * b).den ≤ a.den * b.den := by
  rw [← KF.mul_div]
  have hd : ((a.den : Int) * (b.den : Int)) ≠ 0 := Int.mul_ne_zero (KF.den_ne' a) (KF.den_ne' b)
  constructor
  · rw [Rat.num_divInt]
    have e1 : (((a.den : Int) * (b.den : Int)).sign * (a.num * b.num) / ((((a.den : Int) * (b.den : Int))).gcd (a.num * b.num) : Int)).natAbs ≤ _ := Int.natAbs_ediv_le_natAbs _ _
    refine Nat.le_trans e1 ?_
    rw [Int.natAbs_mul, Int.natAbs_sign_of_ne_zero hd, Nat.one_mul, Int.natAbs_mul]
    exact Nat.le_refl _
  · rw [Rat.den_divInt, if_neg hd]
    refine Nat.le_trans (Nat.div_le_self _ _) ?_
    rw [Int.natAbs_mul]
    exact Nat.le_refl _
theorem divInt_le {t b : Int} (h : b ≠ 0) : (Rat.divInt t b).num.natAbs ≤ t.natAbs ∧ (Rat.divInt t b).den ≤ b.natAbs := by
  constructor
  · rw [Rat.num_divInt]
    refine Nat.le_trans (Int.natAbs_ediv_le_natAbs _ _) ?_
    rw [Int.natAbs_mul, Int.natAbs_sign_of_ne_zero h, Nat.one_mul]
    exact Nat.le_refl _
  · rw [Rat.den_divInt, if_neg h]
    exact Nat.div_le_self _ _
def twoThird : Rat := Rat.divInt 2 3
theorem tt_num : twoThird.num = 2 ∧ twoThird.den = 3 := by unfold twoThird; decide +kernel
def boxFrom : Rat → Nat → List Rat
  | _, 0 => []
  | r, k + 1 => r :: boxFrom (r * twoThird) k
/-- the gear's ratio -/
structure Gr (N M : Nat) (r : Rat) : Prop where
  pos : 0 < r
  n : r.num.natAbs ≤ N
  d : r.den ≤ M
theorem Gr.next {N M : Nat} {r : Rat} (g : Gr N M r) : Gr (2 * N) (3 * M) (r * twoThird) := by
  obtain ⟨a, b⟩ := num_mul_le r twoThird
  rw [tt_num.1] at a
  rw [tt_num.2] at b
  refine ⟨Rat.mul_pos g.pos (by unfold twoThird; decide +kernel), ?_, ?_⟩
  · have := g.n
    have e : (2 : Int).natAbs = 2 := rfl
    rw [e] at a
    omega
  · have := g.d
    omega
theorem Gr.part {N M : Nat} {r : Rat} (g : Gr N M r) (hN : N ≤ 10000) (hM : M ≤ 10000) : Part r := by
  have := g.n
  have := g.d
  have p : 0 < r.num := by
    have := g.pos
    rw [Rat.lt_iff] at this
    simpa using this
  exact ⟨by omega, by omega, by omega⟩
theorem tt_lt {r : Rat} (h : 0 < r) : r * twoThird < r := by
  have : twoThird < 1 := by unfold twoThird; decide +kernel
  have := Rat.mul_lt_mul_of_pos_left this h
  simpa using this
theorem box_len : ∀ (k : Nat) (r : Rat), (boxFrom r k).length = k
  | 0, _ => rfl
  | k + 1, r => by rw [boxFrom, List.length_cons, box_len k]
theorem box_gr : ∀ (k : Nat) (r : Rat) (N M : Nat), Gr N M r → ∀ x ∈ boxFrom r k, Gr (N * 2 ^ k) (M * 3 ^ k) x
  | 0, _, _, _, _, x, h => nomatch h
  | k + 1, r, N, M, g, x, h => by
    rcases List.mem_cons.mp h with rfl | h
    · refine ⟨g.pos, Nat.le_trans g.n ?_, Nat.le_trans g.d ?_⟩
      · exact Nat.le_mul_of_pos_right _ (Nat.two_pow_pos _)
      · exact Nat.le_mul_of_pos_right _ (Nat.pow_pos (by decide))
    · have := box_gr k _ _ _ g.next x h
      refine ⟨this.pos, Nat.le_trans this.n (Nat.le_of_eq ?_), Nat.le_trans this.d (Nat.le_of_eq ?_)⟩
      · rw [Nat.pow_succ, Nat.mul_comm 2 N, Nat.mul_assoc, Nat.mul_comm 2]
      · rw [Nat.pow_succ, Nat.mul_comm 3 M, Nat.mul_assoc, Nat.mul_comm 3]
theorem box_step : ∀ (k : Nat) (r : Rat), ∀ p ∈ (boxFrom r k).zip (boxFrom r k).tail, p.2 = p.1 * twoThird
  | 0, _, p, h => nomatch h
  | 1, r, p, h => by simp [boxFrom] at h
  | k + 2, r, p, h => by
    have ih := box_step (k + 1) (r * twoThird)
    rw [boxFrom, boxFrom, List.tail_cons, List.zip_cons_cons] at h
    rcases List.mem_cons.mp h with rfl | h
    · rfl
    · exact ih p (by rw [boxFrom]; exact h)
theorem box_ok {r : Rat} {k : Nat} (g : Gr 49 4 r) (h1 : 1 ≤ k) (h2 : k ≤ 4) : Box (boxFrom r k) := by
  have hg := box_gr k r 49 4 g
  have p2 : (2 : Nat) ^ k ≤ 2 ^ 4 := Nat.pow_le_pow_right (by decide) h2
  have p3 : (3 : Nat) ^ k ≤ 3 ^ 4 := Nat.pow_le_pow_right (by decide) h2
  refine ⟨by rw [box_len]; exact h1, by rw [box_len]; omega, fun q hq => (hg q hq).part (by omega) (by omega), fun p hp => ?_⟩
  rw [box_step k r p hp]
  exact tt_lt (hg _ (List.of_mem_zip hp).1).pos
/-! the drawn drive -/
structure EngSt where
  h : Hand
  revs : Int
  es : List (Int × Int)
def engStep (s : EngSt) : EngSt := ⟨((s.h.draw 2500).2.draw 300).2, s.revs + 1 + (s.h.draw 2500).1, s.es ++ [(s.revs + 1 + (s.h.draw 2500).1, ((s.h.draw 2500).2.draw 300).1)]⟩
structure EngI (n : Int) (k : Nat) (s : EngSt) : Prop where
  o : s.h.Ok (n + 2 * (k : Int))
  len : s.es.length = k
  revs : 0 ≤ s.revs ∧ s.revs ≤ 2500 * (k : Int)
  lim : ∀ p ∈ s.es, (1 ≤ p.1 ∧ p.1 ≤ s.revs) ∧ 0 ≤ p.2 ∧ p.2 ≤ 299
  asc : ∀ p ∈ s.es.zip s.es.tail, p.1.1 < p.2.1
theorem zip_tail_snoc {α : Type} : ∀ (xs : List α) (y : α) (p : α × α), p ∈ (xs ++ [y]).zip (xs ++ [y]).tail → p ∈ xs.zip xs.tail ∨ (p.1 ∈ xs ∧ p.2 = y)
  | [], y, p, h => by simp at h
  | [x], y, p, h => by
    simp at h
    subst h
    exact .inr ⟨by simp, rfl⟩
  | x :: x2 :: xs, y, p, h => by
    rw [List.cons_append, List.tail_cons, List.cons_append, List.zip_cons_cons] at h
    rcases List.mem_cons.mp h with rfl | h
    · exact .inl (by simp)
    · have := zip_tail_snoc (x2 :: xs) y p (by rw [List.cons_append, List.tail_cons]; exact h)
      rcases this with h | ⟨h1, h2⟩
      · exact .inl (by rw [List.tail_cons, List.zip_cons_cons]; exact List.mem_cons_of_mem _ h)
      · exact .inr ⟨List.mem_cons_of_mem _ h1, h2⟩
theorem EngI.step {n : Int} {k : Nat} {s : EngSt} (i : EngI n k s) : EngI n (k + 1) (engStep s) := by
  obtain ⟨o1, a0, a1⟩ := i.o.draw (many := 2500) (by decide)
  obtain ⟨o2, b0, b1⟩ := o1.draw (many := 300) (by decide)
  have r := i.revs
  refine ⟨o2.mono (by omega), by simp [engStep, i.len], ⟨by show 0 ≤ s.revs + 1 + _; omega, by show s.revs + 1 + _ ≤ _; omega⟩, fun p hp => ?_, fun p hp => ?_⟩
  · rcases List.mem_append.mp hp with hp | hp
    · have := i.lim p hp
      refine ⟨⟨this.1.1, ?_⟩, this.2⟩
      show p.1 ≤ s.revs + 1 + _
      omega
    · rcases List.mem_singleton.mp hp with rfl
      refine ⟨⟨?_, Int.le_refl _⟩, b0, ?_⟩
      · show 1 ≤ s.revs + 1 + _
        omega
      · show ((s.h.draw 2500).2.draw 300).1 ≤ 299
        omega
  · rcases zip_tail_snoc _ _ p hp with hp | ⟨h1, h2⟩
    · exact i.asc p hp
    · have := i.lim _ h1
      rw [h2]
      show p.1.1 < s.revs + 1 + _
      omega
structure DrvGood (d : Drv) : Prop where
  ok : DrvOk d
  a : 5 ≤ d.a ∧ d.a ≤ 44
  b : 5 ≤ d.b ∧ d.b ≤ 44
  box : ∃ r k, d.box = boxFrom r k ∧ Gr 49 4 r ∧ 1 ≤ k ∧ k ≤ 4
  elen : d.eng.length ≤ 3
def hA (h : Hand) : Hand := ((h.draw 30).2.draw 4).2
def boxR (h : Hand) : Rat := Rat.divInt (20 + (h.draw 30).1) (1 + ((h.draw 30).2.draw 4).1)
def boxN (h : Hand) : Nat := (1 + ((hA h).draw 4).1).toNat
def engN (h : Hand) : Nat := (1 + (((hA h).draw 4).2.draw 3).1).toNat
def engS (h : Hand) : EngSt := iter engStep (engN h) ⟨(((hA h).draw 4).2.draw 3).2, 0, []⟩
def driveOf (h : Hand) : Drv := ⟨5 + ((engS h).h.draw 40).1, 5 + (((engS h).h.draw 40).2.draw 40).1, boxFrom (boxR h) (boxN h), (engS h).es, 500 + ((((engS h).h.draw 40).2.draw 40).2.draw 2500).1⟩
def driveH (h : Hand) : Hand := ((((engS h).h.draw 40).2.draw 40).2.draw 2500).2
theorem drive_spec {h : Hand} {n : Int} (o : h.Ok n) : DrvGood (driveOf h) ∧ (driveH h).Ok (n + 20) ∧ (1 ≤ boxN h ∧ boxN h ≤ 4) ∧ (1 ≤ engN h ∧ engN h ≤ 3) ∧ Gr 49 4 (boxR h) ∧ (hA h).Ok (n + 2) ∧ (((hA h).draw 4).2.draw 3).2.Ok (n + 4) := by
  obtain ⟨o1, a0, a1⟩ := o.draw (many := 30) (by decide)
  obtain ⟨o2, b0, b1⟩ := o1.draw (many := 4) (by decide)
  obtain ⟨o3, c0, c1⟩ := o2.draw (many := 4) (by decide)
  obtain ⟨o4, d0, d1⟩ := o3.draw (many := 3) (by decide)
  have hbn : 1 ≤ boxN h ∧ boxN h ≤ 4 := by unfold boxN hA; omega
  have hen : 1 ≤ engN h ∧ engN h ≤ 3 := by unfold engN hA; omega
  have i := iter_inv (f := engStep) (EngI (n + 4)) (n := engN h) (fun k s _ q => q.step) (s := ⟨(((hA h).draw 4).2.draw 3).2, 0, []⟩) ⟨o4.mono (by omega), rfl, ⟨Int.le_refl 0, by show (0 : Int) ≤ 2500 * ((0 : Nat) : Int); decide⟩, by simp, by simp⟩ (engN h) (Nat.le_refl _)
  have ie : EngI (n + 4) (engN h) (engS h) := i
  obtain ⟨o5, p0, p1⟩ := ie.o.draw (many := 40) (by decide)
  obtain ⟨o6, q0, q1⟩ := o5.draw (many := 40) (by decide)
  obtain ⟨o7, m0, m1⟩ := o6.draw (many := 2500) (by decide)
  have gr : Gr 49 4 (boxR h) := by
    have e : 1 + ((h.draw 30).2.draw 4).1 ≠ 0 := by omega
    obtain ⟨x, y⟩ := divInt_le (t := 20 + (h.draw 30).1) e
    refine ⟨?_, Nat.le_trans x (by omega), Nat.le_trans y (by omega)⟩
    unfold boxR
    have pos : 0 < (Rat.divInt (20 + (h.draw 30).1) (1 + ((h.draw 30).2.draw 4).1)) := by
      rw [Rat.divInt_eq_div, Rat.div_def]
      refine Rat.mul_pos ?_ (Rat.inv_pos.mpr ?_)
      · exact Rat.intCast_pos.mpr (by omega)
      · exact Rat.intCast_pos.mpr (by omega)
    exact pos
  have en : Eng (engS h).es := by
    have := ie.len
    have := ie.revs
    refine ⟨by omega, by omega, fun p hp => ?_, ie.asc⟩
    have := ie.lim p hp
    refine ⟨⟨this.1.1, by omega⟩, this.2.1, by omega⟩
  refine ⟨⟨⟨?_, ?_, box_ok gr hbn.1 hbn.2, en, ?_⟩, ?_, ?_, ⟨_, _, rfl, gr, hbn.1, hbn.2⟩, ?_⟩, o7.mono (by omega), hbn, hen, gr, o2.mono (by omega), o4.mono (by omega)⟩
  · show 2 ≤ 5 + _ ∧ 5 + _ ≤ 200; omega
  · show 2 ≤ 5 + _ ∧ 5 + _ ≤ 200; omega
  · show 500 ≤ 500 + _ ∧ 500 + _ ≤ 3000; omega
  · show 5 ≤ 5 + _ ∧ 5 + _ ≤ 44; omega
  · show 5 ≤ 5 + _ ∧ 5 + _ ≤ 44; omega
  · have := ie.len
    show (engS h).es.length ≤ 3
    omega
noncomputable def c_law_drive := hf0 (fun h => h.Ok 900000) (fun h => drvD (driveOf h)) driveH
theorem q_law_drive {h : Hand} {n : Int} (o : h.Ok n) (hn : n ≤ 900000) : c_law_drive [handD h] = some (drvD (driveOf h), handD (driveH h)) := hf0_eq (o.mono hn)
theorem boxFrom_snoc : ∀ (k : Nat) (r : Rat), boxFrom r (k + 1) = boxFrom r k ++ [iter (· * twoThird) k r]
  | 0, r => rfl
  | k + 1, r => by
    rw [boxFrom, boxFrom_snoc k (r * twoThird), boxFrom, List.cons_append]
    congr 2
    have : ∀ (j : Nat) (q : Rat), iter (· * twoThird) j (q * twoThird) = iter (· * twoThird) (j + 1) q := by
      intro j
      induction j with
      | zero => intro q; rfl
      | succ j ih => intro q; show iter (· * twoThird) j (q * twoThird) * twoThird = _; rw [ih]; rfl
    rw [this]
theorem iter_sz {r : Rat} (h : KF.Sz 10 r) : ∀ k : Nat, KF.Sz (10 + 2 * k) (iter (· * twoThird) k r)
  | 0 => h
  | k + 1 => ((iter_sz h k).mul (l := 2) ⟨by rw [KF.ib, tt_num.1]; decide, by rw [KF.ib, tt_num.2]; decide⟩).mono (by omega)
theorem l_law_drive : ∀ dpre d dpost r d', dpre.length = 0 → dpre.length + 1 + dpost.length = 1 → c_law_drive (dpre ++ d :: dpost) = some (r, d') → m_law_drive c_law_draw c_law_times c_law_low (seI 0 r d') (envI dpre d dpost 6) := hf0_law (fun h o => by
  obtain ⟨sp, so, sb, se, sg, sA, sB⟩ := drive_spec o
  obtain ⟨o1, a0, a1⟩ := o.draw (many := 30) (by decide)
  obtain ⟨o2, b0, b1⟩ := o1.draw (many := 4) (by decide)
  obtain ⟨o3, c0, c1⟩ := o2.draw (many := 4) (by decide)
  have d1 := q_law_draw (h := h) (many := 30) (o.mono (by omega)) (by decide) (by decide)
  have d2 := q_law_draw (h := (h.draw 30).2) (many := 4) (o1.mono (by omega)) (by decide) (by decide)
  have d3 := q_law_draw (h := hA h) (many := 4) (sA.mono (by omega)) (by decide) (by decide)
  have d4 := q_law_draw (h := ((hA h).draw 4).2) (many := 3) (o3.mono (by omega)) (by decide) (by decide)
  have lw := q_law_low (t := 20 + (h.draw 30).1) (b := 1 + ((h.draw 30).2.draw 4).1) (by omega) ((KF.ib.of (k := 10) (by omega) (by omega)).mono (by decide))
  have eA : ((h.draw 30).2.draw 4).2 = hA h := rfl
  have eR : Rat.divInt (20 + (h.draw 30).1) (1 + ((h.draw 30).2.draw 4).1) = boxR h := rfl
  rw [eA] at d2
  rw [eR] at lw
  have rg := rg1_nat (n := boxN h) (by omega)
  have ebn : ((boxN h : Nat) : Int) = 1 + ((hA h).draw 4).1 := by have := sb.1; unfold boxN at this ⊢; omega
  rw [ebn] at rg
  have rg2 := rg1_nat (n := engN h) (by omega)
  have een : ((engN h : Nat) : Int) = 1 + (((hA h).draw 4).2.draw 3).1 := by have := se.1; unfold engN at this ⊢; omega
  rw [een] at rg2
  have szR : KF.Sz 10 (boxR h) := ⟨Nat.lt_of_le_of_lt sg.n (by decide), Nat.lt_of_le_of_lt (show (((boxR h).den : Nat) : Int).natAbs ≤ 4 from sg.d) (by decide)⟩
  simp [m_law_drive, d1, d2, lw, d3, rg]
  refine fm_inv (f := fun i : Nat => PyData.int (i : Int)) (xs := List.range (boxN h)) (fun pre e => ∃ s3, notIo (some s3) = true ∧ e = [.io (handD ((hA h).draw 4).2), .ow (.list ((boxFrom (boxR h) pre.length).map frD)), .ow (frD (iter (· * twoThird) pre.length (boxR h))), s3, .no, .no, .no]) ?_ ?_ ⟨.no, rfl, rfl⟩
  · rintro pre x post e S' hx ⟨s3, h3, rfl⟩ hrt hbk hn _
    obtain ⟨rfl, hlt⟩ := range_pre hx
    rw [List.length_range] at *
    have ga := fun y : D => g_app (xs := (boxFrom (boxR h) x).map frD) (x := y) (by simp [box_len]; omega)
    have q := q_law_times' (a := ((iter (· * twoThird) x (boxR h)).num, ((iter (· * twoThird) x (boxR h)).den : Int))) (b := (2, 3)) (fb_rat ((iter_sz szR x).mono (by omega))) ⟨(KF.ib.of (k := 2) (by decide) (by decide)).mono (by decide), (KF.ib.of (k := 2) (by decide) (by decide)).mono (by decide), by decide⟩
    rw [prV_rat, prD_rat] at q
    have e3 : prV (2, 3) = twoThird := rfl
    rw [e3] at q
    have sn := boxFrom_snoc x (boxR h)
    have hn' := hn [.io (handD ((hA h).draw 4).2), .ow (.list ((boxFrom (boxR h) x).map frD ++ [frD (iter (· * twoThird) x (boxR h))])), .ow (frD (iter (· * twoThird) x (boxR h) * twoThird)), .ow (.int (x : Int)), .no, .no, .no] ⟨.ow (.int (x : Int)), rfl, by
      rw [List.length_append, List.length_range, List.length_singleton, sn, List.map_append]
      rfl⟩
    generalize iter (· * twoThird) x (boxR h) = R at *
    simp [h3, isLst, ga, q]
    simpa using hn'
  · rintro e ⟨s3, h3, rfl⟩
    rw [List.length_range]
    generalize iter (· * twoThird) (boxN h) (boxR h) = R at *
    simp [d4, rg2]
    refine fm_inv (f := fun i : Nat => PyData.int (i : Int)) (xs := List.range (engN h)) (fun pre e => ∃ s6, notIo (some s6) = true ∧ e = [.io (handD (iter engStep pre.length ⟨(((hA h).draw 4).2.draw 3).2, 0, []⟩).h), .ow (.list ((boxFrom (boxR h) (boxN h)).map frD)), .ow (frD R), s3, .ow (.list ((iter engStep pre.length ⟨(((hA h).draw 4).2.draw 3).2, 0, []⟩).es.map prD)), .ow (.int (iter engStep pre.length ⟨(((hA h).draw 4).2.draw 3).2, 0, []⟩).revs), s6]) ?_ ?_ ⟨.no, rfl, rfl⟩
    · rintro pre x post e S' hx ⟨s6, h6, rfl⟩ hrt hbk hn _
      obtain ⟨rfl, hlt⟩ := range_pre hx
      rw [List.length_range] at *
      have ie := iter_inv (f := engStep) (EngI 900010) (n := engN h) (fun k s _ q => q.step) (s := ⟨(((hA h).draw 4).2.draw 3).2, 0, []⟩) ⟨sB.mono (by omega), rfl, ⟨Int.le_refl 0, by show (0 : Int) ≤ 2500 * ((0 : Nat) : Int); decide⟩, by simp, by simp⟩ x (by omega)
      have hn' := hn [.io (handD (iter engStep (x + 1) ⟨(((hA h).draw 4).2.draw 3).2, 0, []⟩).h), .ow (.list ((boxFrom (boxR h) (boxN h)).map frD)), .ow (frD R), s3, .ow (.list ((iter engStep (x + 1) ⟨(((hA h).draw 4).2.draw 3).2, 0, []⟩).es.map prD)), .ow (.int (iter engStep (x + 1) ⟨(((hA h).draw 4).2.draw 3).2, 0, []⟩).revs), .ow (.int (x : Int))] ⟨.ow (.int (x : Int)), rfl, by rw [List.length_append, List.length_range]; rfl⟩
      have es : iter engStep (x + 1) ⟨(((hA h).draw 4).2.draw 3).2, 0, []⟩ = engStep (iter engStep x ⟨(((hA h).draw 4).2.draw 3).2, 0, []⟩) := rfl
      rw [es] at hn'
      generalize iter engStep x ⟨(((hA h).draw 4).2.draw 3).2, 0, []⟩ = st at *
      obtain ⟨p1, p2, p3⟩ := ie.o.draw (many := 2500) (by decide)
      have e1 := q_law_draw (h := st.h) (many := 2500) (ie.o.mono (by omega)) (by decide) (by decide)
      have e2 := q_law_draw (h := (st.h.draw 2500).2) (many := 300) (p1.mono (by omega)) (by decide) (by decide)
      have ga := fun y : D => g_app (xs := st.es.map prD) (x := y) (by have := ie.len; simp; omega)
      simp [h6, e1, e2, isLst, ga]
      simpa [engStep] using hn'
    · rintro e ⟨s6, h6, rfl⟩
      rw [List.length_range]
      have eS : iter engStep (engN h) ⟨(((hA h).draw 4).2.draw 3).2, 0, []⟩ = engS h := rfl
      rw [eS]
      have ie := iter_inv (f := engStep) (EngI 900010) (n := engN h) (fun k s _ q => q.step) (s := ⟨(((hA h).draw 4).2.draw 3).2, 0, []⟩) ⟨sB.mono (by omega), rfl, ⟨Int.le_refl 0, by show (0 : Int) ≤ 2500 * ((0 : Nat) : Int); decide⟩, by simp, by simp⟩ (engN h) (Nat.le_refl _)
      rw [eS] at ie
      obtain ⟨o5, p0, p1⟩ := ie.o.draw (many := 40) (by decide)
      obtain ⟨o6, q0, q1⟩ := o5.draw (many := 40) (by decide)
      have f1 := q_law_draw (h := (engS h).h) (many := 40) (ie.o.mono (by omega)) (by decide) (by decide)
      have f2 := q_law_draw (h := ((engS h).h.draw 40).2) (many := 40) (o5.mono (by omega)) (by decide) (by decide)
      have f3 := q_law_draw (h := (((engS h).h.draw 40).2.draw 40).2) (many := 2500) (o6.mono (by omega)) (by decide) (by decide)
      have t1 := gl_tupL (fz_frs (xs := boxFrom (boxR h) (boxN h)))
      have t2 := gl_tupL (fz_prs (es := (engS h).es))
      simp [f1, f2, f3, t1, t2, driveOf, driveH])
noncomputable def c_law_shaft := fn2 (fun (d : Drv) (s : Int) => DrvOk d ∧ 0 ≤ s ∧ s ≤ 100) shaftAt
theorem q_law_shaft {d : Drv} {s : Int} (h : DrvOk d) (h1 : 0 ≤ s) (h2 : s ≤ 100) : c_law_shaft [drvD d, .int s] = some (frD (shaftAt d s)) := fn2_eq (a := d) (b := s) ⟨h, h1, h2⟩
theorem shaft_eq {d : Drv} {s T : Int} (hT : T = 60 * 1000 * s) : Rat.divInt T d.mm * byTeeth d = shaftAt d s := by
  subst hT
  unfold shaftAt shaftT
  rw [Rat.divInt_eq_div, Rat.divInt_eq_div, Rat.intCast_mul]
  have e1 : ((60 * 1000 : Int) : Rat) = 60000 := by rfl
  have e2 : ((1000 : Int) : Rat) = 1000 := by rfl
  have e3 : ((60 : Int) : Rat) = 60 := by rfl
  rw [e1, e2, e3]
  generalize byTeeth d = B
  generalize (d.mm : Rat) = M
  grind
theorem l_law_shaft : ∀ ds d, ds.length = 2 → c_law_shaft ds = some d → m_law_shaft c_law_times c_law_low (seP d) (envP ds 0) := fn2_law (fun d s ⟨o, h1, h2⟩ => by
  have i4 : gIx (drvD d) (.int 4) = some (.int d.mm) := ix_t (k := 4) rfl
  have m1 : gMul (.int 60) (.int 1000) = some (.int 60000) := op_ii_mul (i := 60) (j := 1000) (sm_small (by decide) (by decide)) (sm_small (by decide) (by decide))
  obtain ⟨T, hT⟩ : ∃ T : Int, T = 60 * 1000 * s := ⟨_, rfl⟩
  have m2 : gMul (.int 60000) (.int s) = some (.int T) := by
    rw [hT]
    exact op_ii_mul (i := 60000) (j := s) (sm_small (by decide) (by decide)) (sm_small (by omega) (by omega))
  have ibm : KF.ib 12 d.mm := KF.ib.of (by have := o.mm; omega) (by have := o.mm; omega)
  have q1 := q_law_low (t := T) (b := d.mm) (by have := o.mm; omega) (ibm.mono (by decide))
  have q2 := q_law_low (t := d.b) (b := d.a) (by have := o.a; omega) ((KF.ib.of (k := 12) (by have := o.a; omega) (by have := o.a; omega)).mono (by decide))
  have s1 : KF.Sz 30 (Rat.divInt T d.mm) := KF.sz_divInt (by have := o.mm; omega) (KF.ib.of (by omega) (by omega)) (ibm.mono (by decide))
  have q3 := q_law_times (s1.mono (l := 1990) (by decide)) (o.sz.mono (by decide))
  rw [shaft_eq hT] at q3
  have eb : Rat.divInt d.b d.a = byTeeth d := rfl
  rw [eb] at q2
  simp [m_law_shaft, ts_tuple, i4, m1, m2, q1, q2, q3]) 2
noncomputable def c_law_pulls := fn2 (fun (d : Drv) (s : Int) => DrvOk d ∧ 0 ≤ s ∧ s ≤ 100) (fun d s => wheelPulls d (shaftAt d s))
theorem q_law_pulls {d : Drv} {s : Int} (h : DrvOk d) (h1 : 0 ≤ s) (h2 : s ≤ 100) : c_law_pulls [drvD d, .int s] = some (.tuple ((wheelPulls d (shaftAt d s)).map encO)) := fn2_eq (a := d) (b := s) ⟨h, h1, h2⟩
theorem pullOf_cons {x : Int × Int} {es : List (Int × Int)} {r : Rat} : pullOf (x :: es) r = if (x.1 : Rat) < r then pullOf es r else some x.2 := by
  unfold pullOf
  rw [List.find?_cons]
  by_cases h : (x.1 : Rat) < r <;> simp [h]
@[simp] theorem fz_optI {x : Option Int} : frozen (encO x) = true := by cases x <;> rfl
theorem wheel_snoc {d : Drv} {pre : List Rat} {x w : Rat} : (pullsOf (pre ++ [x]) d.eng w).map (Option.map (· * byTeeth d)) = (pullsOf pre d.eng w).map (Option.map (· * byTeeth d)) ++ [(pullOf d.eng (x * w)).map fun p => x * ((p : Int) : Rat) * byTeeth d] := by
  unfold pullsOf
  rw [List.map_append, List.map_append, List.map_singleton, List.map_singleton, Option.map_map]
  rfl
theorem l_law_pulls : ∀ ds d, ds.length = 2 → c_law_pulls ds = some d → m_law_pulls c_law_times c_law_low c_law_is_less c_law_shaft (seP d) (envP ds 6) := fn2_law (fun d s ⟨o, h1, h2⟩ => by
  have hl := o.box.len
  have i3 : gIx (drvD d) (.int 3) = some (.tuple (d.eng.map prD)) := ix_t (k := 3) rfl
  have q0 := q_law_shaft o h1 h2
  have s0 := shaftAt_sz o h1 h2
  have ql := q_law_low (t := d.b) (b := d.a) (by have := o.a; omega) ((KF.ib.of (k := 12) (by have := o.a; omega) (by have := o.a; omega)).mono (by decide))
  have eb : Rat.divInt d.b d.a = byTeeth d := rfl
  rw [eb] at ql
  have rv : gRev (.tuple (d.eng.map prD)) = some (.tuple (d.eng.reverse.map prD)) := by
    rw [List.map_reverse]
    exact if_pos fz_prs
  generalize shaftAt d s = w at *
  simp [m_law_pulls, fz_frs]
  refine fm_inv (f := frD) (xs := d.box) (fun pre e => ∃ s3 s4 s5 s6 s7, (notIo (some s3) = true ∧ notIo (some s4) = true ∧ notIo (some s5) = true ∧ notIo (some s6) = true ∧ notIo (some s7) = true) ∧ e = [.ow (drvD d), .ow (.int s), .ow (.list (((pullsOf pre d.eng w).map (Option.map (· * byTeeth d))).map encO)), s3, s4, s5, s6, s7]) ?_ ?_ ⟨.no, .no, .no, .no, .no, ⟨rfl, rfl, rfl, rfl, rfl⟩, rfl⟩
  · rintro pre x post e S' hx ⟨s3, s4, s5, s6, s7, ⟨h3, h4, h5, h6, h7⟩, rfl⟩ hrt hbk hn _
    have hm : x ∈ d.box := by rw [hx]; simp
    have sx := o.box.sz x hm
    have q1 := q_law_times (sx.mono (l := 1990) (by decide)) (s0.mono (by decide))
    have szr := sx.mul s0
    have rvs : (d.eng.reverse).reverse = d.eng := List.reverse_reverse _
    simp [h3, h4, h5, q0, q1, i3, rv]
    rw [← List.map_reverse]
    refine fm_inv (f := prD) (xs := d.eng.reverse) (fun pre2 e => ∃ s6 s7, (notIo (some s6) = true ∧ notIo (some s7) = true) ∧ e = [.ow (drvD d), .ow (.int s), .ow (.list (((pullsOf pre d.eng w).map (Option.map (· * byTeeth d))).map encO)), .ow (frD x), .ow (frD (x * w)), .ow (encO (pullOf pre2.reverse (x * w))), s6, s7]) ?_ ?_ ?_
    · rintro pre2 y post2 e S2 hx2 ⟨s6, s7, ⟨h6, h7⟩, rfl⟩ hrt2 hbk2 hn2 _
      have ym : y ∈ d.eng := List.mem_reverse.mp (by rw [hx2]; simp)
      have q2 := q_law_is_less ((o.eng.szI ym).mono (l := 4000) (by decide)) (szr.mono (by decide))
      rw [frD_int] at q2
      have hn' := hn2 [.ow (drvD d), .ow (.int s), .ow (.list (((pullsOf pre d.eng w).map (Option.map (· * byTeeth d))).map encO)), .ow (frD x), .ow (frD (x * w)), .ow (encO (pullOf (pre2 ++ [y]).reverse (x * w))), .ow (.int y.1), .ow (.int y.2)] ⟨.ow (.int y.1), .ow (.int y.2), ⟨rfl, rfl⟩, rfl⟩
      rw [List.reverse_append, List.reverse_singleton, List.singleton_append, pullOf_cons] at hn'
      by_cases hc : (y.1 : Rat) < x * w
      · rw [if_pos hc] at hn'
        rw [decide_eq_true hc] at q2
        simp [h6, h7, q2]
        simpa using hn'
      · rw [if_neg hc] at hn'
        rw [decide_eq_false hc] at q2
        simp [h6, h7, q2]
        simpa using hn'
    · rintro e ⟨s6, s7, ⟨h6, h7⟩, rfl⟩
      rw [rvs]
      have hp : (((pullsOf pre d.eng w).map (Option.map (· * byTeeth d))).map encO).length ≤ 10000 := by
        rw [hx] at hl
        simp [pullsOf] at hl ⊢
        omega
      have ga := fun y : D => g_app (x := y) hp
      have ws := wheel_snoc (d := d) (pre := pre) (x := x) (w := w)
      cases hv : pullOf d.eng (x * w) with
      | none =>
        rw [hv] at ws
        have hn' := hn [.ow (drvD d), .ow (.int s), .ow (.list (((pullsOf pre d.eng w).map (Option.map (· * byTeeth d))).map encO ++ [.none])), .ow (frD x), .ow (frD (x * w)), .ow .none, s6, s7] ⟨.ow (frD x), .ow (frD (x * w)), .ow .none, s6, s7, ⟨rfl, rfl, rfl, h6, h7⟩, by rw [ws, List.map_append]; rfl⟩
        simp at ga
        simp [isLst, ga]
        simpa using hn'
      | some p =>
        rw [hv] at ws
        have sp := o.eng.pull_sz hv
        have q3 := q_law_times (sx.mono (l := 1990) (by decide)) (sp.mono (by decide))
        have q4 := q_law_times ((sx.mul sp).mono (l := 1990) (by decide)) (o.sz.mono (by decide))
        rw [frD_int] at q3
        have hn' := hn [.ow (drvD d), .ow (.int s), .ow (.list (((pullsOf pre d.eng w).map (Option.map (· * byTeeth d))).map encO ++ [frD (x * (p : Rat) * byTeeth d)])), .ow (frD x), .ow (frD (x * w)), .ow (.int p), s6, s7] ⟨.ow (frD x), .ow (frD (x * w)), .ow (.int p), s6, s7, ⟨rfl, rfl, rfl, h6, h7⟩, by rw [ws, List.map_append]; rfl⟩
        simp at ga
        simp [isLst, ga, q3, q4, ql]
        simpa using hn'
    · exact ⟨s6, s7, ⟨h6, h7⟩, by simp [pullOf]; rfl⟩
  · rintro e ⟨s3, s4, s5, s6, s7, _, rfl⟩
    have tp := gl_tupL (fz_optR (xs := wheelPulls d w))
    unfold wheelPulls at tp ⊢
    simp at tp
    simp [tp]) 2
theorem fb_int {i : Int} {k : Nat} (h : KF.ib k i) (hk : 2 ≤ k) : Fb k (i, 1) := ⟨h, (KF.ib.of (k := 2) (i := 1) (by decide) (by decide)).mono hk, (show (1 : Int) ≠ 0 by decide)⟩
noncomputable def c_law_good := fn2 (fun (d : Drv) (p : Tri Int Int Int) => DrvOk d ∧ PartOk p) (fun d p => Lst.mk (goodL d p))
theorem q_law_good {d : Drv} {p : Tri Int Int Int} (h : DrvOk d) (h1 : PartOk p) : c_law_good [drvD d, triD p] = some (.list ((goodL d p).map natD)) := fn2_eq (a := d) (b := p) ⟨h, h1⟩
theorem l_law_good : ∀ ds d, ds.length = 2 → c_law_good ds = some d → m_law_good c_law_is_less c_law_pulls (seP d) (envP ds 3) := fn2_law (fun d p ⟨o, h⟩ => by
  have q1 := q_law_pulls o (s := p.b) (by have := h.b; omega) (by have := h.b; omega)
  have hl := wheel_len o (t := shaftAt d p.b)
  have hz : ∀ q, some q ∈ wheelPulls d (shaftAt d p.b) → KF.Sz 40 q := fun q => wheel_sz o
  have eg : goodL d p = ((wheelPulls d (shaftAt d p.b)).zipIdx.filter fun x => isGood p x.1).map (·.2) := rfl
  generalize wheelPulls d (shaftAt d p.b) = ws at *
  have lc : compL (bTup (bCons (bName 3) (bCons (bName 4) bNil))) (bAnd (tst (e2 gIsNot (eVar 4) (eC .none))) (bNot (tst (eFn 2 c_law_is_less (aCons (eVar 4) (aCons (eTup (aCons (eFrz (e2 gIx (eVar 1) (eC (.int 2)))) (aCons (eC (.int 1)) aNil))) aNil)))))) (eFrz (eVar 3)) [.ow (drvD d), .ow (triD p), .ow (.tuple (ws.map encO)), .no, .no] (ws.zipIdx.map fun x : Option Rat × Nat => PyData.tuple [.int (x.2 : Int), encO x.1]) = some ((goodL d p).map natD) := by
    rw [lcFilter (p := fun x => isGood p x.1) (h := fun x => .int (x.2 : Int))]
    · rw [eg, List.map_map]
      rfl
    · intro x hx
      have hm : x.1 ∈ ws := zipIdx_fst (k := 0) hx
      obtain ⟨y, i⟩ := x
      cases y with
      | none => simp [isGood]
      | some q =>
        have q2 := q_law_is_less' (a := (q.num, (q.den : Int))) (b := (p.c, 1)) (fb_rat ((hz q hm).mono (by decide))) (fb_int ((KF.ib.of (k := 15) (by have := h.c; omega) (by have := h.c; omega)).mono (by decide)) (by decide)) (KF.den_pos' q) (show (0 : Int) < 1 by decide)
        rw [prD_rat, Int.mul_one] at q2
        simp only at q2
        by_cases hc : q.num < p.c * (q.den : Int)
        · rw [decide_eq_true hc] at q2
          simp [q2, isGood, show ¬ p.c * (q.den : Int) ≤ q.num by omega]
        · rw [decide_eq_false hc] at q2
          simp [q2, isGood, show p.c * (q.den : Int) ≤ q.num by omega]
  have c1 : ws.length ≤ cap := capL (by omega)
  simp [m_law_good, q1, gi_enumO, c1]
  simp only [show toSl (PyData.tuple [.int p.a, .int p.b, .int p.c]) = .ow (triD p) from rfl]
  rw [lc]
  exact rfl) 2
end KK

set_option Elab.async false
set_option linter.all false
set_option maxRecDepth 100000
set_option maxHeartbeats 4000000
namespace KK
open PySem PySem.Spec PyProof.Rows L2 Pd Gen
theorem prV_inv {q : Rat} : prV ((q.den : Int), q.num) = q⁻¹ := (Rat.inv_def q).symm
theorem prV_int (i : Int) : prV (i, 1) = (i : Rat) := by
  show Rat.divInt i 1 = _
  rw [Rat.divInt_eq_div]
  have : ((1 : Int) : Rat) = 1 := rfl
  rw [this]
  grind
theorem pos_num {q : Rat} (h : 0 < q) : 1 ≤ q.num := by
  rw [Rat.lt_iff] at h
  have : 0 < q.num := by simpa using h
  omega
theorem box_mem {r : Rat} {k : Nat} (g : Gr 49 4 r) (h2 : k ≤ 4) {q : Rat} (hq : q ∈ boxFrom r k) : Gr 784 324 q := by
  have := box_gr k r 49 4 g q hq
  have p2 : (2 : Nat) ^ k ≤ 2 ^ 4 := Nat.pow_le_pow_right (by decide) h2
  have p3 : (3 : Nat) ^ k ≤ 3 ^ 4 := Nat.pow_le_pow_right (by decide) h2
  exact ⟨this.pos, Nat.le_trans this.n (by omega), Nat.le_trans this.d (by omega)⟩
theorem tt_eq : twoThird = 2 / 3 := by unfold twoThird; decide +kernel
theorem step_v {r : Rat} (h : 0 < r) : r / (r * twoThird) = Rat.divInt 3 2 := by
  have ne : r ≠ 0 := fun e => by rw [e] at h; exact absurd h (by decide +kernel)
  have e : Rat.divInt 3 2 = 3 / 2 := by decide +kernel
  rw [tt_eq, e]
  grind
theorem box_steps {r : Rat} {k : Nat} (g : Gr 49 4 r) : ((boxFrom r k).zip (boxFrom r k).tail).map (fun p => p.1 / p.2) = List.replicate (k - 1) (Rat.divInt 3 2) := by
  refine List.eq_replicate_iff.mpr ⟨?_, ?_⟩
  · rw [List.length_map, List.length_zip, List.length_tail, box_len]
    omega
  · intro x hx
    obtain ⟨p, hp, rfl⟩ := List.mem_map.mp hx
    rw [box_step k r p hp]
    exact step_v (box_gr k r 49 4 g _ (List.of_mem_zip hp).1).pos
theorem steps_rep {n : Nat} (h : n ≤ 100) : gMul (.tuple [.tuple [.int 3, .int 2]]) (.int (n : Int)) = some (.tuple ((List.replicate n (Rat.divInt 3 2)).map frD)) := by
  have e : gMul (.tuple [.tuple [.int 3, .int 2]]) (.int (n : Int)) = some (.tuple (List.replicate (n : Int).toNat [PyData.tuple [.int 3, .int 2]]).flatten) := if_pos ⟨by omega, by omega, by decide, rfl⟩
  rw [e]
  have f : frD (Rat.divInt 3 2) = .tuple [.int 3, .int 2] := by
    have a : (Rat.divInt 3 2).num = 3 ∧ (Rat.divInt 3 2).den = 2 := by decide +kernel
    rw [frD, a.1, a.2]
    rfl
  rw [List.map_replicate, f, Int.toNat_natCast]
  congr 2
  generalize PyData.tuple [.int 3, .int 2] = z
  induction n with
  | zero => rfl
  | succ n ih => rw [List.replicate_succ, List.flatten_cons, ih (by omega) (if_pos ⟨by omega, by omega, by decide, rfl⟩), List.replicate_succ]; rfl
theorem reads_t {t : List (Tri Int Int Int)} (h : TripOk t) : 0 ≤ (t.map (·.a)).sum ∧ (t.map (·.a)).sum ≤ 100000 * (t.length : Int) := by
  have := h.part
  clear h
  induction t with
  | nil => simp
  | cons p t ih =>
    have a := (this p List.mem_cons_self).a
    have b := ih fun q hq => this q (List.mem_cons_of_mem _ hq)
    rw [List.map_cons, List.sum_cons, List.length_cons]
    omega
theorem wheel_speed {a b : Int} (h1 : 0 ≤ a) (h2 : a < 500) (h3 : 1 ≤ b) (h4 : b ≤ 9) : 0 ≤ Rat.divInt a b ∧ (Rat.divInt a b).num.natAbs ≤ 499 ∧ (Rat.divInt a b).den ≤ 9 := by
  obtain ⟨x, y⟩ := divInt_le (t := a) (b := b) (by omega)
  refine ⟨?_, by omega, by omega⟩
  exact (Rat.divInt_nonneg_iff_of_pos_right (by omega)).mpr h1
theorem num_nn {q : Rat} (h : 0 ≤ q) : 0 ≤ q.num := Rat.num_nonneg.mpr h
def restH (h : Hand) : Hand := ((((h.draw 100000).2.draw 2000).2.draw 500).2.draw 9).2
noncomputable def c_law_are_rest_right := hf2 (fun h (d : Drv) (t : List (Tri Int Int Int)) => h.Ok 950000 ∧ DrvGood d ∧ TripOk t) (fun _ _ _ => .bool true) (fun h _ _ => restH h)
theorem q_law_are_rest_right {h : Hand} {n : Int} {d : Drv} {t : List (Tri Int Int Int)} (o : h.Ok n) (hn : n ≤ 950000) (g : DrvGood d) (ht : TripOk t) : c_law_are_rest_right [handD h, drvD d, .tuple (t.map triD)] = some (.bool true, handD (restH h)) := hf2_eq (a := d) (b := t) ⟨o.mono hn, g, ht⟩
theorem restH_ok {h : Hand} {n : Int} (o : h.Ok n) : (restH h).Ok (n + 4) := by
  obtain ⟨o1, a0, a1⟩ := o.draw (many := 100000) (by decide)
  obtain ⟨o2, b0, b1⟩ := o1.draw (many := 2000) (by decide)
  obtain ⟨o3, c0, c1⟩ := o2.draw (many := 500) (by decide)
  obtain ⟨o4, d0, d1⟩ := o3.draw (many := 9) (by decide)
  exact o4.mono (by omega)
theorem l_law_are_rest_right : ∀ dpre d dpost r d', dpre.length = 0 → dpre.length + 1 + dpost.length = 3 → c_law_are_rest_right (dpre ++ d :: dpost) = some (r, d') → m_law_are_rest_right c_top_speed c_law_good c_tops_of c_steps_of c_law_times c_wheel_pulls_gearboxes c_wheel_at c_pull_at c_revs_at c_law_draw c_law_low c_trip_time c_law_sum c_turned_between c_wheel_turns c_shown c_odometer_after (seI 0 r d') (envI dpre d dpost 15) := hf2_law (fun h d t ⟨o, g, ht⟩ => by
  obtain ⟨o1, a0, a1⟩ := o.draw (many := 100000) (by decide)
  obtain ⟨o2, b0, b1⟩ := o1.draw (many := 2000) (by decide)
  obtain ⟨o3, c0, c1⟩ := o2.draw (many := 500) (by decide)
  obtain ⟨o4, e0, e1⟩ := o3.draw (many := 9) (by decide)
  have d1 := q_law_draw (h := h) (many := 100000) (o.mono (by decide)) (by decide) (by decide)
  have d2 := q_law_draw (h := (h.draw 100000).2) (many := 2000) (o1.mono (by decide)) (by decide) (by decide)
  have d3 := q_law_draw (h := ((h.draw 100000).2.draw 2000).2) (many := 500) (o2.mono (by decide)) (by decide) (by decide)
  have d4 := q_law_draw (h := (((h.draw 100000).2.draw 2000).2.draw 500).2) (many := 9) (o3.mono (by decide)) (by decide) (by decide)
  have eH : ((((h.draw 100000).2.draw 2000).2.draw 500).2.draw 9).2 = restH h := rfl
  rw [eH] at d4
  rw [e_law_are_rest_right]
  generalize restH h = h4 at *
  generalize (((h.draw 100000).2.draw 2000).2.draw 500).2.draw 9 = p4 at *
  generalize ((h.draw 100000).2.draw 2000).2.draw 500 = p3 at *
  generalize (h.draw 100000).2.draw 2000 = p2 at *
  generalize h.draw 100000 = p1 at *
  obtain ⟨r, h1⟩ := p1
  obtain ⟨load, h2⟩ := p2
  obtain ⟨wn, h3⟩ := p3
  obtain ⟨wd, h4'⟩ := p4
  simp only at *
  have p5 : gPow (.int 10) (.int 5) = some (.int 100000) := pow_10 5 (by decide)
  simp [b_law_are_rest_right_0, m_law_are_rest_right_0, p5, d1]
  have rt := reads_t ht
  have hl := ht.len
  have tsz := ht.szt
  have hod := q_odometer_after (r := r) (t := t) a0 (by omega) ht
  have d3' := op_ii_div (i := (t.map (·.a)).sum) (j := 1000) (by decide) (sm_small (by decide) (by decide))
  have lcs : ∀ ε : En, 16 < ε.length → compL (bName 16) bTrue (eFrz (e2 gIx (eVar 16) (eC (.int 0)))) ε (t.map triD) = some ((t.map (·.a)).map .int) := fun ε he => by
    rw [lcMap (h := fun p : Tri Int Int Int => .int p.a)]
    · simp
    · intro p _
      simp [get_set_self, he]
  have c8 : t.length ≤ cap := capL (by omega)
  have gs := gl_sum (ns := t.map (·.a))
  generalize (t.map (·.a)).sum = S at *
  have hS : 0 ≤ S ∧ S ≤ 1000000 := by omega
  have ad := op_ii_add (i := r) (j := S / 1000)
  obtain ⟨later, hlat⟩ : ∃ z : Int, z = r + S / 1000 := ⟨_, rfl⟩
  rw [← hlat] at ad hod
  have l0 : r ≤ later := by omega
  have l1 : later ≤ 200000 := by omega
  have sb := op_ii_sub (i := later) (j := r)
  simp [b_law_are_rest_right_1, m_law_are_rest_right_1, ts_tuple, fz_tris, c8]
  rw [lcs _ (by simp)]
  simp at gs
  simp [gs, d3', ad]
  obtain ⟨L, rfl⟩ : ∃ z : Nat, later = (z : Int) := ⟨later.toNat, by omega⟩
  have qs : c_shown [.int (L : Int), .int 9] = some (.str (shownS L 9)) := q_shown (w := 9) (by omega) (by decide) (by decide)
  have si := shown_int (r := L) (w := 9) (numL_9 (by omega)) (by decide)
  simp [b_law_are_rest_right_2, m_law_are_rest_right_2, hod, qs, si]
  have rd : Reads2 r (L : Int) := ⟨a0, l0, by omega⟩
  have qw := q_wheel_turns rd
  have qt := q_turned_between rd
  have w0 : gIx (.tuple (((List.range 9).map (turnAt r (L : Int))).map .int)) (.int 0) = some (.int ((L : Int) - r)) := ix_tm (k := 0) (by simp [turnAt])
  generalize (List.range 9).map (turnAt r (L : Int)) = ws at *
  have gsT := gl_sumT (ns := ws)
  simp [b_law_are_rest_right_3, m_law_are_rest_right_3, qw, ts_tuple]
  simp [b_law_are_rest_right_4, m_law_are_rest_right_4, w0, sb, qt, gsT]
  have qtt := q_trip_time ht
  have lcl : ∀ ε : En, 16 < ε.length → compL (bName 16) bTrue (eFn 2 c_law_low (aCons (e2 gIx (eVar 16) (eC (.int 0))) (aCons (e2 gIx (eVar 16) (eC (.int 1))) aNil))) ε (t.map triD) = some ((t.map fun p => Rat.divInt p.a p.b).map frD) := fun ε he => by
    rw [lcMap (h := fun p : Tri Int Int Int => frD (Rat.divInt p.a p.b))]
    · simp
    · intro p hp
      have pb := (ht.part p hp).b
      have q := q_law_low (t := p.a) (b := p.b) (by omega) ((KF.ib.of (k := 10) (by omega) (by omega)).mono (by decide))
      simp [get_set_self, he, q]
  have qls := q_law_sum (xs := t.map fun p => Rat.divInt p.a p.b) (by simp; omega) (fun x hx => by
    obtain ⟨p, hp, rfl⟩ := List.mem_map.mp hx
    exact (tsz p hp).mono (by decide))
  have etr : tripTime t = (t.map fun p => Rat.divInt p.a p.b).sum := rfl
  rw [etr] at qtt
  simp [b_law_are_rest_right_5, m_law_are_rest_right_5, qtt, c8]
  rw [lcl _ (by simp)]
  generalize (t.map fun p => Rat.divInt p.a p.b) = rsx at *
  simp [qls, cn_frD]
  have g2 : gIx (drvD d) (.int 2) = some (.tuple (d.box.map frD)) := ix_t (k := 2) rfl
  have g3 : gIx (drvD d) (.int 3) = some (.tuple (d.eng.map prD)) := ix_t (k := 3) rfl
  have o2' := g.ok
  obtain ⟨r0, k, ebox, gr, hk1, hk2⟩ := g.box
  have hb := g.ok.box
  have he := g.ok.eng
  have pw := wheel_speed (a := wn) (b := 1 + wd) c0 (by omega) (by omega) (by omega)
  have ql := q_law_low (t := wn) (b := 1 + wd) (by omega) ((KF.ib.of (k := 10) (by omega) (by omega)).mono (by decide))
  simp [b_law_are_rest_right_6, m_law_are_rest_right_6, g2, g3, fz_frs, fz_prs, d2]
  simp [b_law_are_rest_right_7, m_law_are_rest_right_7, d3, d4, ql]
  generalize Rat.divInt wn (1 + wd) = w at *
  have pwn := num_nn pw.1
  have sw : Speed w := ⟨by omega, by omega, by omega⟩
  have swz : KF.Sz 12 w := ⟨by show w.num.natAbs < 2 ^ 12; omega, by show ((w.den : Nat) : Int).natAbs < 2 ^ 12; omega⟩
  have qp := q_wheel_pulls_gearboxes hb he sw
  have cz : (pullsOf d.box d.eng w).length ≤ cap := capL (by have := hb.len; simp [pullsOf]; omega)
  simp [b_law_are_rest_right_8, m_law_are_rest_right_8, qp, gi_enumO, cz]
  refine fm_inv (f := fun x : Option Rat × Nat => PyData.tuple [.int (x.2 : Int), encO x.1]) (xs := (pullsOf d.box d.eng w).zipIdx) (fun pre e => ∃ s10 s11 s14 s15, (notIo (some s10) = true ∧ notIo (some s11) = true ∧ notIo (some s14) = true ∧ notIo (some s15) = true) ∧ e = [.io (handD h4), .ow (drvD d), .ow (.tuple (t.map triD)), .ow (.int r), .ow (.int (L : Int)), .ow (.tuple (ws.map .int)), .ow (.tuple (d.box.map frD)), .ow (.tuple (d.eng.map prD)), .ow (.int load), .ow (frD w), s10, s11, .no, .no, s14, s15, .no, .no]) ?_ ?_ ?_
  · rintro pre x post e S' hx ⟨s10, s11, s14, s15, ⟨h10, h11, h14, h15⟩, rfl⟩ hrt hbk hn _
    obtain ⟨y, i⟩ := x
    have mem : (y, i) ∈ (pullsOf d.box d.eng w).zipIdx := by rw [hx]; simp
    obtain ⟨hi, hy⟩ : i < d.box.length ∧ y = (pullOf d.eng (d.box.getD i 0 * w)).map fun p => d.box.getD i 0 * ((p : Int) : Rat) := by
      have h := List.mem_zipIdx_iff_getElem?.mp mem
      simp only [pullsOf, List.getElem?_map] at h
      cases z : d.box[i]? with
      | none => rw [z] at h; cases h
      | some v =>
        rw [z] at h
        obtain ⟨hi, rfl⟩ := List.getElem?_eq_some_iff.mp z
        refine ⟨hi, ?_⟩
        rw [List.getD_eq_getElem?_getD, z]
        exact (Option.some.inj h).symm
    have gm : Gr 784 324 (d.box.getD i 0) := box_mem gr hk2 (by rw [← ebox]; exact getD_rat hi)
    have q1 := q_revs_at hb hi sw
    have i6 := ix_rat hi
    have q5 := fun h => q_wheel_at (w := d.box.getD i 0 * w) hb hi h
    have szi := hb.sz _ (getD_rat hi)
    generalize d.box.getD i 0 = ri at *
    obtain ⟨nm1, nm2⟩ := num_mul_le ri w
    have nn := num_nn (Rat.mul_nonneg (Rat.le_of_lt gm.pos) pw.1)
    have gn := gm.n
    have gd := gm.d
    have b1' : (ri * w).num.natAbs ≤ 784 * 499 := Nat.le_trans nm1 (Nat.mul_le_mul gn pw.2.1)
    have b2' : (ri * w).den ≤ 324 * 9 := Nat.le_trans nm2 (Nat.mul_le_mul gd pw.2.2)
    have sv : Speed (ri * w) := ⟨nn, by omega, by omega⟩
    have q2 := q_pull_at he sv
    have q3 := q_law_times (szi.mono (l := 1990) (by decide)) (swz.mono (by decide))
    have q5 := q5 sv
    have ew : ri * w / ri = w := by
      have ne : ri ≠ 0 := fun e => by have := gm.pos; rw [e] at this; exact absurd this (by decide +kernel)
      grind
    rw [ew] at q5
    have c6 : (ri * w).num ≤ 1000000 := sv.hi
    have c4 : ((ri * w).den : Int) ≤ 10000 := sv.den
    have p6 : gPow (.int 10) (.int 6) = some (.int 1000000) := pow_10 6 (by decide)
    have p4 : gPow (.int 10) (.int 4) = some (.int 10000) := pow_10 4 (by decide)
    have hpull := fun p (e : pullOf d.eng (ri * w) = some p) => he.pull_sz e
    generalize ri * w = v at *
    subst hy
    cases hv : pullOf d.eng v with
    | none =>
      rw [hv] at q2
      have hn' := hn [.io (handD h4), .ow (drvD d), .ow (.tuple (t.map triD)), .ow (.int r), .ow (.int (L : Int)), .ow (.tuple (ws.map .int)), .ow (.tuple (d.box.map frD)), .ow (.tuple (d.eng.map prD)), .ow (.int load), .ow (frD w), .ow (.int (i : Int)), .ow .none, .no, .no, .ow (frD v), .ow .none, .no, .no] ⟨_, _, _, _, ⟨rfl, rfl, rfl, rfl⟩, rfl⟩
      by_cases hd : (v.den : Int) ≤ 100
      · simp [h10, h11, h14, h15, q1, q2, q3, q5, i6, p6, p4, c6, c4, hd, cn_frD, ts_tuple]
        exact hn'
      · simp [h10, h11, h14, h15, q1, q2, q3, q5, i6, p6, p4, c6, c4, hd, cn_frD, ts_tuple]
        exact hn'
    | some p =>
      rw [hv] at q2
      have q4 := q_law_times (szi.mono (l := 1990) (by decide)) ((hpull p hv).mono (by decide))
      rw [frD_int] at q4
      have hn' := hn [.io (handD h4), .ow (drvD d), .ow (.tuple (t.map triD)), .ow (.int r), .ow (.int (L : Int)), .ow (.tuple (ws.map .int)), .ow (.tuple (d.box.map frD)), .ow (.tuple (d.eng.map prD)), .ow (.int load), .ow (frD w), .ow (.int (i : Int)), .ow (frD (ri * (p : Rat))), .no, .no, .ow (frD v), .ow (.int p), .no, .no] ⟨_, _, _, _, ⟨rfl, rfl, rfl, rfl⟩, rfl⟩
      by_cases hd : (v.den : Int) ≤ 100
      · simp [h10, h11, h14, h15, q1, q2, q3, q4, q5, i6, p6, p4, c6, c4, hd, cn_frD, ts_tuple]
        exact hn'
      · simp [h10, h11, h14, h15, q1, q2, q3, q4, q5, i6, p6, p4, c6, c4, hd, cn_frD, ts_tuple]
        exact hn'
  · rintro e ⟨s10, s11, s14, s15, ⟨h10, h11, h14, h15⟩, rfl⟩
    obtain ⟨il, lm⟩ := eng_last he
    have lim := he.lim _ lm
    have hne : 0 < d.box.length := hb.ne
    have i0 : gIx (.tuple (d.box.map frD)) (.int 0) = some (frD (d.box.getD 0 0)) := ix_rat hne
    have qt2 := q_tops_of hb he
    have qst := q_steps_of hb
    have est : (d.box.zip d.box.tail).map (fun p => p.1 / p.2) = List.replicate (k - 1) (Rat.divInt 3 2) := by rw [ebox]; exact box_steps gr
    have len : d.box.length = k := by rw [ebox, box_len]
    rw [est] at qst
    have b0p := hb.part _ (getD_rat hne)
    have t0 : (d.box.map fun r => (((d.eng.getLastD (0, 0)).1 : Int) : Rat) / r)[0]? = some ((((d.eng.getLastD (0, 0)).1 : Int) : Rat) / d.box.getD 0 0) := by
      rw [List.getElem?_map, List.getD_eq_getElem?_getD, List.getElem?_eq_getElem hne]
      rfl
    have i0t : gIx (.tuple ((d.box.map fun r => (((d.eng.getLastD (0, 0)).1 : Int) : Rat) / r).map frD)) (.int 0) = some (frD ((((d.eng.getLastD (0, 0)).1 : Int) : Rat) / d.box.getD 0 0)) := ix_tm (f := frD) t0
    generalize d.box.map (fun r => (((d.eng.getLastD (0, 0)).1 : Int) : Rat) / r) = tops at *
    have b0s := b0p.sz
    have q9 := q_law_times' (a := ((d.eng.getLastD (0, 0)).1, 1)) (b := (((d.box.getD 0 0).den : Int), (d.box.getD 0 0).num)) (fb_int ((KF.ib.of (k := 15) (by omega) (by omega)).mono (by decide)) (by decide)) ⟨b0s.d.mono (by decide), b0s.n.mono (by decide), (show (d.box.getD 0 0).num ≠ 0 by have := b0p.lo; omega)⟩
    have e9 : prV ((d.eng.getLastD (0, 0)).1, 1) = (((d.eng.getLastD (0, 0)).1 : Int) : Rat) := prV_int _
    rw [prV_inv, e9, ← Rat.div_def] at q9
    generalize d.eng.getLastD (0, 0) = last at *
    generalize d.box.getD 0 0 = bz at *
    have rep := steps_rep (n := k - 1) (by omega)
    generalize List.replicate (k - 1) (Rat.divInt 3 2) = reps at *
    have ek : ((k - 1 : Nat) : Int) = (d.box.length : Int) - 1 := by omega
    rw [ek] at rep
    simp [b_law_are_rest_right_9, m_law_are_rest_right_9, il, i0, q9]
    have gl : gLen [.tuple (d.box.map frD)] = some (.int (d.box.length : Int)) := by simp
    have sb1 := op_ii_sub (i := (d.box.length : Int)) (j := 1)
    simp [b_law_are_rest_right_10, m_law_are_rest_right_10, qst, qt2, sb1, rep, i0t, cn_frD, cn_frs]
    have lcf : ∀ ε : En, 17 < ε.length → Pd.get ε 1 = some (drvD d) → Pd.get ε 8 = some (.int load) → compL (bName 17) (tst (e2 cmpNe (eFn 2 c_law_good (aCons (eVar 1) (aCons (eTup (aCons (eC (.int 1)) (aCons (eFrz (eVar 17)) (aCons (eFrz (eVar 8)) aNil)))) aNil))) (eLst aNil))) (eFrz (eVar 17)) ε ((List.range 100).map fun i : Nat => PyData.int (1 + (i : Int))) = some ((topL d load).map .int) := fun ε hε g1 g8 => by
      rw [lcFilter (p := fun i : Nat => !decide (goodL d ⟨1, 1 + (i : Int), load⟩ = [])) (h := fun i : Nat => .int (1 + (i : Int)))]
      · simp [topL]
      · intro i hi
        have hi := List.mem_range.mp hi
        have q := q_law_good g.ok (p := ⟨1, 1 + (i : Int), load⟩) ⟨⟨by show (1 : Int) ≤ 1; decide, by show (1 : Int) ≤ 100000; decide⟩, ⟨by show 1 ≤ 1 + (i : Int); omega, by show 1 + (i : Int) ≤ 100; omega⟩, b0, by show load ≤ 10000; omega⟩
        have cn := cn_ln (xs := goodL d ⟨1, 1 + (i : Int), load⟩)
        simp [get_set_self, get_set_ne, hε, g1, g8, q, cn]
        by_cases z : goodL d ⟨1, 1 + (i : Int), load⟩ = [] <;> simp [z]
    have cn := cn_li (xs := topL d load)
    have c1' : 100 ≤ cap := capL (by decide)
    have qtop := q_top_speed g.ok (l := load) b0 (by omega)
    simp [b_law_are_rest_right_11, m_law_are_rest_right_11, rg100, c1']
    rw [lcf _ (by simp) rfl rfl]
    have nn0 : cmpEq .none .none = some (.bool true) := cq_same okD_none
    cases z : (topL d load).getLast? with
    | none =>
      have z0 : topL d load = [] := List.getLast?_eq_none_iff.mp z
      rw [z] at qtop
      simp [b_law_are_rest_right_12, m_law_are_rest_right_12, qtop, cn]
      simp [z0, nn0]
    | some x =>
      have ne : topL d load ≠ [] := fun e => by rw [e] at z; cases z
      have ix : gIx (.list ((topL d load).map .int)) (.int (-1)) = some (.int x) := ixl_last (by rw [List.getLast?_map, z]; rfl)
      rw [z] at qtop
      simp [b_law_are_rest_right_12, m_law_are_rest_right_12, qtop, cn, ne, ix]
  · exact ⟨.no, .no, .no, .no, ⟨rfl, rfl, rfl, rfl⟩, rfl⟩)
end KK

set_option Elab.async false
set_option linter.all false
set_option maxRecDepth 100000
set_option maxHeartbeats 4000000
namespace KK
open PySem PySem.Spec PyProof.Rows L2 Pd Gen
theorem pairwise_last : ∀ (xs : List Nat), xs.Pairwise (· < ·) → ∀ x ∈ xs, x ≤ xs.getLastD 0
  | [], _, x, h => by cases h
  | [y], _, x, h => by simp at h; subst h; exact Nat.le_refl _
  | y :: z :: ys, hp, x, h => by
    have hp' := List.pairwise_cons.mp hp
    have ih := pairwise_last (z :: ys) hp'.2
    show x ≤ (z :: ys).getLastD y
    have e : (z :: ys).getLastD y = (z :: ys).getLastD 0 := rfl
    rw [e]
    rcases List.mem_cons.mp h with rfl | h
    · exact Nat.le_trans (Nat.le_of_lt (hp'.1 z List.mem_cons_self)) (ih z List.mem_cons_self)
    · exact ih x h
theorem good_sorted {d : Drv} {p : Tri Int Int Int} : (goodL d p).Pairwise (· < ·) := by
  unfold goodL
  have s : List.Sublist (((wheelPulls d (shaftAt d p.b)).zipIdx.filter fun x => isGood p x.1).map (·.2)) ((wheelPulls d (shaftAt d p.b)).zipIdx.map (·.2)) := List.filter_sublist.map _
  refine List.Pairwise.sublist s ?_
  have e : (wheelPulls d (shaftAt d p.b)).zipIdx.map (·.2) = List.range' 0 (wheelPulls d (shaftAt d p.b)).length := List.zipIdx_map_snd _ _
  rw [e]
  exact List.pairwise_lt_range'
theorem good_le {d : Drv} {p : Tri Int Int Int} {g : Nat} (h : g ∈ goodL d p) : g ≤ lastG d p := pairwise_last _ good_sorted g h
theorem box_getD : ∀ (k : Nat) (r : Rat) (j : Nat), j < k → (boxFrom r k).getD j 0 = iter (· * twoThird) j r
  | k + 1, r, 0, _ => rfl
  | k + 1, r, j + 1, h => by
    rw [boxFrom, List.getD_cons_succ, box_getD k _ j (by omega)]
    have : ∀ (j : Nat) (q : Rat), iter (· * twoThird) j (q * twoThird) = iter (· * twoThird) (j + 1) q := by
      intro j
      induction j with
      | zero => intro q; rfl
      | succ j ih => intro q; show iter (· * twoThird) j (q * twoThird) * twoThird = _; rw [ih]; rfl
    exact this j r
theorem iter_pos {r : Rat} (h : 0 < r) : ∀ j, 0 < iter (· * twoThird) j r
  | 0 => h
  | j + 1 => Rat.mul_pos (iter_pos h j) (by unfold twoThird; decide +kernel)
theorem iter_anti {r : Rat} (h : 0 < r) (i : Nat) : ∀ j, i ≤ j → iter (· * twoThird) j r ≤ iter (· * twoThird) i r
  | 0, hj => by have : i = 0 := by omega
                subst this; exact Rat.le_refl
  | j + 1, hj => by
    by_cases e : i = j + 1
    · subst e; exact Rat.le_refl
    · exact Rat.le_trans (Rat.le_of_lt (tt_lt (iter_pos h j))) (iter_anti h i j (by omega))
theorem box_anti {r : Rat} {k i j : Nat} (h : 0 < r) (h1 : i ≤ j) (h2 : j < k) : (boxFrom r k).getD j 0 ≤ (boxFrom r k).getD i 0 := by
  rw [box_getD k r j h2, box_getD k r i (by omega)]
  exact iter_anti h i j h1
theorem divInt_nn {a b : Int} (h1 : 0 ≤ a) (h2 : 0 < b) : 0 ≤ Rat.divInt a b := (Rat.divInt_nonneg_iff_of_pos_right h2).mpr h1
theorem shaftT_nn {d : Drv} {m : Rat} (o : DrvOk d) (h : 0 ≤ m) : 0 ≤ shaftT d m :=
  Rat.mul_nonneg (Rat.mul_nonneg h (divInt_nn (by decide) (by have := o.mm; omega))) (divInt_nn (by have := o.b; omega) (by have := o.a; omega))
theorem cast_nn {i : Int} (h : 0 ≤ i) : (0 : Rat) ≤ (i : Rat) := Rat.intCast_nonneg.mpr h
theorem shaftAt_nn {d : Drv} {s : Int} (o : DrvOk d) (h : 0 ≤ s) : 0 ≤ shaftAt d s := Rat.mul_nonneg (shaftT_nn o (cast_nn h)) (by decide +kernel)
theorem turned_num {d : Drv} {s T : Int} (o : DrvOk d) (h : 0 ≤ s) (hT : T = 60 * 1000 * s) : (if (turnedV [d.b, d.a] (Rat.divInt T d.mm)).num < 0 then -(turnedV [d.b, d.a] (Rat.divInt T d.mm)).num else (turnedV [d.b, d.a] (Rat.divInt T d.mm)).num) = (shaftAt d s).num := by
  have e : turnedV [d.b, d.a] (Rat.divInt T d.mm) = -(shaftAt d s) := by
    unfold turnedV
    have e1 : Rat.divInt ((if [d.b, d.a].length % 2 = 1 then 1 else -1) * [d.b, d.a].headD 0) ([d.b, d.a].getLastD 0) = -(byTeeth d) := by
      have e0 : ((if [d.b, d.a].length % 2 = 1 then 1 else -1) * [d.b, d.a].headD 0 : Int) = -d.b := by simp
      have e3 : [d.b, d.a].getLastD 0 = d.a := rfl
      rw [e0, e3, byTeeth, Rat.neg_divInt]
    rw [e1, ← shaft_eq hT]
    grind
  have nn := num_nn (shaftAt_nn o h)
  have en : (-(shaftAt d s)).num = -(shaftAt d s).num := rfl
  rw [e, en]
  split <;> omega
theorem turn_eq {d : Drv} {a : Int} {r : Rat} : Rat.divInt (1000 * a) d.mm * byTeeth d * r = shaftT d (a : Rat) * r := by
  unfold shaftT
  rw [Rat.divInt_eq_div, Rat.divInt_eq_div, Rat.intCast_mul]
  generalize byTeeth d = B
  generalize (d.mm : Rat) = M
  generalize ((1000 : Int) : Rat) = N
  generalize (a : Rat) = A
  grind
theorem turnsV_cons {d : Drv} {p : Tri Int Int Int} {t : List (Tri Int Int Int)} {g : Nat} {gs : List Nat} : turnsV d (p :: t) (g :: gs) = shaftT d (p.a : Rat) * d.box.getD g 0 + turnsV d t gs := by
  unfold turnsV
  rw [List.zip_cons_cons, List.map_cons, List.sum_cons]
theorem turns_le {d : Drv} (o : DrvGood d) : ∀ (t : List (Tri Int Int Int)) (gs : List Nat), (∀ p ∈ t, 0 ≤ p.a ∧ goodL d p ≠ []) → gs.length = t.length → (∀ p ∈ gs.zip t, p.1 ∈ goodL d p.2) → turnsV d t (t.map (lastG d)) ≤ turnsV d t gs
  | [], [], _, _, _ => Rat.le_refl
  | p :: t, g :: gs, hp, hl, hg => by
    rw [List.map_cons, turnsV_cons, turnsV_cons]
    have ih := turns_le o t gs (fun q hq => hp q (List.mem_cons_of_mem _ hq)) (by simpa using hl) (fun q hq => hg q (by rw [List.zip_cons_cons]; exact List.mem_cons_of_mem _ hq))
    have g1 : g ∈ goodL d p := hg (g, p) (by simp)
    have g2 := good_le g1
    have g3 := good_lt (last_good (hp p List.mem_cons_self).2)
    obtain ⟨r, k, eb, gr, _, _⟩ := o.box
    have ba : d.box.getD (lastG d p) 0 ≤ d.box.getD g 0 := by
      rw [eb] at g3 ⊢
      rw [box_len] at g3
      exact box_anti gr.pos g2 g3
    have nn : 0 ≤ shaftT d (p.a : Rat) := shaftT_nn o.ok (cast_nn (hp p List.mem_cons_self).1)
    have m := Rat.mul_le_mul_of_nonneg_left ba nn
    exact Rat.le_trans (Rat.add_le_add_right.mpr m) (Rat.add_le_add_left.mpr ih)
theorem le_num {q : Rat} (h : 0 ≤ q) : q ≤ (q.num : Rat) := by
  rw [Rat.le_iff]
  have e1 : ((q.num : Int) : Rat).num = q.num := rfl
  have e2 : ((q.num : Int) : Rat).den = 1 := rfl
  rw [e1, e2]
  have n := num_nn h
  have d := KF.den_pos' q
  have : q.num * 1 ≤ q.num * (q.den : Int) := Int.mul_le_mul_of_nonneg_left (by omega) n
  simpa using this
theorem fl_le {q : Rat} {B : Int} (h : q ≤ (B : Rat)) : q.num / (q.den : Int) ≤ B := by
  rw [Rat.le_iff] at h
  have e1 : ((B : Int) : Rat).num = B := rfl
  have e2 : ((B : Int) : Rat).den = 1 := rfl
  rw [e1, e2] at h
  exact Int.ediv_le_of_le_mul (KF.den_pos' q) (by simpa using h)
/-! the drawn trip -/
structure PartG (p : Tri Int Int Int) : Prop where
  a : 1 ≤ p.a ∧ p.a ≤ 5000
  b : 1 ≤ p.b ∧ p.b ≤ 40
  c : 0 ≤ p.c ∧ p.c < 4000
structure TripG (t : List (Tri Int Int Int)) : Prop where
  ne : 1 ≤ t.length
  len : t.length ≤ 3
  part : ∀ p ∈ t, PartG p
theorem TripG.ok {t : List (Tri Int Int Int)} (g : TripG t) : TripOk t := ⟨g.ne, by have := g.len; omega, fun p hp => by
  have h := g.part p hp
  have := h.a
  have := h.b
  have := h.c
  exact ⟨by omega, by omega, by omega⟩⟩
theorem num_bd {a b : Rat} {N M : Nat} (h1 : a.num.natAbs ≤ N) (h2 : b.num.natAbs ≤ M) : (a * b).num.natAbs ≤ N * M := Nat.le_trans (num_mul_le a b).1 (Nat.mul_le_mul h1 h2)
theorem term_le {d : Drv} (o : DrvGood d) {p : Tri Int Int Int} (h : PartG p) {g : Nat} (hg : g < d.box.length) : 0 ≤ shaftT d (p.a : Rat) * d.box.getD g 0 ∧ shaftT d (p.a : Rat) * d.box.getD g 0 ≤ ((200000000000 : Int) : Rat) := by
  obtain ⟨r, k, eb, gr, hk1, hk2⟩ := o.box
  have gm : Gr 784 324 (d.box.getD g 0) := box_mem gr hk2 (by rw [← eb]; exact getD_rat hg)
  have nn : 0 ≤ shaftT d (p.a : Rat) * d.box.getD g 0 := Rat.mul_nonneg (shaftT_nn o.ok (cast_nn (by have := h.a; omega))) (Rat.le_of_lt gm.pos)
  refine ⟨nn, ?_⟩
  have n1 : ((p.a : Int) : Rat).num.natAbs ≤ 5000 := by
    have e : ((p.a : Int) : Rat).num = p.a := rfl
    have := h.a
    rw [e]
    omega
  have n2 : (Rat.divInt 1000 d.mm).num.natAbs ≤ 1000 := (divInt_le (t := 1000) (b := d.mm) (by have := o.ok.mm; omega)).1
  have n3 : (byTeeth d).num.natAbs ≤ 44 := Nat.le_trans (divInt_le (t := d.b) (b := d.a) (by have := o.a; omega)).1 (by have := o.b; omega)
  have n4 := num_bd (num_bd (num_bd n1 n2) n3) gm.n
  refine Rat.le_trans (le_num nn) (Rat.intCast_le_intCast.mpr ?_)
  show ((p.a : Rat) * Rat.divInt 1000 d.mm * byTeeth d * d.box.getD g 0).num ≤ _
  omega
theorem turns_bd {d : Drv} (o : DrvGood d) : ∀ (t : List (Tri Int Int Int)) (gs : List Nat), (∀ p ∈ t, PartG p) → gs.length = t.length → (∀ g ∈ gs, g < d.box.length) → 0 ≤ turnsV d t gs ∧ turnsV d t gs ≤ ((200000000000 * (t.length : Int) : Int) : Rat)
  | [], [], _, _, _ => ⟨Rat.le_refl, Rat.le_refl⟩
  | p :: t, g :: gs, hp, hl, hg => by
    have ih := turns_bd o t gs (fun q hq => hp q (List.mem_cons_of_mem _ hq)) (by simpa using hl) (fun q hq => hg q (List.mem_cons_of_mem _ hq))
    have tl := term_le o (hp p List.mem_cons_self) (hg g List.mem_cons_self)
    rw [turnsV_cons]
    refine ⟨Rat.add_nonneg tl.1 ih.1, ?_⟩
    have e : ((200000000000 * ((p :: t).length : Int) : Int) : Rat) = ((200000000000 : Int) : Rat) + ((200000000000 * (t.length : Int) : Int) : Rat) := by
      rw [← Rat.intCast_add]
      congr 1
      rw [List.length_cons]
      omega
    rw [e]
    exact Rat.le_trans (Rat.add_le_add_right.mpr tl.2) (Rat.add_le_add_left.mpr ih.2)
def trA (h : Hand) := h.draw 5000
def trB (h : Hand) := (trA h).2.draw 40
def trE (h : Hand) := (trB h).2.draw 2
def trM (h : Hand) : Int := if (trE h).1 = 0 then 3 else 4000
def trC (h : Hand) := (trE h).2.draw (trM h)
structure TrS where
  h : Hand
  t : List (Tri Int Int Int)
def tripStep (s : TrS) : TrS := ⟨(trC s.h).2, s.t ++ [⟨1 + (trA s.h).1, 1 + (trB s.h).1, (trC s.h).1⟩]⟩
theorem tr_ok {h : Hand} {n : Int} (o : h.Ok n) : ((trA h).2.Ok (n + 1) ∧ (trB h).2.Ok (n + 2) ∧ (trE h).2.Ok (n + 3) ∧ (trC h).2.Ok (n + 4)) ∧ (0 ≤ (trA h).1 ∧ (trA h).1 < 5000) ∧ (0 ≤ (trB h).1 ∧ (trB h).1 < 40) ∧ (0 ≤ (trE h).1 ∧ (trE h).1 < 2) ∧ (trM h = 3 ∨ trM h = 4000) ∧ (0 ≤ (trC h).1 ∧ (trC h).1 < trM h) := by
  obtain ⟨o1, a0, a1⟩ := o.draw (many := 5000) (by decide)
  obtain ⟨o2, b0, b1⟩ := o1.draw (many := 40) (by decide)
  obtain ⟨o3, c0, c1⟩ := o2.draw (many := 2) (by decide)
  have hm : trM h = 3 ∨ trM h = 4000 := by unfold trM; split <;> simp
  obtain ⟨o4, d0, d1⟩ := o3.draw (many := trM h) (by omega)
  exact ⟨⟨o1, o2.mono (by omega), o3.mono (by omega), o4.mono (by omega)⟩, ⟨a0, a1⟩, ⟨b0, b1⟩, ⟨c0, c1⟩, hm, d0, d1⟩
structure TrI (n : Int) (k : Nat) (s : TrS) : Prop where
  o : s.h.Ok (n + 4 * (k : Int))
  len : s.t.length = k
  part : ∀ p ∈ s.t, PartG p
theorem TrI.step {n : Int} {k : Nat} {s : TrS} (i : TrI n k s) : TrI n (k + 1) (tripStep s) := by
  obtain ⟨⟨_, _, _, o4⟩, a, b, _, m, c⟩ := tr_ok i.o
  refine ⟨o4.mono (by omega), by simp [tripStep, i.len], fun p hp => ?_⟩
  rcases List.mem_append.mp hp with hp | hp
  · exact i.part p hp
  · rcases List.mem_singleton.mp hp with rfl
    refine ⟨?_, ?_, ?_⟩
    · show 1 ≤ 1 + _ ∧ 1 + _ ≤ 5000; omega
    · show 1 ≤ 1 + _ ∧ 1 + _ ≤ 40; omega
    · show 0 ≤ (trC s.h).1 ∧ (trC s.h).1 < 4000; omega
def tripN (h : Hand) : Nat := (1 + (h.draw 3).1).toNat
def tripS (h : Hand) : TrS := iter tripStep (tripN h) ⟨(h.draw 3).2, []⟩
theorem trip_spec {h : Hand} {n : Int} (o : h.Ok n) : TripG (tripS h).t ∧ (tripS h).h.Ok (n + 13) ∧ (1 ≤ tripN h ∧ tripN h ≤ 3) := by
  obtain ⟨o1, a0, a1⟩ := o.draw (many := 3) (by decide)
  have hn : 1 ≤ tripN h ∧ tripN h ≤ 3 := by unfold tripN; omega
  have i := iter_inv (f := tripStep) (TrI (n + 1)) (n := tripN h) (fun k s _ q => q.step) (s := ⟨(h.draw 3).2, []⟩) ⟨o1.mono (by omega), rfl, by simp⟩ (tripN h) (Nat.le_refl _)
  have ie : TrI (n + 1) (tripN h) (tripS h) := i
  exact ⟨⟨by have := ie.len; omega, by have := ie.len; omega, ie.part⟩, ie.o.mono (by omega), hn⟩
/-! the stops -/
def stopsL (d : Drv) (t : List (Tri Int Int Int)) : List Nat := (t.zipIdx.filter fun x => decide (goodL d x.1 = [])).map (·.2)
theorem stops_head {d : Drv} {t : List (Tri Int Int Int)} : (stopsL d t).head? = (firstStop d t).map (·.2) := by
  unfold stopsL firstStop
  rw [List.head?_map, List.head?_filter]
/-! the drawn gears -/
def dAny (xs : Lst Nat) : Dr Nat := fun h => (xs.of.getD ((h.draw (xs.of.length : Int)).1).toNat 0, (h.draw (xs.of.length : Int)).2)
theorem good_any {xs : Lst Nat} (h : xs.of ≠ []) : (dAny xs).Good (fun g => g ∈ xs.of) 1 := fun hd n o => by
  have hl : 0 < xs.of.length := List.length_pos_iff.mpr h
  obtain ⟨o1, a, b⟩ := o.draw (many := (xs.of.length : Int)) (by omega)
  refine ⟨?_, o1⟩
  have lt : ((hd.draw (xs.of.length : Int)).1).toNat < xs.of.length := by omega
  show xs.of.getD _ 0 ∈ xs.of
  rw [List.getD_eq_getElem?_getD, List.getElem?_eq_getElem lt]
  exact List.getElem_mem lt
def rowsOf (d : Drv) (t : List (Tri Int Int Int)) : List (Lst Nat) := t.map fun p => Lst.mk (goodL d p)
def gearsDr (d : Drv) (t : List (Tri Int Int Int)) : Dr (List Nat) := dEach dAny (rowsOf d t)
theorem gears_good {d : Drv} {t : List (Tri Int Int Int)} (h : firstStop d t = none) : (gearsDr d t).Good (fun gs => gs.length = t.length ∧ ∀ p ∈ gs.zip t, p.1 ∈ goodL d p.2) (t.length : Int) := by
  have g := good_each (d := dAny) (P := fun r g => g ∈ r.of) (k := 1) (rowsOf d t) (fun r hr => by
    obtain ⟨p, hp, rfl⟩ := List.mem_map.mp hr
    exact good_any (no_stop h p hp))
  refine g.imp (fun gs hg => ⟨by simpa [rowsOf] using hg.1, fun p hp => ?_⟩) (by simp [rowsOf])
  obtain ⟨i, hi, rfl⟩ := List.mem_iff_getElem.mp hp
  have hi' : i < ((rowsOf d t).zip gs).length := by simp [rowsOf] at hi ⊢; omega
  have := hg.2 _ (List.getElem_mem hi')
  simpa [rowsOf] using this
def beltDr (n : Nat) : Dr (List Int) := dEach (fun _ : Nat => dMap (fun v => 2 + v) (dDraw 60)) (List.range n)
theorem belt_good (n : Nat) : (beltDr n).Good (fun bs => bs.length = n ∧ ∀ b ∈ bs, 2 ≤ b ∧ b ≤ 61) (n : Int) := by
  have g := good_each (d := fun _ : Nat => dMap (fun v : Int => 2 + v) (dDraw 60)) (P := fun _ b => 2 ≤ b ∧ b ≤ 61) (k := 1) (List.range n) (fun _ _ => good_map (good_draw (by decide)) fun a ha => by omega)
  refine g.imp (fun bs hb => ⟨by simpa using hb.1, fun b hm => ?_⟩) (by simp)
  obtain ⟨i, hi, rfl⟩ := List.mem_iff_getElem.mp hm
  have hi' : i < ((List.range n).zip bs).length := by have := hb.1; simp at this ⊢; omega
  have := hb.2 _ (List.getElem_mem hi')
  simpa using this
end KK

set_option Elab.async false
set_option linter.all false
set_option maxRecDepth 100000
set_option maxHeartbeats 4000000
namespace KK
open PySem PySem.Spec PyProof.Rows L2 Pd Gen
def rT (h : Hand) : TrS := tripS (driveH h)
def rS (h : Hand) : Int × Hand := (rT h).h.draw 60
def rG (h : Hand) : List Nat × Hand := gearsDr (driveOf h) (rT h).t (rS h).2
def rN (h : Hand) : Int × Hand := (rG h).2.draw 3
def rBn (h : Hand) : Nat := (1 + (rN h).1).toNat
def rB (h : Hand) : List Int × Hand := beltDr (rBn h) (rN h).2
def rightH (h : Hand) : Hand := if firstStop (driveOf h) (rT h).t = none then restH (rB h).2 else (rS h).2
theorem right_spec {h : Hand} {n : Int} (o : h.Ok n) : (driveH h).Ok (n + 20) ∧ (rT h).h.Ok (n + 33) ∧ (rS h).2.Ok (n + 34) ∧ (0 ≤ (rS h).1 ∧ (rS h).1 < 60) ∧ (firstStop (driveOf h) (rT h).t = none → ((rG h).2.Ok (n + 37) ∧ ((rG h).1.length = (rT h).t.length ∧ ∀ p ∈ (rG h).1.zip (rT h).t, p.1 ∈ goodL (driveOf h) p.2)) ∧ ((rN h).2.Ok (n + 38) ∧ 1 ≤ rBn h ∧ rBn h ≤ 3 ∧ 0 ≤ (rN h).1) ∧ ((rB h).2.Ok (n + 41) ∧ (rB h).1.length = rBn h ∧ ∀ b ∈ (rB h).1, 2 ≤ b ∧ b ≤ 61)) ∧ (rightH h).Ok (n + 50) := by
  obtain ⟨dg, od, _⟩ := drive_spec o
  obtain ⟨tg, ot, _⟩ := trip_spec od
  have ot' : (rT h).h.Ok (n + 33) := Hand.Ok.mono (show (rT h).h.Ok _ from ot) (by omega)
  obtain ⟨os, s0, s1⟩ := ot'.draw (many := 60) (by decide)
  have os' : (rS h).2.Ok (n + 34) := Hand.Ok.mono (show (rS h).2.Ok _ from os) (by omega)
  have key : firstStop (driveOf h) (rT h).t = none → ((rG h).2.Ok (n + 37) ∧ ((rG h).1.length = (rT h).t.length ∧ ∀ p ∈ (rG h).1.zip (rT h).t, p.1 ∈ goodL (driveOf h) p.2)) ∧ ((rN h).2.Ok (n + 38) ∧ 1 ≤ rBn h ∧ rBn h ≤ 3 ∧ 0 ≤ (rN h).1) ∧ ((rB h).2.Ok (n + 41) ∧ (rB h).1.length = rBn h ∧ ∀ b ∈ (rB h).1, 2 ≤ b ∧ b ≤ 61) := fun hs => by
    have tl : (rT h).t.length ≤ 3 := tg.len
    obtain ⟨g1, g2⟩ := gears_good hs (rS h).2 _ os'
    have g2' : (rG h).2.Ok (n + 37) := Hand.Ok.mono (show (rG h).2.Ok _ from g2) (by omega)
    obtain ⟨on, n0, n1⟩ := g2'.draw (many := 3) (by decide)
    have on' : (rN h).2.Ok (n + 38) := Hand.Ok.mono (show (rN h).2.Ok _ from on) (by omega)
    have hb : 1 ≤ rBn h ∧ rBn h ≤ 3 := by unfold rBn rN; omega
    obtain ⟨b1, b2⟩ := belt_good (rBn h) (rN h).2 _ on'
    exact ⟨⟨g2', g1⟩, ⟨on', hb.1, hb.2, n0⟩, Hand.Ok.mono (show (rB h).2.Ok _ from b2) (by omega), b1⟩
  refine ⟨od, ot', os', ⟨s0, s1⟩, key, ?_⟩
  unfold rightH
  split
  · rename_i hs
    exact (restH_ok (key hs).2.2.1).mono (by omega)
  · exact os'.mono (by omega)
theorem goodL_len {d : Drv} (o : DrvOk d) {p : Tri Int Int Int} : (goodL d p).length ≤ 8 := by
  have := wheel_len o (t := shaftAt d p.b)
  have f := List.length_filter_le (fun x : Option Rat × Nat => isGood p x.1) (wheelPulls d (shaftAt d p.b)).zipIdx
  unfold goodL
  simp at f ⊢
  omega
theorem q_any {h : Hand} {r : Lst Nat} (o : h.Ok 1000000) (h1 : r.of ≠ []) (h2 : r.of.length ≤ 8) : c_law_any [handD h, .list (r.of.map natD)] = some (natD (dAny r h).1, handD (dAny r h).2) := by
  have hl : 0 < r.of.length := List.length_pos_iff.mpr h1
  have q := q_law_any (h := h) (xs := r.of.map natD) o (by simpa using hl) (by simp; omega) (fz_map (fun _ => rfl) _)
  rw [List.length_map] at q
  rw [q]
  obtain ⟨o1, a, b⟩ := o.draw (many := (r.of.length : Int)) (by omega)
  have lt : ((h.draw (r.of.length : Int)).1).toNat < r.of.length := by omega
  have e : (r.of.map natD).getD ((h.draw (r.of.length : Int)).1).toNat .none = natD (dAny r h).1 := by
    show _ = natD (r.of.getD ((h.draw (r.of.length : Int)).1).toNat 0)
    rw [List.getD_eq_getElem?_getD, List.getD_eq_getElem?_getD, List.getElem?_map, List.getElem?_eq_getElem lt]
    rfl
  rw [e]
  rfl
def termV (d : Drv) (p : Tri Int Int Int × Nat) : Rat := shaftT d (p.1.a : Rat) * d.box.getD p.2 0
theorem turnsV_term {d : Drv} {t : List (Tri Int Int Int)} {gs : List Nat} : turnsV d t gs = ((t.zip gs).map (termV d)).sum := rfl
theorem turnsV_sz {d : Drv} {t : List (Tri Int Int Int)} {gs : List Nat} (o : DrvOk d) (h : ∀ p ∈ t, PartOk p) (hl : t.length ≤ 8) (hg : ∀ g ∈ gs, g < d.box.length) : KF.Sz 900 (turnsV d t gs) := by
  rw [turnsV_term]
  refine (sum_sz' _ fun x hx => ?_).mono ?_
  · obtain ⟨p, hp, rfl⟩ := List.mem_map.mp hx
    exact turn_sz o (h _ (List.of_mem_zip hp).1) (hg _ (List.of_mem_zip hp).2)
  · rw [List.length_map, List.length_zip]
    omega
theorem after_add {bs : List Int} {m : Int} : after bs (m + lcmL bs) = after bs m := by
  unfold after
  refine List.map_congr_left fun b hb => ?_
  exact Int.emod_eq_emod_iff_emod_sub_eq_zero.mpr (by
    have : m + lcmL bs - m = lcmL bs := by omega
    rw [this]
    exact Int.emod_eq_zero_of_dvd (KN.lcmF_mem hb))
noncomputable def c_law_right := hf0 (fun h => h.Ok 899940) (fun _ => .bool true) rightH
theorem q_law_right {h : Hand} {n : Int} (o : h.Ok n) (hn : n ≤ 899940) : c_law_right [handD h] = some (.bool true, handD (rightH h)) := hf0_eq (o.mono hn)
theorem l_law_right : ∀ dpre d dpost r d', dpre.length = 0 → dpre.length + 1 + dpost.length = 1 → c_law_right (dpre ++ d :: dpost) = some (r, d') → m_law_right c_law_are_rest_right c_marks_after c_round_of c_belt_after c_law_draw c_law_is_less c_trip_turns c_fewest_turns c_law_plus c_law_times c_law_low c_is_trip_told c_law_any c_law_pulls c_trip_told c_law_good c_turned_by c_law_shaft c_drive_pulls c_shaft_at c_law_drive (seI 0 r d') (envI dpre d dpost 18) := hf0_law (fun h o => by
  obtain ⟨od, ot, os, ⟨s0, s1⟩, key, ok⟩ := right_spec o
  obtain ⟨dg, _, _⟩ := drive_spec o
  obtain ⟨tg, _, tn⟩ := trip_spec od
  have qd := q_law_drive o (by decide)
  have eR : rightH h = if firstStop (driveOf h) (rT h).t = none then restH (rB h).2 else (rS h).2 := rfl
  have eT : rT h = tripS (driveH h) := rfl
  have eS : rS h = (rT h).h.draw 60 := rfl
  have eG : rG h = gearsDr (driveOf h) (rT h).t (rS h).2 := rfl
  have eN : rN h = (rG h).2.draw 3 := rfl
  have eB : rB h = beltDr (rBn h) (rN h).2 := rfl
  have eBn : rBn h = (1 + (rN h).1).toNat := rfl
  rw [← eT] at tg
  rw [e_law_right]
  generalize rightH h = hR at *
  generalize rB h = pB at *
  generalize rBn h = nB at *
  generalize rN h = pN at *
  generalize rG h = pG at *
  generalize rS h = pS at *
  generalize rT h = T at *
  generalize driveOf h = d at *
  generalize driveH h = h1 at *
  simp [b_law_right_0, m_law_right_0, qd]
  simp [b_law_right_1, m_law_right_1]
  obtain ⟨o3, n0, n1⟩ := od.draw (many := 3) (by decide)
  have d1 := q_law_draw (h := h1) (many := 3) (od.mono (by decide)) (by decide) (by decide)
  have rg := rg1_nat (n := tripN h1) (by omega)
  have etn : ((tripN h1 : Nat) : Int) = 1 + (h1.draw 3).1 := by unfold tripN; omega
  rw [etn] at rg
  simp [b_law_right_2, m_law_right_2, d1, rg]
  have eT' : T = iter tripStep (tripN h1) ⟨(h1.draw 3).2, []⟩ := eT
  generalize (h1.draw 3).2 = h2 at *
  have inv : ∀ k, k ≤ tripN h1 → TrI 899970 k (iter tripStep k ⟨h2, []⟩) := iter_inv (f := tripStep) (TrI 899970) (fun k s _ q => q.step) ⟨o3.mono (by decide), rfl, by simp⟩
  refine fm_inv (f := fun i : Nat => PyData.int (i : Int)) (xs := List.range (tripN h1)) (fun pre e => ∃ s3, notIo (some s3) = true ∧ e = [.io (handD (iter tripStep pre.length ⟨h2, []⟩).h), .ow (drvD d), .ow (.list ((iter tripStep pre.length ⟨h2, []⟩).t.map triD)), s3, .no, .no, .no, .no, .no, .no, .no, .no, .no, .no, .no, .no, .no, .no, .no]) ?_ ?_ ?_
  · rintro pre x post e S' hx ⟨s3, h3, rfl⟩ hrt hbk hn _
    obtain ⟨rfl, hlt⟩ := range_pre hx
    have iv := inv x (by omega)
    have hn' := hn [.io (handD (iter tripStep (x + 1) ⟨h2, []⟩).h), .ow (drvD d), .ow (.list ((iter tripStep (x + 1) ⟨h2, []⟩).t.map triD)), .ow (.int (x : Int)), .no, .no, .no, .no, .no, .no, .no, .no, .no, .no, .no, .no, .no, .no, .no] ⟨.ow (.int (x : Int)), rfl, by rw [List.length_append, List.length_range]; rfl⟩
    have es : iter tripStep (x + 1) ⟨h2, []⟩ = tripStep (iter tripStep x ⟨h2, []⟩) := rfl
    rw [es] at hn'
    rw [List.length_range] at *
    generalize iter tripStep x ⟨h2, []⟩ = st at *
    obtain ⟨⟨o1, o2, o3, o4⟩, a, b, e, m, c⟩ := tr_ok iv.o
    have f1 : c_law_draw [handD st.h, .int 5000] = some (.int (trA st.h).1, handD (trA st.h).2) := q_law_draw (iv.o.mono (by omega)) (by decide) (by decide)
    have f2 : c_law_draw [handD (trA st.h).2, .int 40] = some (.int (trB st.h).1, handD (trB st.h).2) := q_law_draw (o1.mono (by omega)) (by decide) (by decide)
    have f3 : c_law_any [handD (trB st.h).2, .list [.int 3, .int 4000]] = some (.int (trM st.h), handD (trE st.h).2) := by
      have q := q_law_any (h := (trB st.h).2) (xs := [.int 3, .int 4000]) (o2.mono (by omega)) (by decide) (by decide) rfl
      rw [q]
      have ee : ((trB st.h).2.draw (([PyData.int 3, PyData.int 4000].length : Nat) : Int)) = trE st.h := rfl
      rw [ee]
      unfold trM
      have : (trE st.h).1 = 0 ∨ (trE st.h).1 = 1 := by omega
      rcases this with z | z
      · rw [z]; rfl
      · rw [z]; rfl
    have f4 : c_law_draw [handD (trE st.h).2, .int (trM st.h)] = some (.int (trC st.h).1, handD (trC st.h).2) := q_law_draw (o3.mono (by omega)) (by omega) (by omega)
    have ga := fun y : D => g_app (xs := st.t.map triD) (x := y) (by have := iv.len; simp; omega)
    simp [h3, f1, f2, f3, f4, isLst, ga]
    simpa [tripStep] using hn'
  · rintro e ⟨s3, h3, rfl⟩
    rw [List.length_range, ← eT']
    have hl := tg.len
    have tok := tg.ok
    have tpl := gl_tupL (fz_tris (es := T.t))
    simp [b_law_right_3, m_law_right_3, tpl]
    have d4 : c_law_draw [handD T.h, .int 60] = some (.int pS.1, handD pS.2) := by rw [eS]; exact q_law_draw (ot.mono (by decide)) (by decide) (by decide)
    simp [b_law_right_4, m_law_right_4, d4]
    have s2 : pS.1 ≤ 100 := by omega
    have q1 := q_shaft_at dg.ok s0 s2
    have q2 := q_law_shaft dg.ok s0 s2
    have q3 := q_drive_pulls dg.ok s0 s2
    have q4 := q_law_pulls dg.ok s0 s2
    simp [b_law_right_5, m_law_right_5, q1, q2, q3, q4, cn_frD, cn_optRs]
    have g4 : gIx (drvD d) (.int 4) = some (.int d.mm) := ix_t (k := 4) rfl
    have g1 : gIx (drvD d) (.int 1) = some (.int d.b) := ix_t (k := 1) rfl
    have g0 : gIx (drvD d) (.int 0) = some (.int d.a) := ix_t (k := 0) rfl
    obtain ⟨Tn, hT⟩ : ∃ z : Int, z = 60 * 1000 * pS.1 := ⟨_, rfl⟩
    have m1 : gMul (.int 60) (.int 1000) = some (.int 60000) := op_ii_mul (i := 60) (j := 1000) (sm_small (by decide) (by decide)) (sm_small (by decide) (by decide))
    have m2 : gMul (.int 60000) (.int pS.1) = some (.int Tn) := by
      rw [hT]
      exact op_ii_mul (i := 60000) (j := pS.1) (sm_small (by decide) (by decide)) (sm_small (by omega) (by omega))
    have ibm : KF.ib 12 d.mm := KF.ib.of (by have := dg.ok.mm; omega) (by have := dg.ok.mm; omega)
    have q5 := q_law_low (t := Tn) (b := d.mm) (by have := dg.ok.mm; omega) (ibm.mono (by decide))
    simp [b_law_right_6, m_law_right_6, m1, m2, g4, q5]
    have szp : KF.Sz 30 (Rat.divInt Tn d.mm) := KF.sz_divInt (by have := dg.ok.mm; omega) (KF.ib.of (by omega) (by omega)) (ibm.mono (by decide))
    have q6 : c_turned_by [.tuple [.int d.b, .int d.a], frD (Rat.divInt Tn d.mm)] = some (frD (turnedV [d.b, d.a] (Rat.divInt Tn d.mm))) := q_turned_by (xs := [d.b, d.a]) rfl (fun x hx => by
      have := dg.a
      have := dg.b
      simp at hx
      omega) (szp.mono (l := 900) (by decide))
    have tnum := turned_num dg.ok s0 hT
    generalize turnedV [d.b, d.a] (Rat.divInt Tn d.mm) = tv at *
    simp [b_law_right_7, m_law_right_7, g0, g1, q6, q2, tnum]
    have ct : T.t.length ≤ cap := capL (by omega)
    have lg : ∀ ε : En, 3 < ε.length → Pd.get ε 1 = some (drvD d) → compL (bName 3) bTrue (eFn 2 c_law_good (aCons (eVar 1) (aCons (eVar 3) aNil))) ε (T.t.map triD) = some (T.t.map fun p => .list ((goodL d p).map natD)) := fun ε he h1 => lcMap fun p hp => by
      have q := q_law_good dg.ok (tok.part p hp)
      simp [get_set_self, get_set_ne, he, h1, q]
    simp [b_law_right_8, m_law_right_8, ct]
    rw [lg _ (by simp) rfl]
    have q9 := q_trip_told dg.ok tok
    simp [b_law_right_9, m_law_right_9, q9]
    have en := gi_enumL (f := fun p : Tri Int Int Int => PyData.list ((goodL d p).map natD)) (xs := T.t)
    have lst : ∀ ε : En, 17 < ε.length → compL (bTup (bCons (bName 16) (bCons (bName 17) bNil))) (tst (e2 cmpEq (eVar 17) (eLst aNil))) (eFrz (eVar 16)) ε (T.t.zipIdx.map fun x => .tuple [.int (x.2 : Int), .list ((goodL d x.1).map natD)]) = some ((stopsL d T.t).map natD) := fun ε he => by
      rw [lcFilter (p := fun x : Tri Int Int Int × Nat => decide (goodL d x.1 = [])) (h := fun x => .int (x.2 : Int))]
      · unfold stopsL
        rw [List.map_map]
        rfl
      · intro x hx
        have cq := cq_ln (xs := goodL d x.1)
        by_cases z : goodL d x.1 = []
        · rw [z] at cq ⊢
          simp at cq
          simp [get_set_self, get_set_ne, he, show 16 < ε.length by omega, cq]
        · simp [z] at cq
          simp [get_set_self, get_set_ne, he, show 16 < ε.length by omega, cq, z]
    simp [b_law_right_10, m_law_right_10, en, ct]
    rw [lst _ (by simp)]
    have sh := stops_head (d := d) (t := T.t)
    have cns := cn_ln (xs := stopsL d T.t)
    have lsl : (stopsL d T.t).length ≤ 10 := by
      unfold stopsL
      have := List.length_filter_le (fun x : Tri Int Int Int × Nat => decide (goodL d x.1 = [])) T.t.zipIdx
      simp at this ⊢
      omega
    cases hs : firstStop d T.t with
    | some x =>
      rw [hs] at sh
      have e12 : toldD d T.t = stopD d x.1 x.2 := by unfold toldD; rw [hs]
      have ok1 : toldOk d T.t (toldD d T.t) := .inl ⟨rfl, by rw [hs]; simp⟩
      have q11 := q_is_trip_told dg.ok tok ok1
      rw [e12] at q11 ⊢
      have hne : stopsL d T.t ≠ [] := fun e => by rw [e] at sh; cases sh
      simp [hne] at cns
      have i0 : gIx (.list ((stopsL d T.t).map natD)) (.int 0) = some (natD x.2) := ix_lm (k := 0) (by rw [← List.head?_eq_getElem?, sh]; rfl)
      obtain ⟨sp1, sp2⟩ := stop_spec hs
      have i2 : gIx (.tuple (T.t.map triD)) (.int (x.2 : Int)) = some (triD x.1) := ix_tm sp1
      have pm := tok.part x.1 (List.mem_of_getElem? sp1)
      have qp := q_law_pulls dg.ok (s := x.1.b) (by have := pm.b; omega) (by have := pm.b; omega)
      have fv : fewV d T.t = none := by unfold fewV; rw [hs]; simp
      have qf := q_fewest_turns dg.ok tok
      rw [fv] at qf
      have qb : c_belt_after [drvD d, .tuple (T.t.map triD), .tuple [.int 9]] = some (encO (beltV d T.t [9])) := q_belt_after (bs := [9]) dg.ok tok ⟨by decide, by decide, fun b hb => by simp at hb; omega⟩ (fun q hq => by rw [fv] at hq; cases hq)
      have bv : beltV d T.t [9] = none := by unfold beltV; rw [fv]; rfl
      rw [bv] at qb
      have tot := ts_tuple (fz_optR (xs := wheelPulls d (shaftAt d x.1.b)))
      have cq : cmpEq (stopD d x.1 x.2) (stopD d x.1 x.2) = some (.bool true) := cq_same (okD_mono (okD_cons (n := 4) okD_str (okD_cons (okD_mono (okD_cons (n := 3) okD_int (okD_cons (okD_mono (okD_mapT (n := 2) fun _ => okD_optR) (by decide)) okD_nil)) (by decide)) okD_nil)) (by decide))
      have cq2 : cmpEq (.bool true) (.bool true) = some (.bool true) := rfl
      rw [hs] at eR
      simp at eR
      simp [b_law_right_11, m_law_right_11, q11, cns]
      simp [b_law_right_12, m_law_right_12, cns, i0, i2, qp, qf, qb, tot, fz_optR, eR]
      have cq' : cmpEq (stopD d x.1 x.2) (.tuple [.str (Str.ofString "stop"), .tuple [natD x.2, .tuple ((wheelPulls d (shaftAt d x.1.b)).map encO)]]) = some (.bool true) := cq
      rw [cq']
      exact ⟨rfl, rfl⟩
    | none =>
      have ok1 : toldOk d T.t (toldD d T.t) := .inr ⟨T.t.map (lastG d), by unfold toldD; rw [hs], by simp, fun p hp => by
        obtain ⟨i, hi, rfl⟩ := List.mem_iff_getElem.mp hp
        have := no_stop hs
        simp at hi
        simp
        exact last_good (this _ (List.getElem_mem hi))⟩
      have q11 := q_is_trip_told dg.ok tok ok1
      have e12 : toldD d T.t = tripD (T.t.map (lastG d)) := by unfold toldD; rw [hs]
      rw [hs] at sh
      have hne : stopsL d T.t = [] := List.head?_eq_none_iff.mp sh
      rw [e12] at q11 ⊢
      have cns0 : cmpNe (.list []) (.list []) = some (.bool false) := rfl
      simp [b_law_right_11, m_law_right_11, q11, hne, cns0]
      simp [b_law_right_12, m_law_right_12, cns0]
      refine ⟨by decide, ?_⟩
      obtain ⟨⟨og, gl, gm⟩, ⟨on, nb1, nb2, nn0⟩, ob, bl, bm⟩ := key hs
      rw [hs] at eR
      simp at eR
      have ls : ∀ ε : En, 17 < ε.length → compL (bName 17) bTrue (eFrz (e2 gIx (eVar 17) (e1 gNeg (eC (.int 1))))) ε (T.t.map fun p => .list ((goodL d p).map natD)) = some ((T.t.map (lastG d)).map natD) := fun ε he => by
        rw [lcMap (h := fun p : Tri Int Int Int => natD (lastG d p))]
        · rw [List.map_map]; rfl
        · intro p hp
          have il := ixl_lastN (no_stop hs p hp)
          have nd : natD ((goodL d p).getLastD 0) = natD (lastG d p) := rfl
          rw [nd] at il
          simp [get_set_self, he, il]
      have fzl : frozenL ((T.t.map (lastG d)).map natD) = true := fz_map (fun _ => rfl) _
      have tpl2 := gl_tupL fzl
      have cnt : cmpNe (tripD (T.t.map (lastG d))) (.tuple [.str (Str.ofString "trip"), .tuple ((T.t.map (lastG d)).map natD)]) = some (.bool false) := cn_same (d := tripD (T.t.map (lastG d))) (okD_mono (okD_cons (n := 4) okD_str (okD_cons (okD_mono (okD_mapT (f := natD) (n := 2) fun _ => okD_int) (by decide)) okD_nil)) (by decide))
      simp [b_law_right_13, m_law_right_13, ct]
      rw [ls _ (by simp)]
      have ll : (T.t.map (lastG d)).length = T.t.length := by simp
      have lm : ∀ p ∈ (T.t.map (lastG d)).zip T.t, p.1 ∈ goodL d p.2 := fun p hp => by
        obtain ⟨i, hi, rfl⟩ := List.mem_iff_getElem.mp hp
        have := no_stop hs
        simp at hi
        simp
        exact last_good (this _ (List.getElem_mem hi))
      have fvv : fewV d T.t = some (turnsV d T.t (T.t.map (lastG d))) := by unfold fewV; rw [hs]; simp
      have tle := turns_le dg T.t pG.1 (fun p hp => ⟨by have := (tg.part p hp).a; omega, no_stop hs p hp⟩) gl gm
      have lbx : ∀ g ∈ T.t.map (lastG d), g < d.box.length := fun g hg => by
        obtain ⟨p, hp, rfl⟩ := List.mem_map.mp hg
        exact good_lt (last_good (no_stop hs p hp))
      have tbd := turns_bd dg T.t (T.t.map (lastG d)) tg.part (by simp) lbx
      generalize T.t.map (lastG d) = lgs at *
      simp [tpl2, cnt]
      have eGd : pG = dEach dAny (rowsOf d T.t) pS.2 := eG
      have er : (rowsOf d T.t).map Enc.enc = T.t.map fun p => PyData.list ((goodL d p).map natD) := by unfold rowsOf; rw [List.map_map]; rfl
      have cd := comp_draws (vs := [17]) (bd := bbName 17) (el := mIo 2 0 c_law_any (mhHole (maCons (mLend 17) maNil))) (d := dAny) (P := fun r g => g ∈ r.of) (k := 1) (T := [Slot.ow (drvD d), Slot.ow (PyData.tuple (List.map triD T.t)), s3, Slot.ow (PyData.int pS.fst), Slot.ow (frD (Rat.divInt Tn d.mm)), Slot.bo (PyData.list (List.map (fun p => PyData.list (List.map natD (goodL d p))) T.t)), Slot.ow (tripD lgs), Slot.ow (PyData.list []), Slot.no, Slot.no, Slot.no, Slot.no, Slot.no, Slot.no, Slot.no, Slot.no, Slot.no, Slot.no]) (rowsOf d T.t) (fun r hr => by
        obtain ⟨p, hp, rfl⟩ := List.mem_map.mp hr
        exact good_any (no_stop hs p hp)) (by decide) (fun r hr h n o hn => by
        obtain ⟨p, hp, rfl⟩ := List.mem_map.mp hr
        have q := q_any (h := h) (r := Lst.mk (goodL d p)) (o.mono (by omega)) (no_stop hs p hp) (goodL_len dg.ok)
        have ee : Enc.enc (Lst.mk (goodL d p)) = PyData.list ((goodL d p).map natD) := rfl
        rw [ee]
        simp only at q
        simp [q]) pS.2 _ os (by simp [rowsOf]; omega)
      rw [er] at cd
      simp [b_law_right_14, m_law_right_14]
      rw [if_pos ⟨rfl, ct⟩, cd, ← eGd]
      have fzp : frozenL (pG.1.map natD) = true := fz_map (fun _ => rfl) _
      have eng : (pG.1.map Enc.enc) = pG.1.map natD := rfl
      have tpg := gl_tupL fzp
      rw [eng]
      simp [tpg, backE, toBo]
      have gbx : ∀ g ∈ pG.1, g < d.box.length := fun g hg => by
        obtain ⟨i, hi, rfl⟩ := List.mem_iff_getElem.mp hg
        have hi' : i < (pG.1.zip T.t).length := by simp; omega
        have := gm _ (List.getElem_mem hi')
        simp at this
        exact good_lt this
      have q15 : c_is_trip_told [drvD d, .tuple (T.t.map triD), .tuple [.str (Str.ofString "trip"), .tuple (pG.1.map natD)]] = some (.bool true) := q_is_trip_told dg.ok tok (.inr ⟨pG.1, rfl, gl, gm⟩)
      simp [b_law_right_15, m_law_right_15, ts_tuple, fzp, q15]
      have gz : giZip [.tuple (T.t.map triD), .tuple (lgs.map natD)] = _ := gi_zip
      have cz : min T.t.length lgs.length ≤ cap := Nat.le_trans (Nat.min_le_left _ _) ct
      simp [b_law_right_16, m_law_right_16, fzl, fz_tris, gz, cz]
      have g2 : gIx (drvD d) (.int 2) = some (.tuple (d.box.map frD)) := ix_t (k := 2) rfl
      have qlt := q_law_low (t := d.b) (b := d.a) (by have := dg.a; omega) ((KF.ib.of (k := 12) (by have := dg.a; omega) (by have := dg.a; omega)).mono (by decide))
      have eb : Rat.divInt d.b d.a = byTeeth d := rfl
      rw [eb] at qlt
      refine fm_inv (f := fun p : Tri Int Int Int × Nat => PyData.tuple [triD p.1, natD p.2]) (xs := T.t.zip lgs) (fun pre e => ∃ s3 s11 s15, (notIo (some s3) = true ∧ notIo (some s11) = true ∧ notIo (some s15) = true ∧ wOk (some s15) = true) ∧ e = [.io (handD pG.2), .ow (drvD d), .ow (.tuple (T.t.map triD)), s3, .ow (.int pS.1), .ow (frD (Rat.divInt Tn d.mm)), .bo (.list (T.t.map fun p => .list ((goodL d p).map natD))), .ow (tripD lgs), .ow (.list []), .ow (.tuple (pG.1.map natD)), .ow (frD ((pre.map (termV d)).sum)), s11, .no, .no, .no, s15, .no, .no, .no]) ?_ ?_ ?_
      · rintro pre x post e S' hx ⟨s3, s11, s15, ⟨h3, h11, h15, w15⟩, rfl⟩ hrt hbk hn _
        have hm : x ∈ T.t.zip lgs := by rw [hx]; simp
        have pok := tok.part _ (List.of_mem_zip hm).1
        have hgx := lbx _ (List.of_mem_zip hm).2
        have ibx := ix_rat hgx
        have mu := op_ii_mul (i := 1000) (j := x.1.a) (sm_small (by decide) (by decide)) (sm_small (by have := pok.a; omega) (by have := pok.a; omega))
        have ql := q_law_low (t := 1000 * x.1.a) (b := d.mm) (by have := dg.ok.mm; omega) (ibm.mono (by decide))
        have sz1 : KF.Sz 30 (Rat.divInt (1000 * x.1.a) d.mm) := KF.sz_divInt (by have := dg.ok.mm; omega) (KF.ib.of (by have := pok.a; omega) (by have := pok.a; omega)) (ibm.mono (by decide))
        have qa := q_law_times (sz1.mono (l := 1990) (by decide)) (dg.ok.sz.mono (by decide))
        have qb := q_law_times ((sz1.mul dg.ok.sz).mono (l := 1990) (by decide)) ((dg.ok.box.sz _ (getD_rat hgx)).mono (by decide))
        have te : Rat.divInt (1000 * x.1.a) d.mm * byTeeth d * d.box.getD x.2 0 = termV d x := turn_eq
        rw [te] at qb
        have tz : KF.Sz 100 (termV d x) := turn_sz dg.ok pok hgx
        have lz : (T.t.zip lgs).length ≤ 3 := by simp; omega
        have pl : pre.length ≤ 3 := by rw [hx] at lz; simp at lz; omega
        have sz := sum_sz' (pre.map (termV d)) (fun y hy => by
          obtain ⟨p, hp, rfl⟩ := List.mem_map.mp hy
          have hm2 : p ∈ T.t.zip lgs := by rw [hx]; exact List.mem_append_left _ hp
          exact turn_sz dg.ok (tok.part _ (List.of_mem_zip hm2).1) (lbx _ (List.of_mem_zip hm2).2))
        have qp := q_law_plus (sz.mono (l := 1990) (by rw [List.length_map]; omega)) (tz.mono (by decide))
        have sn : ((pre ++ [x]).map (termV d)).sum = (pre.map (termV d)).sum + termV d x := by rw [List.map_append, List.map_singleton, sum_snoc']
        have hn' := hn [.io (handD pG.2), .ow (drvD d), .ow (.tuple (T.t.map triD)), .ow (triD x.1), .ow (.int pS.1), .ow (frD (Rat.divInt Tn d.mm)), .bo (.list (T.t.map fun p => .list ((goodL d p).map natD))), .ow (tripD lgs), .ow (.list []), .ow (.tuple (pG.1.map natD)), .ow (frD (((pre ++ [x]).map (termV d)).sum)), .ow (natD x.2), .no, .no, .no, .ow (frD (Rat.divInt (1000 * x.1.a) d.mm)), .no, .no, .no] ⟨.ow (triD x.1), .ow (natD x.2), .ow (frD (Rat.divInt (1000 * x.1.a) d.mm)), ⟨rfl, rfl, rfl, rfl⟩, rfl⟩
        rw [sn] at hn'
        generalize (pre.map (termV d)).sum = acc at *
        generalize d.box.getD x.2 0 = bx at *
        simp [h3, h11, h15, ts_tuple, mu, g4, g1, g0, g2, ibx, ql, qlt, qa, qb, qp]
        exact hn'
      · rintro e ⟨s3, s11, s15, ⟨h3, h11, h15, w15⟩, rfl⟩
        rw [← turnsV_term]
        have q17 := q_trip_turns dg.ok tok ll lbx
        have q17b := q_fewest_turns dg.ok tok
        rw [fvv] at q17b
        have q18 := q_trip_turns dg.ok tok gl gbx
        have sA := turnsV_sz dg.ok (fun p hp => tok.part p hp) (by omega) lbx
        have sB := turnsV_sz dg.ok (fun p hp => tok.part p hp) (by omega) gbx
        have q18b := q_law_is_less (sB.mono (l := 4000) (by decide)) (sA.mono (l := 4000) (by decide))
        have nlt : ¬ turnsV d T.t pG.1 < turnsV d T.t lgs := Rat.not_lt.mpr tle
        rw [decide_eq_false nlt] at q18b
        have qfl : (turnsV d T.t lgs).num / ((turnsV d T.t lgs).den : Int) ≤ 600000000000 := by
          refine fl_le (Rat.le_trans tbd.2 (Rat.intCast_le_intCast.mpr ?_))
          omega
        have qf0 : 0 ≤ (turnsV d T.t lgs).num / ((turnsV d T.t lgs).den : Int) := Int.ediv_nonneg (num_nn tbd.1) (by omega)
        have bdom : ∀ bs : List Int, Belt bs → c_belt_after [drvD d, .tuple (T.t.map triD), tI bs] = some (tI (after bs ((turnsV d T.t lgs).num / ((turnsV d T.t lgs).den : Int) * bs.headD 0))) := fun bs hb => by
          have q := q_belt_after (bs := bs) dg.ok tok hb (fun q hq => by
            rw [fvv] at hq
            have := Option.some.inj hq
            subst this
            exact ⟨tbd.1, by omega⟩)
          rw [q]
          unfold beltV
          rw [fvv]
          rfl
        have tnn := tbd.1
        generalize turnsV d T.t lgs = tv2 at *
        generalize turnsV d T.t pG.1 = tv3 at *
        simp [b_law_right_17, m_law_right_17, q17, q17b, cn_frD]
        simp [b_law_right_18, m_law_right_18, q18, q18b]
        have d19 : c_law_draw [handD pG.2, .int 3] = some (.int pN.1, handD pN.2) := by rw [eN]; exact q_law_draw (og.mono (by decide)) (by decide) (by decide)
        have rg19 := rg1_nat (n := nB) (by omega)
        have enb : ((nB : Nat) : Int) = 1 + pN.1 := by omega
        rw [enb] at rg19
        have eBd : pB = dEach (fun _ : Nat => dMap (fun v => 2 + v) (dDraw 60)) (List.range nB) pN.2 := eB
        simp [b_law_right_19, m_law_right_19, d19, rg19]
        have cd2 := comp_draws (vs := [15]) (bd := bbName 15) (el := Pd.m2 gAdd (mP (eC (PyData.int 2))) (mIo 2 0 c_law_draw (mhHole (maCons (mP (eC (PyData.int 60))) maNil)))) (d := fun _ : Nat => dMap (fun v : Int => 2 + v) (dDraw 60)) (P := fun _ b => 2 ≤ b ∧ b ≤ 61) (k := 1) (T := [Slot.ow (drvD d), Slot.ow (PyData.tuple (List.map triD T.t)), s3, Slot.ow (PyData.int pS.fst), Slot.ow (frD (Rat.divInt Tn d.mm)), Slot.bo (PyData.list (List.map (fun p => PyData.list (List.map natD (goodL d p))) T.t)), Slot.ow (tripD lgs), Slot.ow (PyData.list []), Slot.ow (PyData.tuple (List.map natD pG.fst)), Slot.ow (frD tv2), s11, Slot.no, Slot.no, Slot.no, Slot.no, Slot.no, Slot.no, Slot.no]) (List.range nB) (fun _ _ => good_map (good_draw (by decide)) fun a ha => by omega) (by decide) (fun r hr h n o hn => by
          have q := q_law_draw (h := h) (many := 60) (o.mono (by omega)) (by decide) (by decide)
          simp [q, dMap, dDraw]) pN.2 _ on (by simp; omega)
        have er2 : (List.range nB).map Enc.enc = (List.range nB).map fun i : Nat => PyData.int (i : Int) := rfl
        rw [er2, ← eBd] at cd2
        have cnB : nB ≤ cap := capL (by omega)
        rw [if_pos ⟨by simp [wipeOk, w15], cnB⟩, cd2]
        have fzb : frozenL (pB.1.map .int) = true := fz_ints
        have eng2 : pB.1.map Enc.enc = pB.1.map .int := rfl
        have tpb := gl_tupL fzb
        rw [eng2]
        simp [tpb, backE]
        generalize toBo (some s15) = s15' at *
        have hbelt : Belt pB.1 := ⟨by omega, by omega, fun b hb => by have := bm b hb; omega⟩
        have hd0 : 2 ≤ pB.1.headD 0 ∧ pB.1.headD 0 ≤ 61 := by
          have : 0 < pB.1.length := by omega
          cases hB : pB.1 with
          | nil => rw [hB] at this; cases this
          | cons b bs => exact bm b (by rw [hB]; simp)
        have ih0 : gIx (.tuple (pB.1.map .int)) (.int 0) = some (.int (pB.1.headD 0)) := by
          have : 0 < pB.1.length := by omega
          cases hB : pB.1 with
          | nil => rw [hB] at this; cases this
          | cons b bs => exact ix_t (k := 0) rfl
        have qbl := bdom pB.1 hbelt
        have qrd := q_round_of hbelt
        generalize pB.1.headD 0 = b0 at *
        have dv := op_ii_div (i := tv2.num) (j := (tv2.den : Int)) (KF.den_pos' tv2) (sA.d.sm)
        generalize tv2.num / (tv2.den : Int) = fl at *
        have mu20 := op_ii_mul (i := fl) (j := b0) (sm_small (by omega) (by omega)) (sm_small (by omega) (by omega))
        simp [b_law_right_20, m_law_right_20, dv, ih0, mu20]
        obtain ⟨mv, hmv⟩ : ∃ z : Int, z = fl * b0 := ⟨_, rfl⟩
        have hmv0 : 0 ≤ mv := by rw [hmv]; exact Int.mul_nonneg qf0 (by omega)
        have hmv1 : mv ≤ 600000000000 * 61 := by rw [hmv]; exact Int.mul_le_mul qfl hd0.2 (by omega) (by omega)
        rw [← hmv] at qbl ⊢
        have lcb : ∀ ε : En, 18 < ε.length → Pd.get ε 13 = some (.int mv) → compL (bName 18) bTrue (e2 gMod (eCall gInt (aCons (eVar 13) aNil)) (eVar 18)) ε (pB.1.map .int) = some ((after pB.1 mv).map .int) := fun ε he h13 => by
          rw [lcMap (h := fun b : Int => .int (mv % b))]
          · unfold after
            rw [List.map_map]
            rfl
          · intro b hb
            have := bm b hb
            have md := op_ii_mod (i := mv) (j := b) (by omega)
            simp [get_set_self, get_set_ne, he, h13, md]
        have cpb : pB.1.length ≤ cap := capL (by omega)
        have fza : frozenL ((after pB.1 mv).map .int) = true := fz_ints
        have tpa := gl_tupL fza
        simp [b_law_right_21, m_law_right_21, qbl, cpb]
        rw [lcb _ (by simp) rfl]
        simp [tpa]
        have lb : lcmL pB.1 ≤ 1 * 400 ^ 6 := KN.lcmF_le 6 (by decide) (Int.le_refl _) (fun b hb => by have := bm b hb; omega) (by omega) (by decide)
        have lp : 0 < lcmL pB.1 := KN.lcmF_pos (by decide) (fun b hb => by have := bm b hb; omega)
        have ad22 := op_ii_add (i := mv) (j := lcmL pB.1)
        have q22 := q_marks_after (m := mv + lcmL pB.1) hbelt (by omega) (by omega)
        rw [after_add] at q22
        simp [b_law_right_22, m_law_right_22, qbl, qrd, ad22, q22]
        have q23 := q_law_are_rest_right ob (by decide) dg tok
        rw [← eR] at q23
        simp [b_law_right_23, m_law_right_23, q23]
      · exact ⟨s3, .no, .no, ⟨h3, rfl, rfl, rfl⟩, rfl⟩
  · exact ⟨.no, rfl, rfl⟩)
theorem turn_pos : (0 : Int) ≤ 60 := by decide
theorem turn_right (h : Hand) (n : Int) (o : h.Ok n) (hn : n + 60 ≤ 900000) : c_law_right [handD h] = some (.bool true, handD (rightH h)) ∧ (rightH h).Ok (n + 60) := by
  obtain ⟨_, _, _, _, _, ok⟩ := right_spec o
  exact ⟨q_law_right o (by omega), ok.mono (by omega)⟩
noncomputable def c_law := gOf (fun ns : List Int => [scrD ns]) (fun ns => ns.length ≤ 63) (fun _ => .bool true)
theorem l_law : ∀ ds d, ds.length = 1 → c_law ds = some d → m_law c_law_right c_law_hand (seP d) (envP ds 2) := by
  intro ds d _ h
  obtain ⟨ns, hn, rfl, rfl⟩ := gOf_inv h
  have o := handOf_ok hn
  obtain ⟨h', e⟩ := comp_turns turn_pos turn_right (q0 := .bo (scrD ns)) (T := [.no]) (j := 0) rfl [0, 1, 2] (handOf ns) 0 o (by decide)
  have q := q_law_hand hn
  have ts : toSl (scrD ns) = .bo (scrD ns) := rfl
  have rg := rg1_nat (n := 3) (by decide)
  have r3 : ((List.range 3).map fun i : Nat => PyData.int (i : Int)) = [0, 1, 2].map PyData.int := rfl
  have c3 : 3 ≤ cap := capL (by decide)
  have ga : gAll [.list ([0, 1, 2].map fun _ : Int => PyData.bool true)] = some (.bool true) := by
    have := gl_all' (xs := [0, 1, 2]) (p := fun _ : Int => true)
    simpa using this
  rw [r3] at rg
  simp at rg e ga
  simp [m_law, ts, q, rg, c3, wipeOk, wOk]
  rw [e]
  simp [ga, backE, toBo]
theorem c_law_says : ∀ ns : List Int, ns.length ≤ 63 → c_law [.dict [(.bool true, .list (ns.map .int))]] = some (.bool true) := fun ns h => gOf_eq (f := fun ns : List Int => [scrD ns]) (fun _ _ _ => rfl) (a := ns) h
end KK

set_option Elab.async false
set_option linter.all false
set_option maxRecDepth 100000
set_option maxHeartbeats 0
/-! the head: what the top leaves; each def keeps its promise. -/
namespace Gen
open PySem PySem.Spec PyProof.Rows L2 Pd
section
variable {P : Program} {w : World} {K : PySem.W.Frag} {mg : Str → Option Value} {base : Heap}
theorem O_law {f : Addr} {fd : FuncData} (F : Fun K "law" "law" s_law f fd) (hb : L2.Binds K fd ["script"] []) (hm : mg "law" = some (.ref f)) (z_range : mg "range" = none) (z_all : mg "all" = none) {g_law_right : List D → Option (D × D)} (F_law_right : FnD P w K mg base "_law_right" 11 (spI K 1 0 g_law_right)) {g_law_hand : List D → Option D} (F_law_hand : FnD P w K mg base "_law_hand" 1 (spP K 1 g_law_hand))
    {g : List D → Option D} (law : ∀ ds d, ds.length = 1 → g ds = some d → m_law g_law_right g_law_hand (seP d) (envP ds 2)) : FnRG P w K mg base 12 f (spP K 1 g) := by
  refine okP (k := 11) F sc_law hb hm (fun cdv A outer s H E hr => ?_) law
  have hu := hu64 hr
  have hu1 := hu1G hr
  have nd := sc_law.nd
  exact ⟨_, (ss_cons (ss_set (i := 1) nd (mm_pf (pf_fn F_law_hand (hr.mono (by decide)) (ar_cons (pv' 0) ar_nil))))
    (ss_one (ss_ret (mm_cb (c_all) z_all (ma_cons (mv_mm (mm_lc (own := [("turn", 2)]) nd (mi_of (it_rg1 z_range) (ma_cons (mv_pf pk_int) ma_nil)) (blkOk_by (own := [("turn", 2)]) (N := N_law) (sc := defScope s_law) (by decide +kernel)) (fun _ _ _ _ _ => (bt_name 2 nd)) (fun _ _ _ _ _ => mts_nil) (fun _ _ _ _ _ => (mm_io F_law_right (hr.mono (by decide)) (mh_hole (i := 1) ma_nil))))) ma_nil)))))⟩
end
end Gen
namespace Head
open PySem PySem.Spec PyProof.Rows L2 Pd Gen
theorem facts_ok {P : Program} {w : World} {K : PySem.W.Frag} {h : Heap} {mg : Str → Option Value} {fd : FuncData} (X : K.In h) (G : h.Ns mainGlobals mg) (c : He.SaysD fa fn K) (F_law : Fun K "law" "law" s_law (He.ga K "law") fd) (base : Heap) (XB : K.In base) (GB : base.Ns mainGlobals mg) : FnRG P w K mg base 12 (He.ga K "law") (spP K 1 KK.c_law) := by
  obtain ⟨fd_law_hand, FD_law_hand⟩ := c.def_ 0 (d := d_law_hand) rfl
  have F_law_hand := fun_of (st := s_law_hand) FD_law_hand rfl
  have G_law_hand : mg "_law_hand" = some (.ref (He.ga K "_law_hand")) := He.glo_ok X G (c.fact 0 (f := .glo "_law_hand") rfl)
  obtain ⟨fd_law_low, FD_law_low⟩ := c.def_ 1 (d := d_law_low) rfl
  have F_law_low := fun_of (st := s_law_low) FD_law_low rfl
  have G_law_low : mg "_law_low" = some (.ref (He.ga K "_law_low")) := He.glo_ok X G (c.fact 1 (f := .glo "_law_low") rfl)
  obtain ⟨fd_law_times, FD_law_times⟩ := c.def_ 2 (d := d_law_times) rfl
  have F_law_times := fun_of (st := s_law_times) FD_law_times rfl
  have G_law_times : mg "_law_times" = some (.ref (He.ga K "_law_times")) := He.glo_ok X G (c.fact 2 (f := .glo "_law_times") rfl)
  obtain ⟨fd_law_draw, FD_law_draw⟩ := c.def_ 3 (d := d_law_draw) rfl
  have F_law_draw := fun_of (st := s_law_draw) FD_law_draw rfl
  have G_law_draw : mg "_law_draw" = some (.ref (He.ga K "_law_draw")) := He.glo_ok X G (c.fact 3 (f := .glo "_law_draw") rfl)
  obtain ⟨fd_law_drive, FD_law_drive⟩ := c.def_ 4 (d := d_law_drive) rfl
  have F_law_drive := fun_of (st := s_law_drive) FD_law_drive rfl
  have G_law_drive : mg "_law_drive" = some (.ref (He.ga K "_law_drive")) := He.glo_ok X G (c.fact 4 (f := .glo "_law_drive") rfl)
  obtain ⟨fd_is_less, FD_is_less⟩ := c.def_ 5 (d := d_is_less) rfl
  have F_is_less := fun_of (st := s_is_less) FD_is_less rfl
  have G_is_less : mg "is_less" = some (.ref (He.ga K "is_less")) := He.glo_ok X G (c.fact 5 (f := .glo "is_less") rfl)
  obtain ⟨fd_shared, FD_shared⟩ := c.def_ 6 (d := d_shared) rfl
  have F_shared := fun_of (st := s_shared) FD_shared rfl
  have G_shared : mg "shared" = some (.ref (He.ga K "shared")) := He.glo_ok X G (c.fact 6 (f := .glo "shared") rfl)
  obtain ⟨fd_is_integer, FD_is_integer⟩ := c.def_ 7 (d := d_is_integer) rfl
  have F_is_integer := fun_of (st := s_is_integer) FD_is_integer rfl
  have G_is_integer : mg "is_integer" = some (.ref (He.ga K "is_integer")) := He.glo_ok X G (c.fact 7 (f := .glo "is_integer") rfl)
  obtain ⟨fd_is_fraction, FD_is_fraction⟩ := c.def_ 8 (d := d_is_fraction) rfl
  have F_is_fraction := fun_of (st := s_is_fraction) FD_is_fraction rfl
  have G_is_fraction : mg "is_fraction" = some (.ref (He.ga K "is_fraction")) := He.glo_ok X G (c.fact 8 (f := .glo "is_fraction") rfl)
  obtain ⟨fd_is_part, FD_is_part⟩ := c.def_ 9 (d := d_is_part) rfl
  have F_is_part := fun_of (st := s_is_part) FD_is_part rfl
  have G_is_part : mg "is_part" = some (.ref (He.ga K "is_part")) := He.glo_ok X G (c.fact 9 (f := .glo "is_part") rfl)
  obtain ⟨fd_is_gearbox, FD_is_gearbox⟩ := c.def_ 10 (d := d_is_gearbox) rfl
  have F_is_gearbox := fun_of (st := s_is_gearbox) FD_is_gearbox rfl
  have G_is_gearbox : mg "is_gearbox" = some (.ref (He.ga K "is_gearbox")) := He.glo_ok X G (c.fact 10 (f := .glo "is_gearbox") rfl)
  obtain ⟨fd_is_within, FD_is_within⟩ := c.def_ 11 (d := d_is_within) rfl
  have F_is_within := fun_of (st := s_is_within) FD_is_within rfl
  have G_is_within : mg "is_within" = some (.ref (He.ga K "is_within")) := He.glo_ok X G (c.fact 11 (f := .glo "is_within") rfl)
  obtain ⟨fd_is_engine, FD_is_engine⟩ := c.def_ 12 (d := d_is_engine) rfl
  have F_is_engine := fun_of (st := s_is_engine) FD_is_engine rfl
  have G_is_engine : mg "is_engine" = some (.ref (He.ga K "is_engine")) := He.glo_ok X G (c.fact 12 (f := .glo "is_engine") rfl)
  obtain ⟨fd_is_row, FD_is_row⟩ := c.def_ 13 (d := d_is_row) rfl
  have F_is_row := fun_of (st := s_is_row) FD_is_row rfl
  have G_is_row : mg "is_row" = some (.ref (He.ga K "is_row")) := He.glo_ok X G (c.fact 13 (f := .glo "is_row") rfl)
  obtain ⟨fd_is_drive, FD_is_drive⟩ := c.def_ 14 (d := d_is_drive) rfl
  have F_is_drive := fun_of (st := s_is_drive) FD_is_drive rfl
  have G_is_drive : mg "is_drive" = some (.ref (He.ga K "is_drive")) := He.glo_ok X G (c.fact 14 (f := .glo "is_drive") rfl)
  obtain ⟨fd_is_trip, FD_is_trip⟩ := c.def_ 15 (d := d_is_trip) rfl
  have F_is_trip := fun_of (st := s_is_trip) FD_is_trip rfl
  have G_is_trip : mg "is_trip" = some (.ref (He.ga K "is_trip")) := He.glo_ok X G (c.fact 15 (f := .glo "is_trip") rfl)
  obtain ⟨fd_check_drive, FD_check_drive⟩ := c.def_ 16 (d := d_check_drive) rfl
  have F_check_drive := fun_of (st := s_check_drive) FD_check_drive rfl
  have G_check_drive : mg "check_drive" = some (.ref (He.ga K "check_drive")) := He.glo_ok X G (c.fact 16 (f := .glo "check_drive") rfl)
  obtain ⟨fd_pull_of, FD_pull_of⟩ := c.def_ 17 (d := d_pull_of) rfl
  have F_pull_of := fun_of (st := s_pull_of) FD_pull_of rfl
  have G_pull_of : mg "pull_of" = some (.ref (He.ga K "pull_of")) := He.glo_ok X G (c.fact 17 (f := .glo "pull_of") rfl)
  obtain ⟨fd_low, FD_low⟩ := c.def_ 18 (d := d_low) rfl
  have F_low := fun_of (st := s_low) FD_low rfl
  have G_low : mg "low" = some (.ref (He.ga K "low")) := He.glo_ok X G (c.fact 18 (f := .glo "low") rfl)
  obtain ⟨fd_times, FD_times⟩ := c.def_ 19 (d := d_times) rfl
  have F_times := fun_of (st := s_times) FD_times rfl
  have G_times : mg "times" = some (.ref (He.ga K "times")) := He.glo_ok X G (c.fact 19 (f := .glo "times") rfl)
  obtain ⟨fd_pulls_of, FD_pulls_of⟩ := c.def_ 20 (d := d_pulls_of) rfl
  have F_pulls_of := fun_of (st := s_pulls_of) FD_pulls_of rfl
  have G_pulls_of : mg "pulls_of" = some (.ref (He.ga K "pulls_of")) := He.glo_ok X G (c.fact 20 (f := .glo "pulls_of") rfl)
  obtain ⟨fd_wheel_pulls_drives, FD_wheel_pulls_drives⟩ := c.def_ 21 (d := d_wheel_pulls_drives) rfl
  have F_wheel_pulls_drives := fun_of (st := s_wheel_pulls_drives) FD_wheel_pulls_drives rfl
  have G_wheel_pulls_drives : mg "wheel_pulls_drives" = some (.ref (He.ga K "wheel_pulls_drives")) := He.glo_ok X G (c.fact 21 (f := .glo "wheel_pulls_drives") rfl)
  obtain ⟨fd_shaft_turns, FD_shaft_turns⟩ := c.def_ 22 (d := d_shaft_turns) rfl
  have F_shaft_turns := fun_of (st := s_shaft_turns) FD_shaft_turns rfl
  have G_shaft_turns : mg "shaft_turns" = some (.ref (He.ga K "shaft_turns")) := He.glo_ok X G (c.fact 22 (f := .glo "shaft_turns") rfl)
  obtain ⟨fd_shaft_at, FD_shaft_at⟩ := c.def_ 23 (d := d_shaft_at) rfl
  have F_shaft_at := fun_of (st := s_shaft_at) FD_shaft_at rfl
  have G_shaft_at : mg "shaft_at" = some (.ref (He.ga K "shaft_at")) := He.glo_ok X G (c.fact 23 (f := .glo "shaft_at") rfl)
  obtain ⟨fd_gears_good, FD_gears_good⟩ := c.def_ 24 (d := d_gears_good) rfl
  have F_gears_good := fun_of (st := s_gears_good) FD_gears_good rfl
  have G_gears_good : mg "gears_good" = some (.ref (He.ga K "gears_good")) := He.glo_ok X G (c.fact 24 (f := .glo "gears_good") rfl)
  obtain ⟨fd_drive_pulls, FD_drive_pulls⟩ := c.def_ 25 (d := d_drive_pulls) rfl
  have F_drive_pulls := fun_of (st := s_drive_pulls) FD_drive_pulls rfl
  have G_drive_pulls : mg "drive_pulls" = some (.ref (He.ga K "drive_pulls")) := He.glo_ok X G (c.fact 25 (f := .glo "drive_pulls") rfl)
  obtain ⟨fd_trip_told, FD_trip_told⟩ := c.def_ 26 (d := d_trip_told) rfl
  have F_trip_told := fun_of (st := s_trip_told) FD_trip_told rfl
  have G_trip_told : mg "trip_told" = some (.ref (He.ga K "trip_told")) := He.glo_ok X G (c.fact 26 (f := .glo "trip_told") rfl)
  obtain ⟨fd_law_is_less, FD_law_is_less⟩ := c.def_ 27 (d := d_law_is_less) rfl
  have F_law_is_less := fun_of (st := s_law_is_less) FD_law_is_less rfl
  have G_law_is_less : mg "_law_is_less" = some (.ref (He.ga K "_law_is_less")) := He.glo_ok X G (c.fact 27 (f := .glo "_law_is_less") rfl)
  obtain ⟨fd_check_reading, FD_check_reading⟩ := c.def_ 28 (d := d_check_reading) rfl
  have F_check_reading := fun_of (st := s_check_reading) FD_check_reading rfl
  have G_check_reading : mg "check_reading" = some (.ref (He.ga K "check_reading")) := He.glo_ok X G (c.fact 28 (f := .glo "check_reading") rfl)
  obtain ⟨fd_turned_between, FD_turned_between⟩ := c.def_ 29 (d := d_turned_between) rfl
  have F_turned_between := fun_of (st := s_turned_between) FD_turned_between rfl
  have G_turned_between : mg "turned_between" = some (.ref (He.ga K "turned_between")) := He.glo_ok X G (c.fact 29 (f := .glo "turned_between") rfl)
  obtain ⟨fd_wheel_turns, FD_wheel_turns⟩ := c.def_ 30 (d := d_wheel_turns) rfl
  have F_wheel_turns := fun_of (st := s_wheel_turns) FD_wheel_turns rfl
  have G_wheel_turns : mg "wheel_turns" = some (.ref (He.ga K "wheel_turns")) := He.glo_ok X G (c.fact 30 (f := .glo "wheel_turns") rfl)
  obtain ⟨fd_plus, FD_plus⟩ := c.def_ 31 (d := d_plus) rfl
  have F_plus := fun_of (st := s_plus) FD_plus rfl
  have G_plus : mg "plus" = some (.ref (He.ga K "plus")) := He.glo_ok X G (c.fact 31 (f := .glo "plus") rfl)
  obtain ⟨fd_sum_of, FD_sum_of⟩ := c.def_ 32 (d := d_sum_of) rfl
  have F_sum_of := fun_of (st := s_sum_of) FD_sum_of rfl
  have G_sum_of : mg "sum_of" = some (.ref (He.ga K "sum_of")) := He.glo_ok X G (c.fact 32 (f := .glo "sum_of") rfl)
  obtain ⟨fd_trip_time, FD_trip_time⟩ := c.def_ 33 (d := d_trip_time) rfl
  have F_trip_time := fun_of (st := s_trip_time) FD_trip_time rfl
  have G_trip_time : mg "trip_time" = some (.ref (He.ga K "trip_time")) := He.glo_ok X G (c.fact 33 (f := .glo "trip_time") rfl)
  obtain ⟨fd_law_plus, FD_law_plus⟩ := c.def_ 34 (d := d_law_plus) rfl
  have F_law_plus := fun_of (st := s_law_plus) FD_law_plus rfl
  have G_law_plus : mg "_law_plus" = some (.ref (He.ga K "_law_plus")) := He.glo_ok X G (c.fact 34 (f := .glo "_law_plus") rfl)
  obtain ⟨fd_law_sum, FD_law_sum⟩ := c.def_ 35 (d := d_law_sum) rfl
  have F_law_sum := fun_of (st := s_law_sum) FD_law_sum rfl
  have G_law_sum : mg "_law_sum" = some (.ref (He.ga K "_law_sum")) := He.glo_ok X G (c.fact 35 (f := .glo "_law_sum") rfl)
  obtain ⟨fd_check_gearbox, FD_check_gearbox⟩ := c.def_ 36 (d := d_check_gearbox) rfl
  have F_check_gearbox := fun_of (st := s_check_gearbox) FD_check_gearbox rfl
  have G_check_gearbox : mg "check_gearbox" = some (.ref (He.ga K "check_gearbox")) := He.glo_ok X G (c.fact 36 (f := .glo "check_gearbox") rfl)
  obtain ⟨fd_check_both, FD_check_both⟩ := c.def_ 37 (d := d_check_both) rfl
  have F_check_both := fun_of (st := s_check_both) FD_check_both rfl
  have G_check_both : mg "check_both" = some (.ref (He.ga K "check_both")) := He.glo_ok X G (c.fact 37 (f := .glo "check_both") rfl)
  obtain ⟨fd_is_speed, FD_is_speed⟩ := c.def_ 38 (d := d_is_speed) rfl
  have F_is_speed := fun_of (st := s_is_speed) FD_is_speed rfl
  have G_is_speed : mg "is_speed" = some (.ref (He.ga K "is_speed")) := He.glo_ok X G (c.fact 38 (f := .glo "is_speed") rfl)
  obtain ⟨fd_wheel_pulls_gearboxes, FD_wheel_pulls_gearboxes⟩ := c.def_ 39 (d := d_wheel_pulls_gearboxes) rfl
  have F_wheel_pulls_gearboxes := fun_of (st := s_wheel_pulls_gearboxes) FD_wheel_pulls_gearboxes rfl
  have G_wheel_pulls_gearboxes : mg "wheel_pulls_gearboxes" = some (.ref (He.ga K "wheel_pulls_gearboxes")) := He.glo_ok X G (c.fact 39 (f := .glo "wheel_pulls_gearboxes") rfl)
  obtain ⟨fd_check_speed, FD_check_speed⟩ := c.def_ 40 (d := d_check_speed) rfl
  have F_check_speed := fun_of (st := s_check_speed) FD_check_speed rfl
  have G_check_speed : mg "check_speed" = some (.ref (He.ga K "check_speed")) := He.glo_ok X G (c.fact 40 (f := .glo "check_speed") rfl)
  obtain ⟨fd_revs_at, FD_revs_at⟩ := c.def_ 41 (d := d_revs_at) rfl
  have F_revs_at := fun_of (st := s_revs_at) FD_revs_at rfl
  have G_revs_at : mg "revs_at" = some (.ref (He.ga K "revs_at")) := He.glo_ok X G (c.fact 41 (f := .glo "revs_at") rfl)
  obtain ⟨fd_top_speed, FD_top_speed⟩ := c.def_ 42 (d := d_top_speed) rfl
  have F_top_speed := fun_of (st := s_top_speed) FD_top_speed rfl
  have G_top_speed : mg "top_speed" = some (.ref (He.ga K "top_speed")) := He.glo_ok X G (c.fact 42 (f := .glo "top_speed") rfl)
  obtain ⟨fd_odometer_after, FD_odometer_after⟩ := c.def_ 43 (d := d_odometer_after) rfl
  have F_odometer_after := fun_of (st := s_odometer_after) FD_odometer_after rfl
  have G_odometer_after : mg "odometer_after" = some (.ref (He.ga K "odometer_after")) := He.glo_ok X G (c.fact 43 (f := .glo "odometer_after") rfl)
  obtain ⟨fd_pull_at, FD_pull_at⟩ := c.def_ 44 (d := d_pull_at) rfl
  have F_pull_at := fun_of (st := s_pull_at) FD_pull_at rfl
  have G_pull_at : mg "pull_at" = some (.ref (He.ga K "pull_at")) := He.glo_ok X G (c.fact 44 (f := .glo "pull_at") rfl)
  obtain ⟨fd_over, FD_over⟩ := c.def_ 45 (d := d_over) rfl
  have F_over := fun_of (st := s_over) FD_over rfl
  have G_over : mg "over" = some (.ref (He.ga K "over")) := He.glo_ok X G (c.fact 45 (f := .glo "over") rfl)
  obtain ⟨fd_steps_of, FD_steps_of⟩ := c.def_ 46 (d := d_steps_of) rfl
  have F_steps_of := fun_of (st := s_steps_of) FD_steps_of rfl
  have G_steps_of : mg "steps_of" = some (.ref (He.ga K "steps_of")) := He.glo_ok X G (c.fact 46 (f := .glo "steps_of") rfl)
  obtain ⟨fd_shown, FD_shown⟩ := c.def_ 47 (d := d_shown) rfl
  have F_shown := fun_of (st := s_shown) FD_shown rfl
  have G_shown : mg "shown" = some (.ref (He.ga K "shown")) := He.glo_ok X G (c.fact 47 (f := .glo "shown") rfl)
  obtain ⟨fd_tops_of, FD_tops_of⟩ := c.def_ 48 (d := d_tops_of) rfl
  have F_tops_of := fun_of (st := s_tops_of) FD_tops_of rfl
  have G_tops_of : mg "tops_of" = some (.ref (He.ga K "tops_of")) := He.glo_ok X G (c.fact 48 (f := .glo "tops_of") rfl)
  obtain ⟨fd_law_shaft, FD_law_shaft⟩ := c.def_ 49 (d := d_law_shaft) rfl
  have F_law_shaft := fun_of (st := s_law_shaft) FD_law_shaft rfl
  have G_law_shaft : mg "_law_shaft" = some (.ref (He.ga K "_law_shaft")) := He.glo_ok X G (c.fact 49 (f := .glo "_law_shaft") rfl)
  obtain ⟨fd_law_pulls, FD_law_pulls⟩ := c.def_ 50 (d := d_law_pulls) rfl
  have F_law_pulls := fun_of (st := s_law_pulls) FD_law_pulls rfl
  have G_law_pulls : mg "_law_pulls" = some (.ref (He.ga K "_law_pulls")) := He.glo_ok X G (c.fact 50 (f := .glo "_law_pulls") rfl)
  obtain ⟨fd_law_good, FD_law_good⟩ := c.def_ 51 (d := d_law_good) rfl
  have F_law_good := fun_of (st := s_law_good) FD_law_good rfl
  have G_law_good : mg "_law_good" = some (.ref (He.ga K "_law_good")) := He.glo_ok X G (c.fact 51 (f := .glo "_law_good") rfl)
  obtain ⟨fd_wheel_at, FD_wheel_at⟩ := c.def_ 52 (d := d_wheel_at) rfl
  have F_wheel_at := fun_of (st := s_wheel_at) FD_wheel_at rfl
  have G_wheel_at : mg "wheel_at" = some (.ref (He.ga K "wheel_at")) := He.glo_ok X G (c.fact 52 (f := .glo "wheel_at") rfl)
  obtain ⟨fd_law_are_rest_right, FD_law_are_rest_right⟩ := c.def_ 53 (d := d_law_are_rest_right) rfl
  have F_law_are_rest_right := fun_of (st := s_law_are_rest_right) FD_law_are_rest_right rfl
  have G_law_are_rest_right : mg "_law_are_rest_right" = some (.ref (He.ga K "_law_are_rest_right")) := He.glo_ok X G (c.fact 53 (f := .glo "_law_are_rest_right") rfl)
  obtain ⟨fd_is_trip_told, FD_is_trip_told⟩ := c.def_ 54 (d := d_is_trip_told) rfl
  have F_is_trip_told := fun_of (st := s_is_trip_told) FD_is_trip_told rfl
  have G_is_trip_told : mg "is_trip_told" = some (.ref (He.ga K "is_trip_told")) := He.glo_ok X G (c.fact 54 (f := .glo "is_trip_told") rfl)
  obtain ⟨fd_trip_turns, FD_trip_turns⟩ := c.def_ 55 (d := d_trip_turns) rfl
  have F_trip_turns := fun_of (st := s_trip_turns) FD_trip_turns rfl
  have G_trip_turns : mg "trip_turns" = some (.ref (He.ga K "trip_turns")) := He.glo_ok X G (c.fact 55 (f := .glo "trip_turns") rfl)
  obtain ⟨fd_fewest_turns, FD_fewest_turns⟩ := c.def_ 56 (d := d_fewest_turns) rfl
  have F_fewest_turns := fun_of (st := s_fewest_turns) FD_fewest_turns rfl
  have G_fewest_turns : mg "fewest_turns" = some (.ref (He.ga K "fewest_turns")) := He.glo_ok X G (c.fact 56 (f := .glo "fewest_turns") rfl)
  obtain ⟨fd_is_some, FD_is_some⟩ := c.def_ 57 (d := d_is_some) rfl
  have F_is_some := fun_of (st := s_is_some) FD_is_some rfl
  have G_is_some : mg "is_some" = some (.ref (He.ga K "is_some")) := He.glo_ok X G (c.fact 57 (f := .glo "is_some") rfl)
  obtain ⟨fd_is_belt, FD_is_belt⟩ := c.def_ 58 (d := d_is_belt) rfl
  have F_is_belt := fun_of (st := s_is_belt) FD_is_belt rfl
  have G_is_belt : mg "is_belt" = some (.ref (He.ga K "is_belt")) := He.glo_ok X G (c.fact 58 (f := .glo "is_belt") rfl)
  obtain ⟨fd_check_belt, FD_check_belt⟩ := c.def_ 59 (d := d_check_belt) rfl
  have F_check_belt := fun_of (st := s_check_belt) FD_check_belt rfl
  have G_check_belt : mg "check_belt" = some (.ref (He.ga K "check_belt")) := He.glo_ok X G (c.fact 59 (f := .glo "check_belt") rfl)
  obtain ⟨fd_check_moved, FD_check_moved⟩ := c.def_ 60 (d := d_check_moved) rfl
  have F_check_moved := fun_of (st := s_check_moved) FD_check_moved rfl
  have G_check_moved : mg "check_moved" = some (.ref (He.ga K "check_moved")) := He.glo_ok X G (c.fact 60 (f := .glo "check_moved") rfl)
  obtain ⟨fd_marks_after, FD_marks_after⟩ := c.def_ 61 (d := d_marks_after) rfl
  have F_marks_after := fun_of (st := s_marks_after) FD_marks_after rfl
  have G_marks_after : mg "marks_after" = some (.ref (He.ga K "marks_after")) := He.glo_ok X G (c.fact 61 (f := .glo "marks_after") rfl)
  obtain ⟨fd_belt_after, FD_belt_after⟩ := c.def_ 62 (d := d_belt_after) rfl
  have F_belt_after := fun_of (st := s_belt_after) FD_belt_after rfl
  have G_belt_after : mg "belt_after" = some (.ref (He.ga K "belt_after")) := He.glo_ok X G (c.fact 62 (f := .glo "belt_after") rfl)
  obtain ⟨fd_check_teeth, FD_check_teeth⟩ := c.def_ 63 (d := d_check_teeth) rfl
  have F_check_teeth := fun_of (st := s_check_teeth) FD_check_teeth rfl
  have G_check_teeth : mg "check_teeth" = some (.ref (He.ga K "check_teeth")) := He.glo_ok X G (c.fact 63 (f := .glo "check_teeth") rfl)
  obtain ⟨fd_turned_by, FD_turned_by⟩ := c.def_ 64 (d := d_turned_by) rfl
  have F_turned_by := fun_of (st := s_turned_by) FD_turned_by rfl
  have G_turned_by : mg "turned_by" = some (.ref (He.ga K "turned_by")) := He.glo_ok X G (c.fact 64 (f := .glo "turned_by") rfl)
  obtain ⟨fd_law_any, FD_law_any⟩ := c.def_ 65 (d := d_law_any) rfl
  have F_law_any := fun_of (st := s_law_any) FD_law_any rfl
  have G_law_any : mg "_law_any" = some (.ref (He.ga K "_law_any")) := He.glo_ok X G (c.fact 65 (f := .glo "_law_any") rfl)
  obtain ⟨fd_round_of, FD_round_of⟩ := c.def_ 66 (d := d_round_of) rfl
  have F_round_of := fun_of (st := s_round_of) FD_round_of rfl
  have G_round_of : mg "round_of" = some (.ref (He.ga K "round_of")) := He.glo_ok X G (c.fact 66 (f := .glo "round_of") rfl)
  obtain ⟨fd_law_right, FD_law_right⟩ := c.def_ 67 (d := d_law_right) rfl
  have F_law_right := fun_of (st := s_law_right) FD_law_right rfl
  have G_law_right : mg "_law_right" = some (.ref (He.ga K "_law_right")) := He.glo_ok X G (c.fact 67 (f := .glo "_law_right") rfl)
  have G_law : mg "law" = some (.ref (He.ga K "law")) := He.glo_ok X G (c.fact 68 (f := .glo "law") rfl)
  have D_law_hand := Gen.F_law_hand (P := P) (w := w) (K := K) (mg := mg) (base := base) F_law_hand (F_law_hand.binds (ps := ["script"]) fun _ _ _ _ _ _ us hl => match us, hl with | [_], _ => rfl) G_law_hand (He.free_ok X G (c.fact 69 (f := .free "len") rfl)) (He.free_ok X G (c.fact 70 (f := .free "int") rfl)) (He.free_ok X G (c.fact 71 (f := .free "abs") rfl)) KK.l_law_hand
  have D_law_low := Gen.F_law_low (P := P) (w := w) (K := K) (mg := mg) (base := base) F_law_low (F_law_low.binds (ps := ["top", "bottom"]) fun _ _ _ _ _ _ us hl => match us, hl with | [_, _], _ => rfl) G_law_low (He.free_ok X G (c.fact 70 (f := .free "int") rfl)) (He.free_ok X G (c.fact 71 (f := .free "abs") rfl)) KK.l_law_low
  have D_law_times := Gen.F_law_times (P := P) (w := w) (K := K) (mg := mg) (base := base) F_law_times (F_law_times.binds (ps := ["one", "other"]) fun _ _ _ _ _ _ us hl => match us, hl with | [_, _], _ => rfl) G_law_times D_law_low KK.l_law_times
  have D_law_draw := Gen.F_law_draw (P := P) (w := w) (K := K) (mg := mg) (base := base) F_law_draw (F_law_draw.binds (ps := ["hand", "many"]) fun _ _ _ _ _ _ us hl => match us, hl with | [_, _], _ => rfl) G_law_draw (He.free_ok X G (c.fact 70 (f := .free "int") rfl)) (He.free_ok X G (c.fact 69 (f := .free "len") rfl)) KK.l_law_draw
  have D_law_drive := Gen.F_law_drive (P := P) (w := w) (K := K) (mg := mg) (base := base) F_law_drive (F_law_drive.binds (ps := ["hand"]) fun _ _ _ _ _ _ us hl => match us, hl with | [_], _ => rfl) G_law_drive (He.free_ok X G (c.fact 72 (f := .free "tuple") rfl)) (He.free_ok X G (c.fact 73 (f := .free "range") rfl)) D_law_draw D_law_times D_law_low KK.l_law_drive
  have D_is_less := Gen.F_is_less (P := P) (w := w) (K := K) (mg := mg) (base := base) F_is_less (F_is_less.binds (ps := ["one", "other"]) fun _ _ _ _ _ _ us hl => match us, hl with | [_, _], _ => rfl) G_is_less KK.l_is_less
  have D_shared := Gen.F_shared (P := P) (w := w) (K := K) (mg := mg) (base := base) F_shared (F_shared.binds (ps := ["one", "other"]) fun _ _ _ _ _ _ us hl => match us, hl with | [_, _], _ => rfl) G_shared (He.free_ok X G (c.fact 71 (f := .free "abs") rfl)) KK.l_shared
  have D_is_integer := Gen.F_is_integer (P := P) (w := w) (K := K) (mg := mg) (base := base) F_is_integer (F_is_integer.binds (ps := ["thing"]) fun _ _ _ _ _ _ us hl => match us, hl with | [_], _ => rfl) G_is_integer (He.free_ok X G (c.fact 74 (f := .free "isinstance") rfl)) (He.free_ok X G (c.fact 75 (f := .free "bool") rfl)) (He.free_ok X G (c.fact 70 (f := .free "int") rfl)) KK.l_is_integer
  have D_is_fraction := Gen.F_is_fraction (P := P) (w := w) (K := K) (mg := mg) (base := base) F_is_fraction (F_is_fraction.binds (ps := ["thing"]) fun _ _ _ _ _ _ us hl => match us, hl with | [_], _ => rfl) G_is_fraction (He.free_ok X G (c.fact 76 (f := .free "all") rfl)) (He.free_ok X G (c.fact 69 (f := .free "len") rfl)) (He.free_ok X G (c.fact 74 (f := .free "isinstance") rfl)) (He.free_ok X G (c.fact 72 (f := .free "tuple") rfl)) D_shared D_is_integer KK.l_is_fraction
  obtain ⟨t_MOST_gearboxes, k_MOST_gearboxes⟩ := He.int_ok X G (c.fact 77 (f := .int "MOST_gearboxes" 10000) rfl)
  have D_is_part := Gen.F_is_part (P := P) (w := w) (K := K) (mg := mg) (base := base) F_is_part (F_is_part.binds (ps := ["thing"]) fun _ _ _ _ _ _ us hl => match us, hl with | [_], _ => rfl) G_is_part k_MOST_gearboxes D_is_fraction KK.l_is_part
  have D_is_gearbox := Gen.F_is_gearbox (P := P) (w := w) (K := K) (mg := mg) (base := base) F_is_gearbox (F_is_gearbox.binds (ps := ["thing"]) fun _ _ _ _ _ _ us hl => match us, hl with | [_], _ => rfl) G_is_gearbox (He.free_ok X G (c.fact 78 (f := .free "zip") rfl)) (He.free_ok X G (c.fact 76 (f := .free "all") rfl)) (He.free_ok X G (c.fact 69 (f := .free "len") rfl)) (He.free_ok X G (c.fact 74 (f := .free "isinstance") rfl)) (He.free_ok X G (c.fact 72 (f := .free "tuple") rfl)) D_is_less D_is_part KK.l_is_gearbox
  have D_is_within := Gen.F_is_within (P := P) (w := w) (K := K) (mg := mg) (base := base) F_is_within (F_is_within.binds (ps := ["thing", "least", "most"]) fun _ _ _ _ _ _ us hl => match us, hl with | [_, _, _], _ => rfl) G_is_within D_is_integer KK.l_is_within
  have D_is_engine := Gen.F_is_engine (P := P) (w := w) (K := K) (mg := mg) (base := base) F_is_engine (F_is_engine.binds (ps := ["thing"]) fun _ _ _ _ _ _ us hl => match us, hl with | [_], _ => rfl) G_is_engine (He.free_ok X G (c.fact 78 (f := .free "zip") rfl)) (He.free_ok X G (c.fact 76 (f := .free "all") rfl)) (He.free_ok X G (c.fact 69 (f := .free "len") rfl)) (He.free_ok X G (c.fact 74 (f := .free "isinstance") rfl)) (He.free_ok X G (c.fact 72 (f := .free "tuple") rfl)) k_MOST_gearboxes D_is_within KK.l_is_engine
  have D_is_row := Gen.F_is_row (P := P) (w := w) (K := K) (mg := mg) (base := base) F_is_row (F_is_row.binds (ps := ["thing", "many", "least", "most"]) fun _ _ _ _ _ _ us hl => match us, hl with | [_, _, _, _], _ => rfl) G_is_row (He.free_ok X G (c.fact 76 (f := .free "all") rfl)) (He.free_ok X G (c.fact 69 (f := .free "len") rfl)) (He.free_ok X G (c.fact 74 (f := .free "isinstance") rfl)) (He.free_ok X G (c.fact 72 (f := .free "tuple") rfl)) D_is_within KK.l_is_row
  have D_is_drive := Gen.F_is_drive (P := P) (w := w) (K := K) (mg := mg) (base := base) F_is_drive (F_is_drive.binds (ps := ["thing"]) fun _ _ _ _ _ _ us hl => match us, hl with | [_], _ => rfl) G_is_drive (He.free_ok X G (c.fact 69 (f := .free "len") rfl)) (He.free_ok X G (c.fact 74 (f := .free "isinstance") rfl)) (He.free_ok X G (c.fact 72 (f := .free "tuple") rfl)) D_is_within D_is_engine D_is_gearbox D_is_row KK.l_is_drive
  have D_is_trip := Gen.F_is_trip (P := P) (w := w) (K := K) (mg := mg) (base := base) F_is_trip (F_is_trip.binds (ps := ["thing"]) fun _ _ _ _ _ _ us hl => match us, hl with | [_], _ => rfl) G_is_trip (He.free_ok X G (c.fact 69 (f := .free "len") rfl)) (He.free_ok X G (c.fact 74 (f := .free "isinstance") rfl)) (He.free_ok X G (c.fact 72 (f := .free "tuple") rfl)) D_is_row KK.l_is_trip
  have D_check_drive := Gen.F_check_drive (P := P) (w := w) (K := K) (mg := mg) (base := base) F_check_drive (F_check_drive.binds (ps := ["drive", "trip"]) fun _ _ _ _ _ _ us hl => match us, hl with | [_, _], _ => rfl) G_check_drive D_is_trip D_is_drive KK.l_check_drive
  have D_pull_of := Gen.F_pull_of (P := P) (w := w) (K := K) (mg := mg) (base := base) F_pull_of (F_pull_of.binds (ps := ["engine", "revs"]) fun _ _ _ _ _ _ us hl => match us, hl with | [_, _], _ => rfl) G_pull_of D_is_less KK.l_pull_of
  have D_low := Gen.F_low (P := P) (w := w) (K := K) (mg := mg) (base := base) F_low (F_low.binds (ps := ["top", "bottom"]) fun _ _ _ _ _ _ us hl => match us, hl with | [_, _], _ => rfl) G_low D_shared KK.l_low
  have D_times := Gen.F_times (P := P) (w := w) (K := K) (mg := mg) (base := base) F_times (F_times.binds (ps := ["one", "other"]) fun _ _ _ _ _ _ us hl => match us, hl with | [_, _], _ => rfl) G_times D_low KK.l_times
  have D_pulls_of := Gen.F_pulls_of (P := P) (w := w) (K := K) (mg := mg) (base := base) F_pulls_of (F_pulls_of.binds (ps := ["box", "engine", "wheel"]) fun _ _ _ _ _ _ us hl => match us, hl with | [_, _, _], _ => rfl) G_pulls_of (He.free_ok X G (c.fact 72 (f := .free "tuple") rfl)) D_times D_pull_of KK.l_pulls_of
  have D_wheel_pulls_drives := Gen.F_wheel_pulls_drives (P := P) (w := w) (K := K) (mg := mg) (base := base) F_wheel_pulls_drives (F_wheel_pulls_drives.binds (ps := ["drive", "turns"]) fun _ _ _ _ _ _ us hl => match us, hl with | [_, _], _ => rfl) G_wheel_pulls_drives (He.free_ok X G (c.fact 72 (f := .free "tuple") rfl)) D_pulls_of D_times D_low KK.l_wheel_pulls_drives
  have D_shaft_turns := Gen.F_shaft_turns (P := P) (w := w) (K := K) (mg := mg) (base := base) F_shaft_turns (F_shaft_turns.binds (ps := ["drive", "meters"]) fun _ _ _ _ _ _ us hl => match us, hl with | [_, _], _ => rfl) G_shaft_turns D_times D_low KK.l_shaft_turns
  have D_shaft_at := Gen.F_shaft_at (P := P) (w := w) (K := K) (mg := mg) (base := base) F_shaft_at (F_shaft_at.binds (ps := ["drive", "speed"]) fun _ _ _ _ _ _ us hl => match us, hl with | [_, _], _ => rfl) G_shaft_at D_times D_shaft_turns D_is_within D_is_drive KK.l_shaft_at
  have D_gears_good := Gen.F_gears_good (P := P) (w := w) (K := K) (mg := mg) (base := base) F_gears_good (F_gears_good.binds (ps := ["drive", "part"]) fun _ _ _ _ _ _ us hl => match us, hl with | [_, _], _ => rfl) G_gears_good (He.free_ok X G (c.fact 79 (f := .free "enumerate") rfl)) D_wheel_pulls_drives D_shaft_at KK.l_gears_good
  have D_drive_pulls := Gen.F_drive_pulls (P := P) (w := w) (K := K) (mg := mg) (base := base) F_drive_pulls (F_drive_pulls.binds (ps := ["drive", "speed"]) fun _ _ _ _ _ _ us hl => match us, hl with | [_, _], _ => rfl) G_drive_pulls D_wheel_pulls_drives D_shaft_at KK.l_drive_pulls
  have D_trip_told := Gen.F_trip_told (P := P) (w := w) (K := K) (mg := mg) (base := base) F_trip_told (F_trip_told.binds (ps := ["drive", "trip"]) fun _ _ _ _ _ _ us hl => match us, hl with | [_, _], _ => rfl) G_trip_told (He.free_ok X G (c.fact 72 (f := .free "tuple") rfl)) (He.free_ok X G (c.fact 79 (f := .free "enumerate") rfl)) D_drive_pulls D_gears_good D_check_drive KK.l_trip_told
  have D_law_is_less := Gen.F_law_is_less (P := P) (w := w) (K := K) (mg := mg) (base := base) F_law_is_less (F_law_is_less.binds (ps := ["one", "other"]) fun _ _ _ _ _ _ us hl => match us, hl with | [_, _], _ => rfl) G_law_is_less KK.l_law_is_less
  obtain ⟨t_MOST_odometers, k_MOST_odometers⟩ := He.int_ok X G (c.fact 80 (f := .int "MOST_odometers" 999999999) rfl)
  have D_check_reading := fun (n : Nat) (hn : 0 ≤ n ∧ n ≤ 1000) => Gen.F_check_reading (P := P) (w := w) (K := K) (mg := mg) (base := base) (n := n) F_check_reading G_check_reading (He.free_ok X G (c.fact 76 (f := .free "all") rfl)) k_MOST_odometers D_is_within (fun _ _ _ _ _ _ _ us rest hl => match us, rest, hl with | [], [], _ => rfl | [], _ :: _, _ => rfl) hn KK.l_check_reading
  have D_turned_between := Gen.F_turned_between (P := P) (w := w) (K := K) (mg := mg) (base := base) F_turned_between (F_turned_between.binds (ps := ["one", "other"]) fun _ _ _ _ _ _ us hl => match us, hl with | [_, _], _ => rfl) G_turned_between (He.free_ok X G (c.fact 73 (f := .free "range") rfl)) (D_check_reading 2 (by decide)) KK.l_turned_between
  have D_wheel_turns := Gen.F_wheel_turns (P := P) (w := w) (K := K) (mg := mg) (base := base) F_wheel_turns (F_wheel_turns.binds (ps := ["one", "other"]) fun _ _ _ _ _ _ us hl => match us, hl with | [_, _], _ => rfl) G_wheel_turns (He.free_ok X G (c.fact 72 (f := .free "tuple") rfl)) (He.free_ok X G (c.fact 73 (f := .free "range") rfl)) D_turned_between KK.l_wheel_turns
  have D_plus := Gen.F_plus (P := P) (w := w) (K := K) (mg := mg) (base := base) F_plus (F_plus.binds (ps := ["one", "other"]) fun _ _ _ _ _ _ us hl => match us, hl with | [_, _], _ => rfl) G_plus D_low KK.l_plus
  have D_sum_of := Gen.F_sum_of (P := P) (w := w) (K := K) (mg := mg) (base := base) F_sum_of (F_sum_of.binds (ps := ["some"]) fun _ _ _ _ _ _ us hl => match us, hl with | [_], _ => rfl) G_sum_of D_plus KK.l_sum_of
  have D_trip_time := Gen.F_trip_time (P := P) (w := w) (K := K) (mg := mg) (base := base) F_trip_time (F_trip_time.binds (ps := ["trip"]) fun _ _ _ _ _ _ us hl => match us, hl with | [_], _ => rfl) G_trip_time D_sum_of D_low D_is_trip KK.l_trip_time
  have D_law_plus := Gen.F_law_plus (P := P) (w := w) (K := K) (mg := mg) (base := base) F_law_plus (F_law_plus.binds (ps := ["one", "other"]) fun _ _ _ _ _ _ us hl => match us, hl with | [_, _], _ => rfl) G_law_plus D_law_low KK.l_law_plus
  have D_law_sum := Gen.F_law_sum (P := P) (w := w) (K := K) (mg := mg) (base := base) F_law_sum (F_law_sum.binds (ps := ["some"]) fun _ _ _ _ _ _ us hl => match us, hl with | [_], _ => rfl) G_law_sum D_law_plus KK.l_law_sum
  have D_check_gearbox := Gen.F_check_gearbox (P := P) (w := w) (K := K) (mg := mg) (base := base) F_check_gearbox (F_check_gearbox.binds (ps := ["box"]) fun _ _ _ _ _ _ us hl => match us, hl with | [_], _ => rfl) G_check_gearbox D_is_gearbox KK.l_check_gearbox
  have D_check_both := Gen.F_check_both (P := P) (w := w) (K := K) (mg := mg) (base := base) F_check_both (F_check_both.binds (ps := ["box", "engine"]) fun _ _ _ _ _ _ us hl => match us, hl with | [_, _], _ => rfl) G_check_both D_is_engine D_check_gearbox KK.l_check_both
  have D_is_speed := Gen.F_is_speed (P := P) (w := w) (K := K) (mg := mg) (base := base) F_is_speed (F_is_speed.binds (ps := ["thing"]) fun _ _ _ _ _ _ us hl => match us, hl with | [_], _ => rfl) G_is_speed k_MOST_gearboxes D_is_fraction KK.l_is_speed
  have D_wheel_pulls_gearboxes := Gen.F_wheel_pulls_gearboxes (P := P) (w := w) (K := K) (mg := mg) (base := base) F_wheel_pulls_gearboxes (F_wheel_pulls_gearboxes.binds (ps := ["box", "engine", "wheel"]) fun _ _ _ _ _ _ us hl => match us, hl with | [_, _, _], _ => rfl) G_wheel_pulls_gearboxes D_pulls_of D_is_speed D_check_both KK.l_wheel_pulls_gearboxes
  have D_check_speed := Gen.F_check_speed (P := P) (w := w) (K := K) (mg := mg) (base := base) F_check_speed (F_check_speed.binds (ps := ["box", "gear", "speed"]) fun _ _ _ _ _ _ us hl => match us, hl with | [_, _, _], _ => rfl) G_check_speed (He.free_ok X G (c.fact 69 (f := .free "len") rfl)) D_is_speed D_is_within D_check_gearbox KK.l_check_speed
  have D_revs_at := Gen.F_revs_at (P := P) (w := w) (K := K) (mg := mg) (base := base) F_revs_at (F_revs_at.binds (ps := ["box", "gear", "wheel"]) fun _ _ _ _ _ _ us hl => match us, hl with | [_, _, _], _ => rfl) G_revs_at D_times D_check_speed KK.l_revs_at
  have D_top_speed := Gen.F_top_speed (P := P) (w := w) (K := K) (mg := mg) (base := base) F_top_speed (F_top_speed.binds (ps := ["drive", "load"]) fun _ _ _ _ _ _ us hl => match us, hl with | [_, _], _ => rfl) G_top_speed (He.free_ok X G (c.fact 73 (f := .free "range") rfl)) D_gears_good D_is_within D_is_drive KK.l_top_speed
  have D_odometer_after := Gen.F_odometer_after (P := P) (w := w) (K := K) (mg := mg) (base := base) F_odometer_after (F_odometer_after.binds (ps := ["reading", "trip"]) fun _ _ _ _ _ _ us hl => match us, hl with | [_, _], _ => rfl) G_odometer_after (He.free_ok X G (c.fact 81 (f := .free "sum") rfl)) D_is_within D_is_trip KK.l_odometer_after
  have D_pull_at := Gen.F_pull_at (P := P) (w := w) (K := K) (mg := mg) (base := base) F_pull_at (F_pull_at.binds (ps := ["engine", "revs"]) fun _ _ _ _ _ _ us hl => match us, hl with | [_, _], _ => rfl) G_pull_at D_pull_of D_is_speed D_is_engine KK.l_pull_at
  have D_over := Gen.F_over (P := P) (w := w) (K := K) (mg := mg) (base := base) F_over (F_over.binds (ps := ["one", "other"]) fun _ _ _ _ _ _ us hl => match us, hl with | [_, _], _ => rfl) G_over D_low KK.l_over
  have D_steps_of := Gen.F_steps_of (P := P) (w := w) (K := K) (mg := mg) (base := base) F_steps_of (F_steps_of.binds (ps := ["box"]) fun _ _ _ _ _ _ us hl => match us, hl with | [_], _ => rfl) G_steps_of (He.free_ok X G (c.fact 78 (f := .free "zip") rfl)) (He.free_ok X G (c.fact 72 (f := .free "tuple") rfl)) D_over D_check_gearbox KK.l_steps_of
  have D_shown := Gen.F_shown (P := P) (w := w) (K := K) (mg := mg) (base := base) F_shown (F_shown.binds (ps := ["reading", "wheels"]) fun _ _ _ _ _ _ us hl => match us, hl with | [_, _], _ => rfl) G_shown (He.free_ok X G (c.fact 82 (f := .free "str") rfl)) D_is_within (D_check_reading 1 (by decide)) KK.l_shown
  have D_tops_of := Gen.F_tops_of (P := P) (w := w) (K := K) (mg := mg) (base := base) F_tops_of (F_tops_of.binds (ps := ["box", "engine"]) fun _ _ _ _ _ _ us hl => match us, hl with | [_, _], _ => rfl) G_tops_of (He.free_ok X G (c.fact 72 (f := .free "tuple") rfl)) D_over D_check_both KK.l_tops_of
  have D_law_shaft := Gen.F_law_shaft (P := P) (w := w) (K := K) (mg := mg) (base := base) F_law_shaft (F_law_shaft.binds (ps := ["drive", "speed"]) fun _ _ _ _ _ _ us hl => match us, hl with | [_, _], _ => rfl) G_law_shaft D_law_times D_law_low KK.l_law_shaft
  have D_law_pulls := Gen.F_law_pulls (P := P) (w := w) (K := K) (mg := mg) (base := base) F_law_pulls (F_law_pulls.binds (ps := ["drive", "speed"]) fun _ _ _ _ _ _ us hl => match us, hl with | [_, _], _ => rfl) G_law_pulls (He.free_ok X G (c.fact 72 (f := .free "tuple") rfl)) D_law_times D_law_low D_law_is_less D_law_shaft KK.l_law_pulls
  have D_law_good := Gen.F_law_good (P := P) (w := w) (K := K) (mg := mg) (base := base) F_law_good (F_law_good.binds (ps := ["drive", "part"]) fun _ _ _ _ _ _ us hl => match us, hl with | [_, _], _ => rfl) G_law_good (He.free_ok X G (c.fact 79 (f := .free "enumerate") rfl)) D_law_is_less D_law_pulls KK.l_law_good
  have D_wheel_at := Gen.F_wheel_at (P := P) (w := w) (K := K) (mg := mg) (base := base) F_wheel_at (F_wheel_at.binds (ps := ["box", "gear", "revs"]) fun _ _ _ _ _ _ us hl => match us, hl with | [_, _, _], _ => rfl) G_wheel_at D_over D_check_speed KK.l_wheel_at
  have D_law_are_rest_right := Gen.F_law_are_rest_right (P := P) (w := w) (K := K) (mg := mg) (base := base) F_law_are_rest_right (F_law_are_rest_right.binds (ps := ["hand", "drive", "trip"]) fun _ _ _ _ _ _ us hl => match us, hl with | [_, _, _], _ => rfl) G_law_are_rest_right (He.free_ok X G (c.fact 73 (f := .free "range") rfl)) (He.free_ok X G (c.fact 69 (f := .free "len") rfl)) (He.free_ok X G (c.fact 79 (f := .free "enumerate") rfl)) (He.free_ok X G (c.fact 81 (f := .free "sum") rfl)) (He.free_ok X G (c.fact 70 (f := .free "int") rfl)) D_top_speed D_law_good D_tops_of D_steps_of D_law_times D_wheel_pulls_gearboxes D_wheel_at D_pull_at D_revs_at D_law_draw D_law_low D_trip_time D_law_sum D_turned_between D_wheel_turns D_shown D_odometer_after KK.l_law_are_rest_right
  have D_is_trip_told := Gen.F_is_trip_told (P := P) (w := w) (K := K) (mg := mg) (base := base) F_is_trip_told (F_is_trip_told.binds (ps := ["drive", "trip", "thing"]) fun _ _ _ _ _ _ us hl => match us, hl with | [_, _, _], _ => rfl) G_is_trip_told (He.free_ok X G (c.fact 83 (f := .free "repr") rfl)) (He.free_ok X G (c.fact 69 (f := .free "len") rfl)) (He.free_ok X G (c.fact 74 (f := .free "isinstance") rfl)) (He.free_ok X G (c.fact 72 (f := .free "tuple") rfl)) (He.free_ok X G (c.fact 78 (f := .free "zip") rfl)) (He.free_ok X G (c.fact 76 (f := .free "all") rfl)) (He.free_ok X G (c.fact 82 (f := .free "str") rfl)) D_drive_pulls D_gears_good D_is_within D_is_row D_check_drive KK.l_is_trip_told
  have D_trip_turns := Gen.F_trip_turns (P := P) (w := w) (K := K) (mg := mg) (base := base) F_trip_turns (F_trip_turns.binds (ps := ["drive", "trip", "gears"]) fun _ _ _ _ _ _ us hl => match us, hl with | [_, _, _], _ => rfl) G_trip_turns (He.free_ok X G (c.fact 78 (f := .free "zip") rfl)) (He.free_ok X G (c.fact 69 (f := .free "len") rfl)) D_plus D_times D_shaft_turns D_is_row D_check_drive KK.l_trip_turns
  have D_fewest_turns := Gen.F_fewest_turns (P := P) (w := w) (K := K) (mg := mg) (base := base) F_fewest_turns (F_fewest_turns.binds (ps := ["drive", "trip"]) fun _ _ _ _ _ _ us hl => match us, hl with | [_, _], _ => rfl) G_fewest_turns D_trip_turns D_trip_told KK.l_fewest_turns
  have D_is_some := Gen.F_is_some (P := P) (w := w) (K := K) (mg := mg) (base := base) F_is_some (F_is_some.binds (ps := ["thing", "fewest", "most", "floor", "roof"]) fun _ _ _ _ _ _ us hl => match us, hl with | [_, _, _, _, _], _ => rfl) G_is_some (He.free_ok X G (c.fact 69 (f := .free "len") rfl)) (He.free_ok X G (c.fact 74 (f := .free "isinstance") rfl)) (He.free_ok X G (c.fact 72 (f := .free "tuple") rfl)) D_is_row KK.l_is_some
  have D_is_belt := Gen.F_is_belt (P := P) (w := w) (K := K) (mg := mg) (base := base) F_is_belt (F_is_belt.binds (ps := ["thing"]) fun _ _ _ _ _ _ us hl => match us, hl with | [_], _ => rfl) G_is_belt D_is_some KK.l_is_belt
  have D_check_belt := Gen.F_check_belt (P := P) (w := w) (K := K) (mg := mg) (base := base) F_check_belt (F_check_belt.binds (ps := ["belt"]) fun _ _ _ _ _ _ us hl => match us, hl with | [_], _ => rfl) G_check_belt D_is_belt KK.l_check_belt
  have D_check_moved := Gen.F_check_moved (P := P) (w := w) (K := K) (mg := mg) (base := base) F_check_moved (F_check_moved.binds (ps := ["moved"]) fun _ _ _ _ _ _ us hl => match us, hl with | [_], _ => rfl) G_check_moved D_is_within KK.l_check_moved
  have D_marks_after := Gen.F_marks_after (P := P) (w := w) (K := K) (mg := mg) (base := base) F_marks_after (F_marks_after.binds (ps := ["belt", "moved"]) fun _ _ _ _ _ _ us hl => match us, hl with | [_, _], _ => rfl) G_marks_after (He.free_ok X G (c.fact 72 (f := .free "tuple") rfl)) D_check_moved D_check_belt KK.l_marks_after
  have D_belt_after := Gen.F_belt_after (P := P) (w := w) (K := K) (mg := mg) (base := base) F_belt_after (F_belt_after.binds (ps := ["drive", "trip", "belt"]) fun _ _ _ _ _ _ us hl => match us, hl with | [_, _, _], _ => rfl) G_belt_after D_marks_after D_is_belt D_fewest_turns KK.l_belt_after
  have D_check_teeth := fun (n : Nat) (hn : 0 ≤ n ∧ n ≤ 1000) => Gen.F_check_teeth (P := P) (w := w) (K := K) (mg := mg) (base := base) (n := n) F_check_teeth G_check_teeth (He.free_ok X G (c.fact 76 (f := .free "all") rfl)) D_is_within (fun _ _ _ _ _ _ _ us rest hl => match us, rest, hl with | [], [], _ => rfl | [], _ :: _, _ => rfl) hn KK.l_check_teeth
  have D_turned_by := Gen.F_turned_by (P := P) (w := w) (K := K) (mg := mg) (base := base) F_turned_by (F_turned_by.binds (ps := ["row", "turns"]) fun _ _ _ _ _ _ us hl => match us, hl with | [_, _], _ => rfl) G_turned_by (He.free_ok X G (c.fact 69 (f := .free "len") rfl)) (He.free_ok X G (c.fact 74 (f := .free "isinstance") rfl)) (He.free_ok X G (c.fact 72 (f := .free "tuple") rfl)) D_times D_low D_is_fraction (D_check_teeth 2 (by decide)) KK.l_turned_by
  have D_law_any := Gen.F_law_any (P := P) (w := w) (K := K) (mg := mg) (base := base) F_law_any (F_law_any.binds (ps := ["hand", "some"]) fun _ _ _ _ _ _ us hl => match us, hl with | [_, _], _ => rfl) G_law_any (He.free_ok X G (c.fact 69 (f := .free "len") rfl)) D_law_draw KK.l_law_any
  have D_round_of := Gen.F_round_of (P := P) (w := w) (K := K) (mg := mg) (base := base) F_round_of (F_round_of.binds (ps := ["belt"]) fun _ _ _ _ _ _ us hl => match us, hl with | [_], _ => rfl) G_round_of D_shared D_check_belt KK.l_round_of
  have D_law_right := Gen.F_law_right (P := P) (w := w) (K := K) (mg := mg) (base := base) F_law_right (F_law_right.binds (ps := ["hand"]) fun _ _ _ _ _ _ us hl => match us, hl with | [_], _ => rfl) G_law_right (He.free_ok X G (c.fact 70 (f := .free "int") rfl)) (He.free_ok X G (c.fact 72 (f := .free "tuple") rfl)) (He.free_ok X G (c.fact 73 (f := .free "range") rfl)) (He.free_ok X G (c.fact 78 (f := .free "zip") rfl)) (He.free_ok X G (c.fact 79 (f := .free "enumerate") rfl)) (He.free_ok X G (c.fact 71 (f := .free "abs") rfl)) D_law_are_rest_right D_marks_after D_round_of D_belt_after D_law_draw D_law_is_less D_trip_turns D_fewest_turns D_law_plus D_law_times D_law_low D_is_trip_told D_law_any D_law_pulls D_trip_told D_law_good D_turned_by D_law_shaft D_drive_pulls D_shaft_at D_law_drive KK.l_law_right
  exact O_law (P := P) (w := w) (K := K) (mg := mg) (base := base) F_law (F_law.binds (ps := ["script"]) fun _ _ _ _ _ _ us hl => match us, hl with | [_], _ => rfl) G_law (He.free_ok X G (c.fact 73 (f := .free "range") rfl)) (He.free_ok X G (c.fact 76 (f := .free "all") rfl)) D_law_right D_law_hand KK.l_law
theorem facts {P : Program} {w : World} {K : PySem.W.Frag} {h : Heap} {mg : Str → Option Value} {f : Addr} (X : K.In h) (G : h.Ns mainGlobals mg) (hfa : mg ("law" : Str) = some (.ref f)) (c : He.SaysD fa fn K) :
    ∀ base : Heap, K.In base → base.Ns mainGlobals mg → FnRG P w K mg base 12 f (spP K 1 KK.c_law) := by
  obtain ⟨fd, F⟩ := c.def_ 68 (d := d_law) rfl
  have e := hfa.symm.trans (He.glo_ok X G (c.fact 68 (f := .glo "law") rfl))
  cases e
  exact fun base XB GB => facts_ok X G c (fun_of (st := s_law) F rfl) base XB GB
end Head
open PySem PySem.W PyProof.Rows
set_option maxHeartbeats 0 in
theorem PySem.Challenge.cw_mendgarage_k82_whole_drives_by_teeth_gea_holds : PySem.Challenge.rw_mendgarage_k82_whole_drives_by_teeth_gea.Holds := by
  w_on; o_law
  refine HandSHeadRun.head_any (r := OpenLaw.row PySem.Challenge.rw_mendgarage_k82_whole_drives_by_teeth_gea) (q := view (OpenLaw.row PySem.Challenge.rw_mendgarage_k82_whole_drives_by_teeth_gea).prog [95]) (H := Head.hk) (ob := Head.ob) (M := 9000) (loose := Head.loose) (d := HandSHeadRun.topDef (OpenLaw.row PySem.Challenge.rw_mendgarage_k82_whole_drives_by_teeth_gea).prog 95) (kwd := []) Head.ob_eq
    (by kernel_rfl) (fun s => by kernel_rfl) Head.run (by kernel_rfl) (by kernel_rfl) (by kernel_rfl) (by rfl) (by first | assumption | decide +kernel) (by decide +kernel) ⟨rfl, rfl, rfl, rfl, rfl, by decide +kernel⟩ ?hw ?hc
  case hw => w_witness2
  case hc =>
    refine Pd.walk_ofG (l := PySem.Challenge.rw_mendgarage_k82_whole_drives_by_teeth_gea) (n := 63) (k := 12) rfl (by decide) (by kernel_rfl) ⟨⟨rfl, by decide, by decide⟩, rfl⟩ ?F
    intro w mg fa h Y G hmg0
    obtain ⟨K, KX, c⟩ := Y
    have hmg : mg ("law" : PySem.Str) = some (.ref fa) := by
      have e : (HandSHeadRun.topDef (OpenLaw.row PySem.Challenge.rw_mendgarage_k82_whole_drives_by_teeth_gea).prog 95).name = ("law" : PySem.Str) := by kernel_rfl
      rw [← e]
      exact hmg0
    exact ⟨K, Pd.spP K 1 KK.c_law, KX, Pd.law_says KK.c_law_says, Head.facts (P := (PySem.Challenge.rw_mendgarage_k82_whole_drives_by_teeth_gea).prog) (w := w) KX G hmg c⟩

