/- MADE BY PROGRAM (lib.py): the numbers that the functions have in this program, and the check of each one. -/
import Derived.Test.YtddpkhnllojfpaaGreatProg
import Derived.Test.YtddpkhnllojfpaaGreatZPP
import Derived.KernelRfl
set_option linter.all false
set_option maxRecDepth 100000
namespace Go.Proofs.YtddpkhnllojfpaaGreat
open Go.Ev
def real : List (Option Nat) := [none, some 6, some 7, some 8, some 9, some 15, some 10, some 11, some 12, some 22, some 13, some 16, some 47, none, some 19, some 21, some 29, some 24, some 25, some 26, some 27, some 28, some 30, some 40, some 34, some 35, some 36, none, some 44, some 45, some 46, some 48, some 49, some 50, some 51, some 52, some 53, some 54, some 55, some 56, some 57, some 58, some 59, some 60, some 61, some 62, some 63, some 68, some 69, some 70, some 71, some 72, some 73, some 74, some 85, some 86, some 87, some 88, some 89, some 90, some 91, some 92, some 18, some 93, some 94, some 95, some 98, some 99, some 100, some 101, some 102, some 43, some 112, some 113, some 114, some 116, some 125, some 138, none, none, none, none, none, none, none, none, none, none, none, none, none, none, none, none, none, none, none, none, none, none, none, none, none, none, none, some 65, none, none, none, none, none, none, none, none, none, none, none, none, none, none, none, none, none, none, none, none, none, none, none, none, none, none, none, none, none, none, none, none, none, none, none, none, none, none, none, none, none, none, none, none, none, none, none, none, none, none, none, none, none, none, none, none, some 41, none, none, none, none, some 66, none, none, none, none, some 76, some 96, none, none, none, some 115, none, none, none, none, none, none, none, none, none, none, none, none, some 84, none, none, none, none, none, none, none, none, some 110, some 111, some 109, some 80, none, some 122, none, none, none, some 123, some 124, some 121, some 137, some 144, some 146, some 147, none, none, none, none, none, none, none, none, none, none, none, none, none, none, none, none, none, none, none, none, none, none, none, none, none, none, none, none, none, none, none, none, some 5, none, none, none, some 23, none, some 32, none, none, none, some 42, some 64, some 67, some 77, some 78, some 79, some 81, some 82, some 83, some 97, some 106, some 107, some 108, some 120]
def tab : List (Option Go.Ev.Fn) := [none, some K.made_Light, some K.law40_awake, some K.made_Roll, some K.made_Dice_Mine, some K.law40_some, some K.made_Dice_Spread, some K.made_Dice_Flows, some K.made_Dice_Belief, some K.made_Dice_Next, some K.made_Dice_Of, some K.firerules_Command, some K.ref23_Has, none, some K.firerules_Drawn, some K.made_Dice_One, some K.made_Dice_Some, some K.ref28_Start, some K.ref28_Change, some K.ref26_Start, some K.ref26_Exchange, some K.ref26_See, some K.ref26_Absent, some K.made_Mod, some K.smoke_Filled, some K.firerules_meets, some K.firerules_near, none, some K.ref01_Check, some K.ref28_Flows, some K.ref23_Set, some K.ref28_Close, some K.ref28_Copy, some K.ref28_Valid, some K.ref28_Travel, some K.ref26_proper, some K.ref25_Start, some K.ref26_Copy, some K.ref26_Valid, some K.ref26_CopyWorld, some K.ref26_meet, some K.ref25_Raise, some K.ref26_Tidy, some K.ref26_borne, some K.ref26_bearer, some K.ref25_See, some K.ref25_Absent, some K.lists_Where, some K.smoke_Filled_1, some K.slices_ContainsFunc_int_int, some K.firerules_meets_1, some K.slices_Contains_int_int, some K.firerules_near_1, some K.swaps_Possible, some K.ref01_Span, some K.ref28_Span, some K.ref25_inTime, some K.ref25_never, some K.ref25_Close, some K.ref26_Less, some K.ref25_Valid, some K.ref25_Copy, some K.ref23_SameInts, some K.ref25_Join, some K.ref25_asked, some K.ref25_close, some K.slices_IndexFunc_int_int, some K.slices_Index_int_int, some K.swaps_Possible_1, some K.slices_ContainsFunc_api_World_api_World, some K.swaps_Possible_1_1, some K.lists_In, some K.ref25_Plain, some K.ref25_lower, some K.ref03_Time, some K.slices_IndexFunc_api_World_api_World, some K.ref03_walked, some K.ref03_ends, none, none, none, none, none, none, none, none, none, none, none, none, none, none, none, none, none, none, none, none, none, none, none, none, none, none, none, some K.lists_Rising, none, none, none, none, none, none, none, none, none, none, none, none, none, none, none, none, none, none, none, none, none, none, none, none, none, none, none, none, none, none, none, none, none, none, none, none, none, none, none, none, none, none, none, none, none, none, none, none, none, none, none, none, none, none, none, none, some K.smoke_Valid, none, none, none, none, some K.plan_Valid, none, none, none, none, some K.smoke_Valid_1, some K.plan_Check, none, none, none, some K.plan_spanIn, none, none, none, none, none, none, none, none, none, none, none, none, some K.places_Valid, none, none, none, none, none, none, none, none, some K.places_lowered, some K.places_all, some K.places_shaped, some K.slices_Equal_int_int, none, some K.slices_Clone_int_int, some K.places_Absent_1, none, none, some K.places_arrivals, some K.places_lowered_1, some K.places_shaped_1, some K.walk_Time, some K.walk_step, some K.walk_with, some K.walk_quick, none, none, none, none, none, none, none, none, none, none, none, none, none, none, none, none, none, none, none, none, none, none, none, none, none, none, none, none, none, none, none, none, some K.law40_FireRulesMore, none, none, none, some K.firerules_Commands, none, some K.firerules_Valid, none, none, none, some K.swaps_Valid, some K.firerules_Valid_1, some K.slices_ContainsFunc_api_Machine_api_Machine, some K.slices_Sorted_int, some K.slices_Values_int_int, some K.swaps_tagged, some K.slices_Compare_int_int, some K.slices_ContainsFunc_api_Whereabouts_api_Whereabouts, some K.swaps_Valid_1, some K.slices_IndexFunc_api_Machine_api_Machine, some K.slices_Values_int_int_1, some K.cmp_Compare_int, some K.slices_IndexFunc_api_Whereabouts_api_Whereabouts, some K.cmp_isNaN_int]
instance names : Names := ⟨fun f => (real[f]?).join⟩
instance lib : Lib := ⟨fun f => (tab[f]?).join⟩
instance has1 : Has1 := ⟨rfl, rfl, rfl, rfl, rfl, rfl, rfl, rfl, rfl, rfl, rfl, rfl, rfl, rfl, rfl, rfl, rfl, rfl, rfl, rfl, rfl, rfl, rfl, rfl, rfl, rfl, rfl, rfl, rfl, rfl, rfl, rfl, rfl, rfl⟩
instance has2 : Has2 := ⟨rfl, rfl, rfl, rfl, rfl, rfl, rfl, rfl, rfl, rfl, rfl, rfl, rfl, rfl, rfl, rfl, rfl, rfl, rfl, rfl, rfl, rfl, rfl, rfl, rfl, rfl, rfl, rfl, rfl, rfl, rfl, rfl, rfl, rfl, rfl, rfl, rfl, rfl, rfl, rfl, rfl⟩
instance has3 : Has3 := ⟨⟩
instance has4 : Has4 := ⟨rfl⟩
instance has5 : Has5 := ⟨⟩
instance has6 : Has6 := ⟨rfl, rfl⟩
instance has7 : Has7 := ⟨rfl, rfl, rfl⟩
instance has8 : Has8 := ⟨rfl⟩
instance has9 : Has9 := ⟨rfl, rfl, rfl, rfl, rfl, rfl, rfl, rfl, rfl, rfl, rfl, rfl, rfl⟩
instance has10 : Has10 := ⟨⟩
instance has11 : Has11 := ⟨rfl, rfl, rfl, rfl, rfl, rfl, rfl, rfl, rfl, rfl, rfl, rfl, rfl, rfl, rfl, rfl, rfl⟩
theorem k_made_Light : chkFn Tryz.prog Tryz.f6 K.made_Light = true := by kernel_rfl
theorem k_law40_awake : chkFn Tryz.prog Tryz.f7 K.law40_awake = true := by kernel_rfl
theorem k_made_Roll : chkFn Tryz.prog Tryz.f8 K.made_Roll = true := by kernel_rfl
theorem k_made_Dice_Mine : chkFn Tryz.prog Tryz.f9 K.made_Dice_Mine = true := by kernel_rfl
theorem k_law40_some : chkFn Tryz.prog Tryz.f15 K.law40_some = true := by kernel_rfl
theorem k_made_Dice_Spread : chkFn Tryz.prog Tryz.f10 K.made_Dice_Spread = true := by kernel_rfl
theorem k_made_Dice_Flows : chkFn Tryz.prog Tryz.f11 K.made_Dice_Flows = true := by kernel_rfl
theorem k_made_Dice_Belief : chkFn Tryz.prog Tryz.f12 K.made_Dice_Belief = true := by kernel_rfl
theorem k_made_Dice_Next : chkFn Tryz.prog Tryz.f22 K.made_Dice_Next = true := by kernel_rfl
theorem k_made_Dice_Of : chkFn Tryz.prog Tryz.f13 K.made_Dice_Of = true := by kernel_rfl
theorem k_firerules_Command : chkFn Tryz.prog Tryz.f16 K.firerules_Command = true := by kernel_rfl
theorem k_ref23_Has : chkFn Tryz.prog Tryz.f47 K.ref23_Has = true := by kernel_rfl
theorem k_firerules_Drawn : chkFn Tryz.prog Tryz.f19 K.firerules_Drawn = true := by kernel_rfl
theorem k_made_Dice_One : chkFn Tryz.prog Tryz.f21 K.made_Dice_One = true := by kernel_rfl
theorem k_made_Dice_Some : chkFn Tryz.prog Tryz.f29 K.made_Dice_Some = true := by kernel_rfl
theorem k_ref28_Start : chkFn Tryz.prog Tryz.f24 K.ref28_Start = true := by kernel_rfl
theorem k_ref28_Change : chkFn Tryz.prog Tryz.f25 K.ref28_Change = true := by kernel_rfl
theorem k_ref26_Start : chkFn Tryz.prog Tryz.f26 K.ref26_Start = true := by kernel_rfl
theorem k_ref26_Exchange : chkFn Tryz.prog Tryz.f27 K.ref26_Exchange = true := by kernel_rfl
theorem k_ref26_See : chkFn Tryz.prog Tryz.f28 K.ref26_See = true := by kernel_rfl
theorem k_ref26_Absent : chkFn Tryz.prog Tryz.f30 K.ref26_Absent = true := by kernel_rfl
theorem k_made_Mod : chkFn Tryz.prog Tryz.f40 K.made_Mod = true := by kernel_rfl
theorem k_smoke_Filled : chkFn Tryz.prog Tryz.f34 K.smoke_Filled = true := by kernel_rfl
theorem k_firerules_meets : chkFn Tryz.prog Tryz.f35 K.firerules_meets = true := by kernel_rfl
theorem k_firerules_near : chkFn Tryz.prog Tryz.f36 K.firerules_near = true := by kernel_rfl
theorem k_ref01_Check : chkFn Tryz.prog Tryz.f44 K.ref01_Check = true := by kernel_rfl
theorem k_ref28_Flows : chkFn Tryz.prog Tryz.f45 K.ref28_Flows = true := by kernel_rfl
theorem k_ref23_Set : chkFn Tryz.prog Tryz.f46 K.ref23_Set = true := by kernel_rfl
theorem k_ref28_Close : chkFn Tryz.prog Tryz.f48 K.ref28_Close = true := by kernel_rfl
theorem k_ref28_Copy : chkFn Tryz.prog Tryz.f49 K.ref28_Copy = true := by kernel_rfl
theorem k_ref28_Valid : chkFn Tryz.prog Tryz.f50 K.ref28_Valid = true := by kernel_rfl
theorem k_ref28_Travel : chkFn Tryz.prog Tryz.f51 K.ref28_Travel = true := by kernel_rfl
theorem k_ref26_proper : chkFn Tryz.prog Tryz.f52 K.ref26_proper = true := by kernel_rfl
theorem k_ref25_Start : chkFn Tryz.prog Tryz.f53 K.ref25_Start = true := by kernel_rfl
theorem k_ref26_Copy : chkFn Tryz.prog Tryz.f54 K.ref26_Copy = true := by kernel_rfl
theorem k_ref26_Valid : chkFn Tryz.prog Tryz.f55 K.ref26_Valid = true := by kernel_rfl
theorem k_ref26_CopyWorld : chkFn Tryz.prog Tryz.f56 K.ref26_CopyWorld = true := by kernel_rfl
theorem k_ref26_meet : chkFn Tryz.prog Tryz.f57 K.ref26_meet = true := by kernel_rfl
theorem k_ref25_Raise : chkFn Tryz.prog Tryz.f58 K.ref25_Raise = true := by kernel_rfl
theorem k_ref26_Tidy : chkFn Tryz.prog Tryz.f59 K.ref26_Tidy = true := by kernel_rfl
theorem k_ref26_borne : chkFn Tryz.prog Tryz.f60 K.ref26_borne = true := by kernel_rfl
theorem k_ref26_bearer : chkFn Tryz.prog Tryz.f61 K.ref26_bearer = true := by kernel_rfl
theorem k_ref25_See : chkFn Tryz.prog Tryz.f62 K.ref25_See = true := by kernel_rfl
theorem k_ref25_Absent : chkFn Tryz.prog Tryz.f63 K.ref25_Absent = true := by kernel_rfl
theorem k_lists_Where : chkFn Tryz.prog Tryz.f68 K.lists_Where = true := by kernel_rfl
theorem k_smoke_Filled_1 : chkFn Tryz.prog Tryz.f69 K.smoke_Filled_1 = true := by kernel_rfl
theorem k_slices_ContainsFunc_int_int : chkFn Tryz.prog Tryz.f70 K.slices_ContainsFunc_int_int = true := by kernel_rfl
theorem k_firerules_meets_1 : chkFn Tryz.prog Tryz.f71 K.firerules_meets_1 = true := by kernel_rfl
theorem k_slices_Contains_int_int : chkFn Tryz.prog Tryz.f72 K.slices_Contains_int_int = true := by kernel_rfl
theorem k_firerules_near_1 : chkFn Tryz.prog Tryz.f73 K.firerules_near_1 = true := by kernel_rfl
theorem k_swaps_Possible : chkFn Tryz.prog Tryz.f74 K.swaps_Possible = true := by kernel_rfl
theorem k_ref01_Span : chkFn Tryz.prog Tryz.f85 K.ref01_Span = true := by kernel_rfl
theorem k_ref28_Span : chkFn Tryz.prog Tryz.f86 K.ref28_Span = true := by kernel_rfl
theorem k_ref25_inTime : chkFn Tryz.prog Tryz.f87 K.ref25_inTime = true := by kernel_rfl
theorem k_ref25_never : chkFn Tryz.prog Tryz.f88 K.ref25_never = true := by kernel_rfl
theorem k_ref25_Close : chkFn Tryz.prog Tryz.f89 K.ref25_Close = true := by kernel_rfl
theorem k_ref26_Less : chkFn Tryz.prog Tryz.f90 K.ref26_Less = true := by kernel_rfl
theorem k_ref25_Valid : chkFn Tryz.prog Tryz.f91 K.ref25_Valid = true := by kernel_rfl
theorem k_ref25_Copy : chkFn Tryz.prog Tryz.f92 K.ref25_Copy = true := by kernel_rfl
theorem k_ref23_SameInts : chkFn Tryz.prog Tryz.f18 K.ref23_SameInts = true := by kernel_rfl
theorem k_ref25_Join : chkFn Tryz.prog Tryz.f93 K.ref25_Join = true := by kernel_rfl
theorem k_ref25_asked : chkFn Tryz.prog Tryz.f94 K.ref25_asked = true := by kernel_rfl
theorem k_ref25_close : chkFn Tryz.prog Tryz.f95 K.ref25_close = true := by kernel_rfl
theorem k_slices_IndexFunc_int_int : chkFn Tryz.prog Tryz.f98 K.slices_IndexFunc_int_int = true := by kernel_rfl
theorem k_slices_Index_int_int : chkFn Tryz.prog Tryz.f99 K.slices_Index_int_int = true := by kernel_rfl
theorem k_swaps_Possible_1 : chkFn Tryz.prog Tryz.f100 K.swaps_Possible_1 = true := by kernel_rfl
theorem k_slices_ContainsFunc_api_World_api_World : chkFn Tryz.prog Tryz.f101 K.slices_ContainsFunc_api_World_api_World = true := by kernel_rfl
theorem k_swaps_Possible_1_1 : chkFn Tryz.prog Tryz.f102 K.swaps_Possible_1_1 = true := by kernel_rfl
theorem k_lists_In : chkFn Tryz.prog Tryz.f43 K.lists_In = true := by kernel_rfl
theorem k_ref25_Plain : chkFn Tryz.prog Tryz.f112 K.ref25_Plain = true := by kernel_rfl
theorem k_ref25_lower : chkFn Tryz.prog Tryz.f113 K.ref25_lower = true := by kernel_rfl
theorem k_ref03_Time : chkFn Tryz.prog Tryz.f114 K.ref03_Time = true := by kernel_rfl
theorem k_slices_IndexFunc_api_World_api_World : chkFn Tryz.prog Tryz.f116 K.slices_IndexFunc_api_World_api_World = true := by kernel_rfl
theorem k_ref03_walked : chkFn Tryz.prog Tryz.f125 K.ref03_walked = true := by kernel_rfl
theorem k_ref03_ends : chkFn Tryz.prog Tryz.f138 K.ref03_ends = true := by kernel_rfl
theorem k_lists_Rising : chkFn Tryz.prog Tryz.f65 K.lists_Rising = true := by kernel_rfl
theorem k_smoke_Valid : chkFn Tryz.prog Tryz.f41 K.smoke_Valid = true := by kernel_rfl
theorem k_plan_Valid : chkFn Tryz.prog Tryz.f66 K.plan_Valid = true := by kernel_rfl
theorem k_smoke_Valid_1 : chkFn Tryz.prog Tryz.f76 K.smoke_Valid_1 = true := by kernel_rfl
theorem k_plan_Check : chkFn Tryz.prog Tryz.f96 K.plan_Check = true := by kernel_rfl
theorem k_plan_spanIn : chkFn Tryz.prog Tryz.f115 K.plan_spanIn = true := by kernel_rfl
theorem k_places_Valid : chkFn Tryz.prog Tryz.f84 K.places_Valid = true := by kernel_rfl
theorem k_places_lowered : chkFn Tryz.prog Tryz.f110 K.places_lowered = true := by kernel_rfl
theorem k_places_all : chkFn Tryz.prog Tryz.f111 K.places_all = true := by kernel_rfl
theorem k_places_shaped : chkFn Tryz.prog Tryz.f109 K.places_shaped = true := by kernel_rfl
theorem k_slices_Equal_int_int : chkFn Tryz.prog Tryz.f80 K.slices_Equal_int_int = true := by kernel_rfl
theorem k_slices_Clone_int_int : chkFn Tryz.prog Tryz.f122 K.slices_Clone_int_int = true := by kernel_rfl
theorem k_places_arrivals : chkFn Tryz.prog Tryz.f123 K.places_arrivals = true := by kernel_rfl
theorem k_places_lowered_1 : chkFn Tryz.prog Tryz.f124 K.places_lowered_1 = true := by kernel_rfl
theorem k_places_shaped_1 : chkFn Tryz.prog Tryz.f121 K.places_shaped_1 = true := by kernel_rfl
theorem k_walk_Time : chkFn Tryz.prog Tryz.f137 K.walk_Time = true := by kernel_rfl
theorem k_walk_step : chkFn Tryz.prog Tryz.f144 K.walk_step = true := by kernel_rfl
theorem k_walk_with : chkFn Tryz.prog Tryz.f146 K.walk_with = true := by kernel_rfl
theorem k_walk_quick : chkFn Tryz.prog Tryz.f147 K.walk_quick = true := by kernel_rfl
theorem k_law40_FireRulesMore : chkFn Tryz.prog Tryz.f5 K.law40_FireRulesMore = true := by kernel_rfl
theorem k_firerules_Commands : chkFn Tryz.prog Tryz.f23 K.firerules_Commands = true := by kernel_rfl
theorem k_firerules_Valid : chkFn Tryz.prog Tryz.f32 K.firerules_Valid = true := by kernel_rfl
theorem k_swaps_Valid : chkFn Tryz.prog Tryz.f42 K.swaps_Valid = true := by kernel_rfl
theorem k_firerules_Valid_1 : chkFn Tryz.prog Tryz.f64 K.firerules_Valid_1 = true := by kernel_rfl
theorem k_slices_ContainsFunc_api_Machine_api_Machine : chkFn Tryz.prog Tryz.f67 K.slices_ContainsFunc_api_Machine_api_Machine = true := by kernel_rfl
theorem k_slices_Sorted_int : chkFn Tryz.prog Tryz.f77 K.slices_Sorted_int = true := by kernel_rfl
theorem k_slices_Values_int_int : chkFn Tryz.prog Tryz.f78 K.slices_Values_int_int = true := by kernel_rfl
theorem k_swaps_tagged : chkFn Tryz.prog Tryz.f79 K.swaps_tagged = true := by kernel_rfl
theorem k_slices_Compare_int_int : chkFn Tryz.prog Tryz.f81 K.slices_Compare_int_int = true := by kernel_rfl
theorem k_slices_ContainsFunc_api_Whereabouts_api_Whereabouts : chkFn Tryz.prog Tryz.f82 K.slices_ContainsFunc_api_Whereabouts_api_Whereabouts = true := by kernel_rfl
theorem k_swaps_Valid_1 : chkFn Tryz.prog Tryz.f83 K.swaps_Valid_1 = true := by kernel_rfl
theorem k_slices_IndexFunc_api_Machine_api_Machine : chkFn Tryz.prog Tryz.f97 K.slices_IndexFunc_api_Machine_api_Machine = true := by kernel_rfl
theorem k_slices_Values_int_int_1 : chkFn Tryz.prog Tryz.f106 K.slices_Values_int_int_1 = true := by kernel_rfl
theorem k_cmp_Compare_int : chkFn Tryz.prog Tryz.f107 K.cmp_Compare_int = true := by kernel_rfl
theorem k_slices_IndexFunc_api_Whereabouts_api_Whereabouts : chkFn Tryz.prog Tryz.f108 K.slices_IndexFunc_api_Whereabouts_api_Whereabouts = true := by kernel_rfl
theorem k_cmp_isNaN_int : chkFn Tryz.prog Tryz.f120 K.cmp_isNaN_int = true := by kernel_rfl
theorem all_ok : AllOK Tryz.prog real tab :=
  ⟨trivial, ⟨⟨by kernel_rfl, chkFn_ok Tryz.func6 k_made_Light⟩, ⟨⟨by kernel_rfl, chkFn_ok Tryz.func7 k_law40_awake⟩, ⟨⟨by kernel_rfl, chkFn_ok Tryz.func8 k_made_Roll⟩, ⟨⟨by kernel_rfl, chkFn_ok Tryz.func9 k_made_Dice_Mine⟩, ⟨⟨by kernel_rfl, chkFn_ok Tryz.func15 k_law40_some⟩, ⟨⟨by kernel_rfl, chkFn_ok Tryz.func10 k_made_Dice_Spread⟩, ⟨⟨by kernel_rfl, chkFn_ok Tryz.func11 k_made_Dice_Flows⟩, ⟨⟨by kernel_rfl, chkFn_ok Tryz.func12 k_made_Dice_Belief⟩, ⟨⟨by kernel_rfl, chkFn_ok Tryz.func22 k_made_Dice_Next⟩, ⟨⟨by kernel_rfl, chkFn_ok Tryz.func13 k_made_Dice_Of⟩, ⟨⟨by kernel_rfl, chkFn_ok Tryz.func16 k_firerules_Command⟩, ⟨⟨by kernel_rfl, chkFn_ok Tryz.func47 k_ref23_Has⟩, ⟨trivial, ⟨⟨by kernel_rfl, chkFn_ok Tryz.func19 k_firerules_Drawn⟩, ⟨⟨by kernel_rfl, chkFn_ok Tryz.func21 k_made_Dice_One⟩, ⟨⟨by kernel_rfl, chkFn_ok Tryz.func29 k_made_Dice_Some⟩, ⟨⟨by kernel_rfl, chkFn_ok Tryz.func24 k_ref28_Start⟩, ⟨⟨by kernel_rfl, chkFn_ok Tryz.func25 k_ref28_Change⟩, ⟨⟨by kernel_rfl, chkFn_ok Tryz.func26 k_ref26_Start⟩, ⟨⟨by kernel_rfl, chkFn_ok Tryz.func27 k_ref26_Exchange⟩, ⟨⟨by kernel_rfl, chkFn_ok Tryz.func28 k_ref26_See⟩, ⟨⟨by kernel_rfl, chkFn_ok Tryz.func30 k_ref26_Absent⟩, ⟨⟨by kernel_rfl, chkFn_ok Tryz.func40 k_made_Mod⟩, ⟨⟨by kernel_rfl, chkFn_ok Tryz.func34 k_smoke_Filled⟩, ⟨⟨by kernel_rfl, chkFn_ok Tryz.func35 k_firerules_meets⟩, ⟨⟨by kernel_rfl, chkFn_ok Tryz.func36 k_firerules_near⟩, ⟨trivial, ⟨⟨by kernel_rfl, chkFn_ok Tryz.func44 k_ref01_Check⟩, ⟨⟨by kernel_rfl, chkFn_ok Tryz.func45 k_ref28_Flows⟩, ⟨⟨by kernel_rfl, chkFn_ok Tryz.func46 k_ref23_Set⟩, ⟨⟨by kernel_rfl, chkFn_ok Tryz.func48 k_ref28_Close⟩, ⟨⟨by kernel_rfl, chkFn_ok Tryz.func49 k_ref28_Copy⟩, ⟨⟨by kernel_rfl, chkFn_ok Tryz.func50 k_ref28_Valid⟩, ⟨⟨by kernel_rfl, chkFn_ok Tryz.func51 k_ref28_Travel⟩, ⟨⟨by kernel_rfl, chkFn_ok Tryz.func52 k_ref26_proper⟩, ⟨⟨by kernel_rfl, chkFn_ok Tryz.func53 k_ref25_Start⟩, ⟨⟨by kernel_rfl, chkFn_ok Tryz.func54 k_ref26_Copy⟩, ⟨⟨by kernel_rfl, chkFn_ok Tryz.func55 k_ref26_Valid⟩, ⟨⟨by kernel_rfl, chkFn_ok Tryz.func56 k_ref26_CopyWorld⟩, ⟨⟨by kernel_rfl, chkFn_ok Tryz.func57 k_ref26_meet⟩, ⟨⟨by kernel_rfl, chkFn_ok Tryz.func58 k_ref25_Raise⟩, ⟨⟨by kernel_rfl, chkFn_ok Tryz.func59 k_ref26_Tidy⟩, ⟨⟨by kernel_rfl, chkFn_ok Tryz.func60 k_ref26_borne⟩, ⟨⟨by kernel_rfl, chkFn_ok Tryz.func61 k_ref26_bearer⟩, ⟨⟨by kernel_rfl, chkFn_ok Tryz.func62 k_ref25_See⟩, ⟨⟨by kernel_rfl, chkFn_ok Tryz.func63 k_ref25_Absent⟩, ⟨⟨by kernel_rfl, chkFn_ok Tryz.func68 k_lists_Where⟩, ⟨⟨by kernel_rfl, chkFn_ok Tryz.func69 k_smoke_Filled_1⟩, ⟨⟨by kernel_rfl, chkFn_ok Tryz.func70 k_slices_ContainsFunc_int_int⟩, ⟨⟨by kernel_rfl, chkFn_ok Tryz.func71 k_firerules_meets_1⟩, ⟨⟨by kernel_rfl, chkFn_ok Tryz.func72 k_slices_Contains_int_int⟩, ⟨⟨by kernel_rfl, chkFn_ok Tryz.func73 k_firerules_near_1⟩, ⟨⟨by kernel_rfl, chkFn_ok Tryz.func74 k_swaps_Possible⟩, ⟨⟨by kernel_rfl, chkFn_ok Tryz.func85 k_ref01_Span⟩, ⟨⟨by kernel_rfl, chkFn_ok Tryz.func86 k_ref28_Span⟩, ⟨⟨by kernel_rfl, chkFn_ok Tryz.func87 k_ref25_inTime⟩, ⟨⟨by kernel_rfl, chkFn_ok Tryz.func88 k_ref25_never⟩, ⟨⟨by kernel_rfl, chkFn_ok Tryz.func89 k_ref25_Close⟩, ⟨⟨by kernel_rfl, chkFn_ok Tryz.func90 k_ref26_Less⟩, ⟨⟨by kernel_rfl, chkFn_ok Tryz.func91 k_ref25_Valid⟩, ⟨⟨by kernel_rfl, chkFn_ok Tryz.func92 k_ref25_Copy⟩, ⟨⟨by kernel_rfl, chkFn_ok Tryz.func18 k_ref23_SameInts⟩, ⟨⟨by kernel_rfl, chkFn_ok Tryz.func93 k_ref25_Join⟩, ⟨⟨by kernel_rfl, chkFn_ok Tryz.func94 k_ref25_asked⟩, ⟨⟨by kernel_rfl, chkFn_ok Tryz.func95 k_ref25_close⟩, ⟨⟨by kernel_rfl, chkFn_ok Tryz.func98 k_slices_IndexFunc_int_int⟩, ⟨⟨by kernel_rfl, chkFn_ok Tryz.func99 k_slices_Index_int_int⟩, ⟨⟨by kernel_rfl, chkFn_ok Tryz.func100 k_swaps_Possible_1⟩, ⟨⟨by kernel_rfl, chkFn_ok Tryz.func101 k_slices_ContainsFunc_api_World_api_World⟩, ⟨⟨by kernel_rfl, chkFn_ok Tryz.func102 k_swaps_Possible_1_1⟩, ⟨⟨by kernel_rfl, chkFn_ok Tryz.func43 k_lists_In⟩, ⟨⟨by kernel_rfl, chkFn_ok Tryz.func112 k_ref25_Plain⟩, ⟨⟨by kernel_rfl, chkFn_ok Tryz.func113 k_ref25_lower⟩, ⟨⟨by kernel_rfl, chkFn_ok Tryz.func114 k_ref03_Time⟩, ⟨⟨by kernel_rfl, chkFn_ok Tryz.func116 k_slices_IndexFunc_api_World_api_World⟩, ⟨⟨by kernel_rfl, chkFn_ok Tryz.func125 k_ref03_walked⟩, ⟨⟨by kernel_rfl, chkFn_ok Tryz.func138 k_ref03_ends⟩, ⟨trivial, ⟨trivial, ⟨trivial, ⟨trivial, ⟨trivial, ⟨trivial, ⟨trivial, ⟨trivial, ⟨trivial, ⟨trivial, ⟨trivial, ⟨trivial, ⟨trivial, ⟨trivial, ⟨trivial, ⟨trivial, ⟨trivial, ⟨trivial, ⟨trivial, ⟨trivial, ⟨trivial, ⟨trivial, ⟨trivial, ⟨trivial, ⟨trivial, ⟨trivial, ⟨trivial, ⟨⟨by kernel_rfl, chkFn_ok Tryz.func65 k_lists_Rising⟩, ⟨trivial, ⟨trivial, ⟨trivial, ⟨trivial, ⟨trivial, ⟨trivial, ⟨trivial, ⟨trivial, ⟨trivial, ⟨trivial, ⟨trivial, ⟨trivial, ⟨trivial, ⟨trivial, ⟨trivial, ⟨trivial, ⟨trivial, ⟨trivial, ⟨trivial, ⟨trivial, ⟨trivial, ⟨trivial, ⟨trivial, ⟨trivial, ⟨trivial, ⟨trivial, ⟨trivial, ⟨trivial, ⟨trivial, ⟨trivial, ⟨trivial, ⟨trivial, ⟨trivial, ⟨trivial, ⟨trivial, ⟨trivial, ⟨trivial, ⟨trivial, ⟨trivial, ⟨trivial, ⟨trivial, ⟨trivial, ⟨trivial, ⟨trivial, ⟨trivial, ⟨trivial, ⟨trivial, ⟨trivial, ⟨trivial, ⟨trivial, ⟨trivial, ⟨trivial, ⟨trivial, ⟨trivial, ⟨trivial, ⟨trivial, ⟨⟨by kernel_rfl, chkFn_ok Tryz.func41 k_smoke_Valid⟩, ⟨trivial, ⟨trivial, ⟨trivial, ⟨trivial, ⟨⟨by kernel_rfl, chkFn_ok Tryz.func66 k_plan_Valid⟩, ⟨trivial, ⟨trivial, ⟨trivial, ⟨trivial, ⟨⟨by kernel_rfl, chkFn_ok Tryz.func76 k_smoke_Valid_1⟩, ⟨⟨by kernel_rfl, chkFn_ok Tryz.func96 k_plan_Check⟩, ⟨trivial, ⟨trivial, ⟨trivial, ⟨⟨by kernel_rfl, chkFn_ok Tryz.func115 k_plan_spanIn⟩, ⟨trivial, ⟨trivial, ⟨trivial, ⟨trivial, ⟨trivial, ⟨trivial, ⟨trivial, ⟨trivial, ⟨trivial, ⟨trivial, ⟨trivial, ⟨trivial, ⟨⟨by kernel_rfl, chkFn_ok Tryz.func84 k_places_Valid⟩, ⟨trivial, ⟨trivial, ⟨trivial, ⟨trivial, ⟨trivial, ⟨trivial, ⟨trivial, ⟨trivial, ⟨⟨by kernel_rfl, chkFn_ok Tryz.func110 k_places_lowered⟩, ⟨⟨by kernel_rfl, chkFn_ok Tryz.func111 k_places_all⟩, ⟨⟨by kernel_rfl, chkFn_ok Tryz.func109 k_places_shaped⟩, ⟨⟨by kernel_rfl, chkFn_ok Tryz.func80 k_slices_Equal_int_int⟩, ⟨trivial, ⟨⟨by kernel_rfl, chkFn_ok Tryz.func122 k_slices_Clone_int_int⟩, ⟨trivial, ⟨trivial, ⟨trivial, ⟨⟨by kernel_rfl, chkFn_ok Tryz.func123 k_places_arrivals⟩, ⟨⟨by kernel_rfl, chkFn_ok Tryz.func124 k_places_lowered_1⟩, ⟨⟨by kernel_rfl, chkFn_ok Tryz.func121 k_places_shaped_1⟩, ⟨⟨by kernel_rfl, chkFn_ok Tryz.func137 k_walk_Time⟩, ⟨⟨by kernel_rfl, chkFn_ok Tryz.func144 k_walk_step⟩, ⟨⟨by kernel_rfl, chkFn_ok Tryz.func146 k_walk_with⟩, ⟨⟨by kernel_rfl, chkFn_ok Tryz.func147 k_walk_quick⟩, ⟨trivial, ⟨trivial, ⟨trivial, ⟨trivial, ⟨trivial, ⟨trivial, ⟨trivial, ⟨trivial, ⟨trivial, ⟨trivial, ⟨trivial, ⟨trivial, ⟨trivial, ⟨trivial, ⟨trivial, ⟨trivial, ⟨trivial, ⟨trivial, ⟨trivial, ⟨trivial, ⟨trivial, ⟨trivial, ⟨trivial, ⟨trivial, ⟨trivial, ⟨trivial, ⟨trivial, ⟨trivial, ⟨trivial, ⟨trivial, ⟨trivial, ⟨trivial, ⟨⟨by kernel_rfl, chkFn_ok Tryz.func5 k_law40_FireRulesMore⟩, ⟨trivial, ⟨trivial, ⟨trivial, ⟨⟨by kernel_rfl, chkFn_ok Tryz.func23 k_firerules_Commands⟩, ⟨trivial, ⟨⟨by kernel_rfl, chkFn_ok Tryz.func32 k_firerules_Valid⟩, ⟨trivial, ⟨trivial, ⟨trivial, ⟨⟨by kernel_rfl, chkFn_ok Tryz.func42 k_swaps_Valid⟩, ⟨⟨by kernel_rfl, chkFn_ok Tryz.func64 k_firerules_Valid_1⟩, ⟨⟨by kernel_rfl, chkFn_ok Tryz.func67 k_slices_ContainsFunc_api_Machine_api_Machine⟩, ⟨⟨by kernel_rfl, chkFn_ok Tryz.func77 k_slices_Sorted_int⟩, ⟨⟨by kernel_rfl, chkFn_ok Tryz.func78 k_slices_Values_int_int⟩, ⟨⟨by kernel_rfl, chkFn_ok Tryz.func79 k_swaps_tagged⟩, ⟨⟨by kernel_rfl, chkFn_ok Tryz.func81 k_slices_Compare_int_int⟩, ⟨⟨by kernel_rfl, chkFn_ok Tryz.func82 k_slices_ContainsFunc_api_Whereabouts_api_Whereabouts⟩, ⟨⟨by kernel_rfl, chkFn_ok Tryz.func83 k_swaps_Valid_1⟩, ⟨⟨by kernel_rfl, chkFn_ok Tryz.func97 k_slices_IndexFunc_api_Machine_api_Machine⟩, ⟨⟨by kernel_rfl, chkFn_ok Tryz.func106 k_slices_Values_int_int_1⟩, ⟨⟨by kernel_rfl, chkFn_ok Tryz.func107 k_cmp_Compare_int⟩, ⟨⟨by kernel_rfl, chkFn_ok Tryz.func108 k_slices_IndexFunc_api_Whereabouts_api_Whereabouts⟩, ⟨⟨by kernel_rfl, chkFn_ok Tryz.func120 k_cmp_isNaN_int⟩, trivial⟩⟩⟩⟩⟩⟩⟩⟩⟩⟩⟩⟩⟩⟩⟩⟩⟩⟩⟩⟩⟩⟩⟩⟩⟩⟩⟩⟩⟩⟩⟩⟩⟩⟩⟩⟩⟩⟩⟩⟩⟩⟩⟩⟩⟩⟩⟩⟩⟩⟩⟩⟩⟩⟩⟩⟩⟩⟩⟩⟩⟩⟩⟩⟩⟩⟩⟩⟩⟩⟩⟩⟩⟩⟩⟩⟩⟩⟩⟩⟩⟩⟩⟩⟩⟩⟩⟩⟩⟩⟩⟩⟩⟩⟩⟩⟩⟩⟩⟩⟩⟩⟩⟩⟩⟩⟩⟩⟩⟩⟩⟩⟩⟩⟩⟩⟩⟩⟩⟩⟩⟩⟩⟩⟩⟩⟩⟩⟩⟩⟩⟩⟩⟩⟩⟩⟩⟩⟩⟩⟩⟩⟩⟩⟩⟩⟩⟩⟩⟩⟩⟩⟩⟩⟩⟩⟩⟩⟩⟩⟩⟩⟩⟩⟩⟩⟩⟩⟩⟩⟩⟩⟩⟩⟩⟩⟩⟩⟩⟩⟩⟩⟩⟩⟩⟩⟩⟩⟩⟩⟩⟩⟩⟩⟩⟩⟩⟩⟩⟩⟩⟩⟩⟩⟩⟩⟩⟩⟩⟩⟩⟩⟩⟩⟩⟩⟩⟩⟩⟩⟩⟩⟩⟩⟩⟩⟩⟩⟩⟩⟩⟩⟩⟩⟩⟩⟩⟩⟩⟩⟩⟩⟩⟩⟩⟩⟩⟩⟩⟩⟩⟩⟩⟩⟩⟩⟩⟩⟩⟩⟩⟩⟩⟩⟩⟩⟩⟩⟩⟩⟩⟩
def prims : List (Nat × List Nat) := [(260, [2, N.slices_Values_int_int_1])]
def laysSort_ren : Go.Shelf.Ren := ⟨fun | 189 => 105 | 125 => 119 | 257 => 118 | 128 => 135 | 129 => 136 | 294 => 126 | 295 => 127 | 296 => 128 | 297 => 129 | 298 => 130 | 299 => 131 | 216 => 132 | 300 => 133 | 301 => 134 | 328 => 139 | 329 => 140 | 330 => 141 | 331 => 142 | 332 => 143 | 215 => 120 | 343 => 145 | n => n, fun | 28 => 22 | 3 => 3 | 46 => 141 | 0 => 0 | 51 => 155 | 53 => 157 | 4 => 4 | 183 => 148 | 182 => 147 | 131 => 152 | 5 => 5 | 9 => 9 | 218 => 161 | 222 => 165 | 228 => 167 | 229 => 159 | n => n, fun | n => n⟩
theorem laysSort : Go.Proofs.Lays.n189 Tryz.prog laysSort_ren := {
  mixed := by kernel_rfl,
  f125 := Tryz.func119.trans (congrArg some (by kernel_rfl)),
  f128 := Tryz.func135.trans (congrArg some (by kernel_rfl)),
  f129 := Tryz.func136.trans (congrArg some (by kernel_rfl)),
  f189 := Tryz.func105.trans (congrArg some (by kernel_rfl)),
  f215 := Tryz.func120.trans (congrArg some (by kernel_rfl)),
  f216 := Tryz.func132.trans (congrArg some (by kernel_rfl)),
  f257 := Tryz.func118.trans (congrArg some (by kernel_rfl)),
  f294 := Tryz.func126.trans (congrArg some (by kernel_rfl)),
  f295 := Tryz.func127.trans (congrArg some (by kernel_rfl)),
  f296 := Tryz.func128.trans (congrArg some (by kernel_rfl)),
  f297 := Tryz.func129.trans (congrArg some (by kernel_rfl)),
  f298 := Tryz.func130.trans (congrArg some (by kernel_rfl)),
  f299 := Tryz.func131.trans (congrArg some (by kernel_rfl)),
  f300 := Tryz.func133.trans (congrArg some (by kernel_rfl)),
  f301 := Tryz.func134.trans (congrArg some (by kernel_rfl)),
  f328 := Tryz.func139.trans (congrArg some (by kernel_rfl)),
  f329 := Tryz.func140.trans (congrArg some (by kernel_rfl)),
  f330 := Tryz.func141.trans (congrArg some (by kernel_rfl)),
  f331 := Tryz.func142.trans (congrArg some (by kernel_rfl)),
  f332 := Tryz.func143.trans (congrArg some (by kernel_rfl)),
  f343 := Tryz.func145.trans (congrArg some (by kernel_rfl)),
  t0 := Tryz.underlying0,
  a0 := Tryz.isAgg0,
  z0 := Tryz.sizeOf0,
  v0 := Tryz.zeroValue0,
  t3 := Tryz.underlying3,
  a3 := Tryz.isAgg3,
  z3 := Tryz.sizeOf3,
  v3 := Tryz.zeroValue3,
  t4 := Tryz.underlying4,
  a4 := Tryz.isAgg4,
  z4 := Tryz.sizeOf4,
  v4 := Tryz.zeroValue4,
  t5 := Tryz.underlying5,
  a5 := Tryz.isAgg5,
  z5 := Tryz.sizeOf5,
  v5 := Tryz.zeroValue5,
  t9 := Tryz.underlying9,
  a9 := Tryz.isAgg9,
  z9 := Tryz.sizeOf9,
  v9 := Tryz.zeroValue9,
  t28 := Tryz.underlying22,
  a28 := Tryz.isAgg22,
  z28 := Tryz.sizeOf22,
  v28 := Tryz.zeroValue22,
  t46 := Tryz.underlying141,
  a46 := Tryz.isAgg141,
  z46 := Tryz.sizeOf141,
  v46 := Tryz.zeroValue141,
  t51 := Tryz.underlying155,
  a51 := Tryz.isAgg155,
  z51 := Tryz.sizeOf155,
  v51 := Tryz.zeroValue155,
  t53 := Tryz.underlying157,
  a53 := Tryz.isAgg157,
  z53 := Tryz.sizeOf157,
  v53 := Tryz.zeroValue157,
  t131 := Tryz.underlying152,
  a131 := Tryz.isAgg152,
  z131 := Tryz.sizeOf152,
  v131 := Tryz.zeroValue152,
  t182 := Tryz.underlying147,
  a182 := Tryz.isAgg147,
  z182 := Tryz.sizeOf147,
  v182 := Tryz.zeroValue147,
  t183 := Tryz.underlying148,
  a183 := Tryz.isAgg148,
  z183 := Tryz.sizeOf148,
  v183 := Tryz.zeroValue148,
  t218 := Tryz.underlying161,
  a218 := Tryz.isAgg161,
  z218 := Tryz.sizeOf161,
  v218 := Tryz.zeroValue161,
  t222 := Tryz.underlying165,
  a222 := Tryz.isAgg165,
  z222 := Tryz.sizeOf165,
  v222 := Tryz.zeroValue165,
  t228 := Tryz.underlying167,
  a228 := Tryz.isAgg167,
  z228 := Tryz.sizeOf167,
  v228 := Tryz.zeroValue167,
  t229 := Tryz.underlying159,
  a229 := Tryz.isAgg159,
  z229 := Tryz.sizeOf159,
  v229 := Tryz.zeroValue159 }
def laysSorted_ren : Go.Shelf.Ren := ⟨fun | 6 => 77 | 8 => 104 | 9 => 105 | 11 => 117 | 13 => 119 | 12 => 118 | 23 => 135 | 24 => 136 | 14 => 126 | 15 => 127 | 16 => 128 | 17 => 129 | 18 => 130 | 19 => 131 | 20 => 132 | 21 => 133 | 22 => 134 | 25 => 139 | 26 => 140 | 27 => 141 | 28 => 142 | 29 => 143 | 30 => 120 | 31 => 145 | n => n, fun | 26 => 3 | 28 => 113 | 24 => 22 | 0 => 0 | 3 => 3 | 37 => 141 | 48 => 155 | 50 => 157 | 4 => 4 | 40 => 148 | 39 => 147 | 45 => 152 | 5 => 5 | 9 => 9 | 51 => 161 | 55 => 165 | 57 => 167 | 58 => 159 | 33 => 52 | n => n, fun | n => n⟩
theorem laysSorted : Go.Proofs.SlLaysZI.n6 Tryz.prog laysSorted_ren := {
  f6 := ⟨"slices.Sorted[int]", by kernel_rfl, Tryz.func77.trans (congrArg some (by kernel_rfl))⟩,
  f8 := ⟨"slices.Collect[int]", by kernel_rfl, Tryz.func104.trans (congrArg some (by kernel_rfl))⟩,
  f11 := ⟨"slices.AppendSeq[[]int,int]", by kernel_rfl, Tryz.func117.trans (congrArg some (by kernel_rfl))⟩,
  mixed := by kernel_rfl,
  t0 := Tryz.underlying0,
  a0 := Tryz.isAgg0,
  z0 := Tryz.sizeOf0,
  v0 := Tryz.zeroValue0,
  t24 := Tryz.underlying22,
  a24 := Tryz.isAgg22,
  z24 := Tryz.sizeOf22,
  v24 := Tryz.zeroValue22,
  t26 := Tryz.underlying3,
  a26 := Tryz.isAgg3,
  z26 := Tryz.sizeOf3,
  v26 := Tryz.zeroValue3,
  t28 := Tryz.underlying113,
  a28 := Tryz.isAgg113,
  z28 := Tryz.sizeOf113,
  v28 := Tryz.zeroValue113,
  i26 := by kernel_rfl }
section
open Go.RowKit Go.Shelf Go.Maps Go.Sort Go.Proofs
/- the iterator of slices.Values at this program -/
set_option maxRecDepth 100000 in
set_option maxHeartbeats 2000000 in
theorem vals1 (n l Bs : Nat) (hn : 1 ≤ n) (W0 : World) (b off len cap : Nat) (zs : List Int) (hlen : zs.length = len) (hreach : len * 8 ≤ 140737488351232) (hb : b < W0.heap.size) (J : List Int → World → Prop)
    (hJ : ∀ s W1, J s W1 → Below W0.heap.size W0 W1)
    (hY : ∀ pre x W1, J pre W1 → pre.length < zs.length → YieldAt Fence.wide (n - 1) Tryz.prog l #[encZ x] W1 fun e W' => e = .returned (.bool true) ∧ J (pre ++ [x]) W' ∧ KeepsWalks W1 W')
    (W : World) (hBs : W.cell? ⟨Bs, 0, none⟩ = some (.slice (some ⟨b, off, none⟩) len cap)) (hc : ∀ j, j < len → W0.cell? ⟨b, off + j, none⟩ = some (.int .i64 (zs[j]?.getD 0))) (h0 : J [] W) :
    CallsIn Fence.wide n Tryz.prog 106 #[.func (.yield l) #[] #[], .pointer (some ⟨Bs, 0, none⟩)] W fun e W' => (∃ v, e = .returned v) ∧ J zs W' := by
  have step : ∀ k, k < zs.length → zs.take k ++ [zs[k]?.getD 0] = zs.take (k + 1) := fun k hk => by
    rw [List.take_succ_eq_append_getElem hk]; simp [hk]
  refine callsIn_of_wp Tryz.func106 rfl trivial ?_ rfl
  simp only [Tryz.ntmps106, List.size_toArray, List.length_cons, List.length_nil, Nat.reduceAdd, Nat.reduceSub, Array.replicate_succ, Array.replicate_zero, List.push_toArray, List.append_toArray, List.nil_append, List.cons_append]
  gi_wp2
  gi_loopw [7] (fun i wr => ∃ k : Nat, k ≤ len ∧ i = .int .i64 k ∧ J (zs.take k) wr)
    (fun i _ => len - (intOf i).toNat)
  case atStart => exact ⟨0, Nat.zero_le _, rfl, h0⟩
  case round =>
    obtain ⟨k, hk, rfl, hJs⟩ := hrel
    by_cases hlt : k < len
    · have hcx : wr.cell? ⟨b, off + k, none⟩ = some (.int .i64 (zs[k]?.getD 0)) := ((hJ _ _ hJs).cell (p := ⟨b, off + k, none⟩) hb).trans (hc k hlt)
      have st := step k (by omega)
      generalize zs[k]?.getD 0 = x at hcx st
      obtain ⟨fn, tmps, assign, body, hy, hR⟩ := hY _ x wr hJs (by rw [List.length_take]; omega)
      clear step
      gi_wp2
      refine hR.mono ?_
      rintro e W3 ⟨rfl, hJ3, -⟩
      gi_wp2
      go_roundw
      case rel => exact ⟨k + 1, by omega, by simp, by rw [← st]; exact hJ3⟩
      case measure => simp [intOf]; omega
    · obtain rfl : k = len := by omega
      gi_wp2
      go_end0
      exact ⟨⟨_, rfl⟩, by rw [← hlen, List.take_length] at hJs; exact hJs⟩
set_option maxRecDepth 100000 in
set_option maxHeartbeats 1000000 in
theorem vals0 (n l Bs : Nat) (p : Option Addr) (cap : Nat) (J : List Int → World → Prop) (W : World) (hBs : W.cell? ⟨Bs, 0, none⟩ = some (.slice p 0 cap)) (h0 : J [] W) :
    CallsIn Fence.wide n Tryz.prog 106 #[.func (.yield l) #[] #[], .pointer (some ⟨Bs, 0, none⟩)] W fun e W' => (∃ v, e = .returned v) ∧ J [] W' := by
  refine callsIn_of_wp Tryz.func106 rfl trivial ?_ rfl
  simp only [Tryz.ntmps106, List.size_toArray, List.length_cons, List.length_nil, Nat.reduceAdd, Nat.reduceSub, Array.replicate_succ, Array.replicate_zero, List.push_toArray, List.append_toArray, List.nil_append, List.cons_append]
  gi_wp2
  gi_loopw [7] (fun i wr => i = .int .i64 0 ∧ J [] wr) (fun _ _ => 0)
  case atStart => exact ⟨rfl, h0⟩
  case round =>
    obtain ⟨rfl, hJs⟩ := hrel
    gi_wp2
    go_end0
    exact ⟨⟨_, rfl⟩, hJs⟩
theorem vals_ok : ValsOK Tryz.prog 106 := by
  intro n Bs sv zs w hn hreach hBs hcell hI l J W hW hJ hY h0
  have hc' := (hW.cell (p := ⟨Bs, 0, none⟩) hBs).trans hcell
  rcases hI with ⟨p, cap, rfl, rfl⟩ | ⟨b, off, cap, rfl, hb, hcs⟩
  · exact vals0 n l Bs p cap J W hc' h0
  · exact vals1 n l Bs hn w b off zs.length cap zs rfl hreach hb J hJ hY W hc' hcs h0
end
theorem prim_260 : ∀ j, Names.ρ 260 = some j → PrimOK Tryz.prog j [2, N.slices_Values_int_int_1] := fun j hj => by
  have e : (Names.ρ 260 : Option Nat) = some 77 := by kernel_rfl
  rw [e] at hj; cases hj; exact prim_sorted laysSorted laysSort (by kernel_rfl) (Go.Proofs.enters_of Tryz.func105 (by kernel_rfl) rfl) (by kernel_rfl) (Go.Proofs.enters_of Tryz.func106 (by kernel_rfl) rfl) vals_ok
theorem prims_ok : ∀ x ∈ prims, ∀ j, Names.ρ x.1 = some j → PrimOK Tryz.prog j x.2 := by
  intro x hx
  simp only [prims, List.mem_cons, List.not_mem_nil, or_false] at hx
  rcases hx with rfl
  · exact prim_260
end Go.Proofs.YtddpkhnllojfpaaGreat
