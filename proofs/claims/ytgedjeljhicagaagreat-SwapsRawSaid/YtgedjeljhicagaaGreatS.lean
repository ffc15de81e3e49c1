/- MADE BY PROGRAM (lib.py): the numbers that the functions have in this program, and the check of each one. -/
import Derived.Test.YtgedjeljhicagaaGreatProg
import Derived.Test.YtgedjeljhicagaaGreatZPPP
import Derived.KernelRfl
set_option linter.all false
set_option maxRecDepth 100000
namespace Go.Proofs.YtgedjeljhicagaaGreat
open Go.Ev
def real : List (Option Nat) := [none, some 9, none, some 11, some 12, none, none, none, none, some 15, some 28, none, some 24, some 73, none, some 16, some 23, none, none, none, some 21, some 69, some 70, some 17, none, none, none, some 27, some 45, none, some 105, none, none, none, none, some 46, none, some 37, some 53, some 54, some 55, some 56, some 57, some 109, some 91, some 29, some 30, some 74, none, some 93, none, some 95, none, some 38, some 90, none, some 58, some 59, some 60, some 100, some 101, some 65, some 26, some 102, some 64, some 66, some 125, some 103, some 75, some 76, some 77, some 41, some 111, some 106, some 107, some 113, some 129, some 139, none, none, none, none, none, none, none, none, none, none, none, none, none, none, none, none, none, none, none, none, none, none, none, none, none, none, none, some 86, none, none, none, none, none, none, none, none, none, none, none, none, none, none, some 37, none, none, none, none, none, none, none, none, none, none, none, none, none, none, none, none, none, none, none, none, none, none, none, none, some 92, none, none, some 124, none, none, none, none, none, none, none, none, none, none, none, some 121, none, none, none, none, none, none, some 40, none, none, some 135, none, none, some 85, none, none, some 152, some 120, none, none, none, none, none, none, none, none, some 44, none, none, some 99, some 84, none, some 63, some 68, some 110, none, some 32, none, some 87, some 88, some 89, some 119, some 80, some 104, some 43, some 108, some 112, some 51, some 122, some 123, some 134, some 136, some 153, some 161, some 162, none, none, none, none, none, none, none, none, none, none, none, none, none, none, none, none, none, none, none, none, none, none, none, none, none, none, none, none, none, none, none, none, none, none, none, none, none, none, none, none, none, none, some 39, none, none, some 78, some 79, some 42, some 81, some 82, some 83, none, some 116, some 117, some 118, some 133, none, none, none, none, some 7, none, some 10, some 13, some 18, some 19, some 20, some 25, some 31, some 33, some 34, some 47, some 48, some 49, some 50, some 52, some 61, some 62, some 67, some 71, some 72, some 94, some 96, some 97, some 98, some 126, some 127, some 128, some 138, some 154, some 155, some 163, some 165, some 50]
def tab : List (Option Go.Ev.Fn) := [none, some K.made_Light, none, some K.made_Roll, some K.made_Dice_Mine, none, none, none, none, some K.made_Dice_Next, some K.made_Dice_Of, none, some K.ref23_Has, some K.ref26_Possible, none, some K.made_Dice_One, some K.made_Dice_Some, none, none, none, some K.ref26_Exchange, some K.ref26_See, some K.ref26_Absent, some K.made_Mod, none, none, none, some K.ref25_Possible, some K.ref01_Check, none, some K.ref23_Set, none, none, none, none, some K.ref26_proper, none, some K.ref26_Copy, some K.ref26_Valid, some K.ref26_CopyWorld, some K.ref26_meet, some K.ref25_Raise, some K.ref26_Tidy, some K.ref26_borne, some K.ref26_bearer, some K.ref25_See, some K.ref25_Absent, some K.lists_Where, none, some K.slices_ContainsFunc_int_int, none, some K.slices_Contains_int_int, none, some K.swaps_Possible, some K.ref01_Span, none, some K.ref25_inTime, some K.ref25_never, some K.ref25_Close, some K.ref26_Less, some K.ref25_Valid, some K.ref25_Copy, some K.ref23_SameInts, some K.ref25_Join, some K.ref25_asked, some K.ref25_close, some K.slices_IndexFunc_int_int, some K.slices_Index_int_int, some K.swaps_Possible_1, some K.slices_ContainsFunc_api_World_api_World, some K.swaps_Possible_1_1, some K.lists_In, some K.ref25_Plain, some K.ref25_lower, some K.ref03_Time, some K.slices_IndexFunc_api_World_api_World, some K.ref03_walked, some K.ref03_ends, none, none, none, none, none, none, none, none, none, none, none, none, none, none, none, none, none, none, none, none, none, none, none, none, none, none, none, some K.lists_Rising, none, none, none, none, none, none, none, none, none, none, none, none, none, none, some K.ref26_Copy_v1, none, none, none, none, none, none, none, none, none, none, none, none, none, none, none, none, none, none, none, none, none, none, none, none, some K.places_Possible, none, none, some K.places_Possible_1, none, none, none, none, none, none, none, none, none, none, none, some K.slices_Repeat_int_int, none, none, none, none, none, none, some K.plan_Valid, none, none, some K.math_bits_Mul, none, none, some K.plan_Check, none, none, some K.math_bits_Mul64, some K.plan_spanIn, none, none, none, none, none, none, none, none, some K.places_Start, none, none, some K.places_Join, some K.places_Valid, none, some K.places_See, some K.places_Absent, some K.places_Renew, none, some K.ref25_Same, none, some K.places_nowhere, some K.places_lowered, some K.places_all, some K.places_shaped, some K.slices_Equal_int_int, some K.places_given, some K.slices_Clone_int_int, some K.places_Absent_1, some K.ref25_Renew, some K.places_Raise, some K.places_arrivals, some K.places_lowered_1, some K.places_shaped_1, some K.walk_Time, some K.walk_step, some K.walk_with, some K.walk_quick, none, none, none, none, none, none, none, none, none, none, none, none, none, none, none, none, none, none, none, none, none, none, none, none, none, none, none, none, none, none, none, none, none, none, none, none, none, none, none, none, none, none, some K.swaps_Valid, none, none, some K.slices_Sorted_int, some K.slices_Values_int_int, some K.swaps_tagged, some K.slices_Compare_int_int, some K.slices_ContainsFunc_api_Whereabouts_api_Whereabouts, some K.swaps_Valid_1, none, some K.slices_Values_int_int_1, some K.cmp_Compare_int, some K.slices_IndexFunc_api_Whereabouts_api_Whereabouts, some K.cmp_isNaN_int, none, none, none, none, some K.law26_SwapsRaw, none, some K.law26_awake, some K.swaps_Start, some K.law26_same, some K.law26_pair, some K.swaps_Exchange, some K.swaps_See, some K.swaps_Absent, some K.law26_light, some K.law26_agree, some K.ref26_Same, some K.slices_Clone_api_World_api_World, some K.swaps_meet, some K.worlds_Copy, some K.worlds_Tidy, some K.swaps_apply, some K.swaps_See_1, some K.swaps_Absent_1, some K.swaps_Renew, some K.ref26_Renew, some K.swaps_meet_1, some K.slices_SortedStableFunc_api_World, some K.slices_Values_api_World_api_World, some K.worlds_Tidy_1, some K.slices_Collect_api_World, some K.slices_SortStableFunc_api_World_api_World, some K.slices_Values_api_World_api_World_1, some K.slices_stableCmpFunc_api_World, some K.slices_insertionSortCmpFunc_api_World, some K.slices_symMergeCmpFunc_api_World, some K.slices_rotateCmpFunc_api_World, some K.slices_swapRangeCmpFunc_api_World, some K.worlds_Copy_v1]
instance names : Names := ⟨fun f => (real[f]?).join⟩
instance lib : Lib := ⟨fun f => (tab[f]?).join⟩
instance has1 : Has1 := ⟨rfl, rfl, rfl, rfl, rfl, rfl, rfl, rfl, rfl, rfl, rfl, rfl, rfl, rfl, rfl, rfl, rfl⟩
instance has2 : Has2 := ⟨rfl, rfl, rfl, rfl, rfl, rfl, rfl, rfl, rfl, rfl, rfl, rfl, rfl, rfl, rfl, rfl, rfl, rfl, rfl, rfl, rfl, rfl, rfl, rfl, rfl, rfl, rfl, rfl, rfl, rfl, rfl, rfl, rfl, rfl, rfl, rfl, rfl⟩
instance has3 : Has3 := ⟨⟩
instance has4 : Has4 := ⟨rfl, rfl⟩
instance has5 : Has5 := ⟨rfl, rfl⟩
instance has6 : Has6 := ⟨rfl, rfl, rfl⟩
instance has7 : Has7 := ⟨rfl, rfl, rfl⟩
instance has8 : Has8 := ⟨rfl, rfl, rfl, rfl⟩
instance has9 : Has9 := ⟨rfl, rfl, rfl, rfl, rfl, rfl, rfl, rfl, rfl, rfl, rfl, rfl, rfl, rfl, rfl, rfl, rfl, rfl, rfl, rfl⟩
instance has10 : Has10 := ⟨⟩
instance has11 : Has11 := ⟨rfl, rfl, rfl, rfl, rfl, rfl, rfl, rfl, rfl, rfl, rfl⟩
instance has12 : Has12 := ⟨rfl, rfl, rfl, rfl, rfl, rfl, rfl, rfl, rfl, rfl⟩
instance has13 : Has13 := ⟨rfl, rfl, rfl, rfl, rfl, rfl, rfl, rfl, rfl, rfl, rfl, rfl, rfl, rfl, rfl, rfl, rfl, rfl, rfl, rfl, rfl, rfl, rfl⟩
theorem k_made_Light : chkFn Tryz.prog Tryz.f9 K.made_Light = true := by kernel_rfl
theorem k_made_Roll : chkFn Tryz.prog Tryz.f11 K.made_Roll = true := by kernel_rfl
theorem k_made_Dice_Mine : chkFn Tryz.prog Tryz.f12 K.made_Dice_Mine = true := by kernel_rfl
theorem k_made_Dice_Next : chkFn Tryz.prog Tryz.f15 K.made_Dice_Next = true := by kernel_rfl
theorem k_made_Dice_Of : chkFn Tryz.prog Tryz.f28 K.made_Dice_Of = true := by kernel_rfl
theorem k_ref23_Has : chkFn Tryz.prog Tryz.f24 K.ref23_Has = true := by kernel_rfl
theorem k_ref26_Possible : chkFn Tryz.prog Tryz.f73 K.ref26_Possible = true := by kernel_rfl
theorem k_made_Dice_One : chkFn Tryz.prog Tryz.f16 K.made_Dice_One = true := by kernel_rfl
theorem k_made_Dice_Some : chkFn Tryz.prog Tryz.f23 K.made_Dice_Some = true := by kernel_rfl
theorem k_ref26_Exchange : chkFn Tryz.prog Tryz.f21 K.ref26_Exchange = true := by kernel_rfl
theorem k_ref26_See : chkFn Tryz.prog Tryz.f69 K.ref26_See = true := by kernel_rfl
theorem k_ref26_Absent : chkFn Tryz.prog Tryz.f70 K.ref26_Absent = true := by kernel_rfl
theorem k_made_Mod : chkFn Tryz.prog Tryz.f17 K.made_Mod = true := by kernel_rfl
theorem k_ref25_Possible : chkFn Tryz.prog Tryz.f27 K.ref25_Possible = true := by kernel_rfl
theorem k_ref01_Check : chkFn Tryz.prog Tryz.f45 K.ref01_Check = true := by kernel_rfl
theorem k_ref23_Set : chkFn Tryz.prog Tryz.f105 K.ref23_Set = true := by kernel_rfl
theorem k_ref26_proper : chkFn Tryz.prog Tryz.f46 K.ref26_proper = true := by kernel_rfl
theorem k_ref26_Copy : chkFn Tryz.prog Tryz.f37 K.ref26_Copy = true := by kernel_rfl
theorem k_ref26_Valid : chkFn Tryz.prog Tryz.f53 K.ref26_Valid = true := by kernel_rfl
theorem k_ref26_CopyWorld : chkFn Tryz.prog Tryz.f54 K.ref26_CopyWorld = true := by kernel_rfl
theorem k_ref26_meet : chkFn Tryz.prog Tryz.f55 K.ref26_meet = true := by kernel_rfl
theorem k_ref25_Raise : chkFn Tryz.prog Tryz.f56 K.ref25_Raise = true := by kernel_rfl
theorem k_ref26_Tidy : chkFn Tryz.prog Tryz.f57 K.ref26_Tidy = true := by kernel_rfl
theorem k_ref26_borne : chkFn Tryz.prog Tryz.f109 K.ref26_borne = true := by kernel_rfl
theorem k_ref26_bearer : chkFn Tryz.prog Tryz.f91 K.ref26_bearer = true := by kernel_rfl
theorem k_ref25_See : chkFn Tryz.prog Tryz.f29 K.ref25_See = true := by kernel_rfl
theorem k_ref25_Absent : chkFn Tryz.prog Tryz.f30 K.ref25_Absent = true := by kernel_rfl
theorem k_lists_Where : chkFn Tryz.prog Tryz.f74 K.lists_Where = true := by kernel_rfl
theorem k_slices_ContainsFunc_int_int : chkFn Tryz.prog Tryz.f93 K.slices_ContainsFunc_int_int = true := by kernel_rfl
theorem k_slices_Contains_int_int : chkFn Tryz.prog Tryz.f95 K.slices_Contains_int_int = true := by kernel_rfl
theorem k_swaps_Possible : chkFn Tryz.prog Tryz.f38 K.swaps_Possible = true := by kernel_rfl
theorem k_ref01_Span : chkFn Tryz.prog Tryz.f90 K.ref01_Span = true := by kernel_rfl
theorem k_ref25_inTime : chkFn Tryz.prog Tryz.f58 K.ref25_inTime = true := by kernel_rfl
theorem k_ref25_never : chkFn Tryz.prog Tryz.f59 K.ref25_never = true := by kernel_rfl
theorem k_ref25_Close : chkFn Tryz.prog Tryz.f60 K.ref25_Close = true := by kernel_rfl
theorem k_ref26_Less : chkFn Tryz.prog Tryz.f100 K.ref26_Less = true := by kernel_rfl
theorem k_ref25_Valid : chkFn Tryz.prog Tryz.f101 K.ref25_Valid = true := by kernel_rfl
theorem k_ref25_Copy : chkFn Tryz.prog Tryz.f65 K.ref25_Copy = true := by kernel_rfl
theorem k_ref23_SameInts : chkFn Tryz.prog Tryz.f26 K.ref23_SameInts = true := by kernel_rfl
theorem k_ref25_Join : chkFn Tryz.prog Tryz.f102 K.ref25_Join = true := by kernel_rfl
theorem k_ref25_asked : chkFn Tryz.prog Tryz.f64 K.ref25_asked = true := by kernel_rfl
theorem k_ref25_close : chkFn Tryz.prog Tryz.f66 K.ref25_close = true := by kernel_rfl
theorem k_slices_IndexFunc_int_int : chkFn Tryz.prog Tryz.f125 K.slices_IndexFunc_int_int = true := by kernel_rfl
theorem k_slices_Index_int_int : chkFn Tryz.prog Tryz.f103 K.slices_Index_int_int = true := by kernel_rfl
theorem k_swaps_Possible_1 : chkFn Tryz.prog Tryz.f75 K.swaps_Possible_1 = true := by kernel_rfl
theorem k_slices_ContainsFunc_api_World_api_World : chkFn Tryz.prog Tryz.f76 K.slices_ContainsFunc_api_World_api_World = true := by kernel_rfl
theorem k_swaps_Possible_1_1 : chkFn Tryz.prog Tryz.f77 K.swaps_Possible_1_1 = true := by kernel_rfl
theorem k_lists_In : chkFn Tryz.prog Tryz.f41 K.lists_In = true := by kernel_rfl
theorem k_ref25_Plain : chkFn Tryz.prog Tryz.f111 K.ref25_Plain = true := by kernel_rfl
theorem k_ref25_lower : chkFn Tryz.prog Tryz.f106 K.ref25_lower = true := by kernel_rfl
theorem k_ref03_Time : chkFn Tryz.prog Tryz.f107 K.ref03_Time = true := by kernel_rfl
theorem k_slices_IndexFunc_api_World_api_World : chkFn Tryz.prog Tryz.f113 K.slices_IndexFunc_api_World_api_World = true := by kernel_rfl
theorem k_ref03_walked : chkFn Tryz.prog Tryz.f129 K.ref03_walked = true := by kernel_rfl
theorem k_ref03_ends : chkFn Tryz.prog Tryz.f139 K.ref03_ends = true := by kernel_rfl
theorem k_lists_Rising : chkFn Tryz.prog Tryz.f86 K.lists_Rising = true := by kernel_rfl
theorem k_ref26_Copy_v1 : chkFn Tryz.prog Tryz.f37 K.ref26_Copy_v1 = true := by kernel_rfl
theorem k_places_Possible : chkFn Tryz.prog Tryz.f92 K.places_Possible = true := by kernel_rfl
theorem k_places_Possible_1 : chkFn Tryz.prog Tryz.f124 K.places_Possible_1 = true := by kernel_rfl
theorem k_slices_Repeat_int_int : chkFn Tryz.prog Tryz.f121 K.slices_Repeat_int_int = true := by kernel_rfl
theorem k_plan_Valid : chkFn Tryz.prog Tryz.f40 K.plan_Valid = true := by kernel_rfl
theorem k_math_bits_Mul : chkFn Tryz.prog Tryz.f135 K.math_bits_Mul = true := by kernel_rfl
theorem k_plan_Check : chkFn Tryz.prog Tryz.f85 K.plan_Check = true := by kernel_rfl
theorem k_math_bits_Mul64 : chkFn Tryz.prog Tryz.f152 K.math_bits_Mul64 = true := by kernel_rfl
theorem k_plan_spanIn : chkFn Tryz.prog Tryz.f120 K.plan_spanIn = true := by kernel_rfl
theorem k_places_Start : chkFn Tryz.prog Tryz.f44 K.places_Start = true := by kernel_rfl
theorem k_places_Join : chkFn Tryz.prog Tryz.f99 K.places_Join = true := by kernel_rfl
theorem k_places_Valid : chkFn Tryz.prog Tryz.f84 K.places_Valid = true := by kernel_rfl
theorem k_places_See : chkFn Tryz.prog Tryz.f63 K.places_See = true := by kernel_rfl
theorem k_places_Absent : chkFn Tryz.prog Tryz.f68 K.places_Absent = true := by kernel_rfl
theorem k_places_Renew : chkFn Tryz.prog Tryz.f110 K.places_Renew = true := by kernel_rfl
theorem k_ref25_Same : chkFn Tryz.prog Tryz.f32 K.ref25_Same = true := by kernel_rfl
theorem k_places_nowhere : chkFn Tryz.prog Tryz.f87 K.places_nowhere = true := by kernel_rfl
theorem k_places_lowered : chkFn Tryz.prog Tryz.f88 K.places_lowered = true := by kernel_rfl
theorem k_places_all : chkFn Tryz.prog Tryz.f89 K.places_all = true := by kernel_rfl
theorem k_places_shaped : chkFn Tryz.prog Tryz.f119 K.places_shaped = true := by kernel_rfl
theorem k_slices_Equal_int_int : chkFn Tryz.prog Tryz.f80 K.slices_Equal_int_int = true := by kernel_rfl
theorem k_places_given : chkFn Tryz.prog Tryz.f104 K.places_given = true := by kernel_rfl
theorem k_slices_Clone_int_int : chkFn Tryz.prog Tryz.f43 K.slices_Clone_int_int = true := by kernel_rfl
theorem k_places_Absent_1 : chkFn Tryz.prog Tryz.f108 K.places_Absent_1 = true := by kernel_rfl
theorem k_ref25_Renew : chkFn Tryz.prog Tryz.f112 K.ref25_Renew = true := by kernel_rfl
theorem k_places_Raise : chkFn Tryz.prog Tryz.f51 K.places_Raise = true := by kernel_rfl
theorem k_places_arrivals : chkFn Tryz.prog Tryz.f122 K.places_arrivals = true := by kernel_rfl
theorem k_places_lowered_1 : chkFn Tryz.prog Tryz.f123 K.places_lowered_1 = true := by kernel_rfl
theorem k_places_shaped_1 : chkFn Tryz.prog Tryz.f134 K.places_shaped_1 = true := by kernel_rfl
theorem k_walk_Time : chkFn Tryz.prog Tryz.f136 K.walk_Time = true := by kernel_rfl
theorem k_walk_step : chkFn Tryz.prog Tryz.f153 K.walk_step = true := by kernel_rfl
theorem k_walk_with : chkFn Tryz.prog Tryz.f161 K.walk_with = true := by kernel_rfl
theorem k_walk_quick : chkFn Tryz.prog Tryz.f162 K.walk_quick = true := by kernel_rfl
theorem k_swaps_Valid : chkFn Tryz.prog Tryz.f39 K.swaps_Valid = true := by kernel_rfl
theorem k_slices_Sorted_int : chkFn Tryz.prog Tryz.f78 K.slices_Sorted_int = true := by kernel_rfl
theorem k_slices_Values_int_int : chkFn Tryz.prog Tryz.f79 K.slices_Values_int_int = true := by kernel_rfl
theorem k_swaps_tagged : chkFn Tryz.prog Tryz.f42 K.swaps_tagged = true := by kernel_rfl
theorem k_slices_Compare_int_int : chkFn Tryz.prog Tryz.f81 K.slices_Compare_int_int = true := by kernel_rfl
theorem k_slices_ContainsFunc_api_Whereabouts_api_Whereabouts : chkFn Tryz.prog Tryz.f82 K.slices_ContainsFunc_api_Whereabouts_api_Whereabouts = true := by kernel_rfl
theorem k_swaps_Valid_1 : chkFn Tryz.prog Tryz.f83 K.swaps_Valid_1 = true := by kernel_rfl
theorem k_slices_Values_int_int_1 : chkFn Tryz.prog Tryz.f116 K.slices_Values_int_int_1 = true := by kernel_rfl
theorem k_cmp_Compare_int : chkFn Tryz.prog Tryz.f117 K.cmp_Compare_int = true := by kernel_rfl
theorem k_slices_IndexFunc_api_Whereabouts_api_Whereabouts : chkFn Tryz.prog Tryz.f118 K.slices_IndexFunc_api_Whereabouts_api_Whereabouts = true := by kernel_rfl
theorem k_cmp_isNaN_int : chkFn Tryz.prog Tryz.f133 K.cmp_isNaN_int = true := by kernel_rfl
theorem k_law26_SwapsRaw : chkFn Tryz.prog Tryz.f7 K.law26_SwapsRaw = true := by kernel_rfl
theorem k_law26_awake : chkFn Tryz.prog Tryz.f10 K.law26_awake = true := by kernel_rfl
theorem k_swaps_Start : chkFn Tryz.prog Tryz.f13 K.swaps_Start = true := by kernel_rfl
theorem k_law26_same : chkFn Tryz.prog Tryz.f18 K.law26_same = true := by kernel_rfl
theorem k_law26_pair : chkFn Tryz.prog Tryz.f19 K.law26_pair = true := by kernel_rfl
theorem k_swaps_Exchange : chkFn Tryz.prog Tryz.f20 K.swaps_Exchange = true := by kernel_rfl
theorem k_swaps_See : chkFn Tryz.prog Tryz.f25 K.swaps_See = true := by kernel_rfl
theorem k_swaps_Absent : chkFn Tryz.prog Tryz.f31 K.swaps_Absent = true := by kernel_rfl
theorem k_law26_light : chkFn Tryz.prog Tryz.f33 K.law26_light = true := by kernel_rfl
theorem k_law26_agree : chkFn Tryz.prog Tryz.f34 K.law26_agree = true := by kernel_rfl
theorem k_ref26_Same : chkFn Tryz.prog Tryz.f47 K.ref26_Same = true := by kernel_rfl
theorem k_slices_Clone_api_World_api_World : chkFn Tryz.prog Tryz.f48 K.slices_Clone_api_World_api_World = true := by kernel_rfl
theorem k_swaps_meet : chkFn Tryz.prog Tryz.f49 K.swaps_meet = true := by kernel_rfl
theorem k_worlds_Copy : chkFn Tryz.prog Tryz.f50 K.worlds_Copy = true := by kernel_rfl
theorem k_worlds_Tidy : chkFn Tryz.prog Tryz.f52 K.worlds_Tidy = true := by kernel_rfl
theorem k_swaps_apply : chkFn Tryz.prog Tryz.f61 K.swaps_apply = true := by kernel_rfl
theorem k_swaps_See_1 : chkFn Tryz.prog Tryz.f62 K.swaps_See_1 = true := by kernel_rfl
theorem k_swaps_Absent_1 : chkFn Tryz.prog Tryz.f67 K.swaps_Absent_1 = true := by kernel_rfl
theorem k_swaps_Renew : chkFn Tryz.prog Tryz.f71 K.swaps_Renew = true := by kernel_rfl
theorem k_ref26_Renew : chkFn Tryz.prog Tryz.f72 K.ref26_Renew = true := by kernel_rfl
theorem k_swaps_meet_1 : chkFn Tryz.prog Tryz.f94 K.swaps_meet_1 = true := by kernel_rfl
theorem k_slices_SortedStableFunc_api_World : chkFn Tryz.prog Tryz.f96 K.slices_SortedStableFunc_api_World = true := by kernel_rfl
theorem k_slices_Values_api_World_api_World : chkFn Tryz.prog Tryz.f97 K.slices_Values_api_World_api_World = true := by kernel_rfl
theorem k_worlds_Tidy_1 : chkFn Tryz.prog Tryz.f98 K.worlds_Tidy_1 = true := by kernel_rfl
theorem k_slices_Collect_api_World : chkFn Tryz.prog Tryz.f126 K.slices_Collect_api_World = true := by kernel_rfl
theorem k_slices_SortStableFunc_api_World_api_World : chkFn Tryz.prog Tryz.f127 K.slices_SortStableFunc_api_World_api_World = true := by kernel_rfl
theorem k_slices_Values_api_World_api_World_1 : chkFn Tryz.prog Tryz.f128 K.slices_Values_api_World_api_World_1 = true := by kernel_rfl
theorem k_slices_stableCmpFunc_api_World : chkFn Tryz.prog Tryz.f138 K.slices_stableCmpFunc_api_World = true := by kernel_rfl
theorem k_slices_insertionSortCmpFunc_api_World : chkFn Tryz.prog Tryz.f154 K.slices_insertionSortCmpFunc_api_World = true := by kernel_rfl
theorem k_slices_symMergeCmpFunc_api_World : chkFn Tryz.prog Tryz.f155 K.slices_symMergeCmpFunc_api_World = true := by kernel_rfl
theorem k_slices_rotateCmpFunc_api_World : chkFn Tryz.prog Tryz.f163 K.slices_rotateCmpFunc_api_World = true := by kernel_rfl
theorem k_slices_swapRangeCmpFunc_api_World : chkFn Tryz.prog Tryz.f165 K.slices_swapRangeCmpFunc_api_World = true := by kernel_rfl
theorem k_worlds_Copy_v1 : chkFn Tryz.prog Tryz.f50 K.worlds_Copy_v1 = true := by kernel_rfl
theorem all_ok : AllOK Tryz.prog real tab :=
 ⟨trivial, ⟨⟨by kernel_rfl, chkFn_ok Tryz.func9 k_made_Light⟩, ⟨trivial, ⟨⟨by kernel_rfl, chkFn_ok Tryz.func11 k_made_Roll⟩, ⟨⟨by kernel_rfl, chkFn_ok Tryz.func12 k_made_Dice_Mine⟩, ⟨trivial, ⟨trivial, ⟨trivial, ⟨trivial, ⟨⟨by kernel_rfl, chkFn_ok Tryz.func15 k_made_Dice_Next⟩, ⟨⟨by kernel_rfl, chkFn_ok Tryz.func28 k_made_Dice_Of⟩, ⟨trivial, ⟨⟨by kernel_rfl, chkFn_ok Tryz.func24 k_ref23_Has⟩, ⟨⟨by kernel_rfl, chkFn_ok Tryz.func73 k_ref26_Possible⟩, ⟨trivial, ⟨⟨by kernel_rfl, chkFn_ok Tryz.func16 k_made_Dice_One⟩, ⟨⟨by kernel_rfl, chkFn_ok Tryz.func23 k_made_Dice_Some⟩, ⟨trivial, ⟨trivial, ⟨trivial, ⟨⟨by kernel_rfl, chkFn_ok Tryz.func21 k_ref26_Exchange⟩, ⟨⟨by kernel_rfl, chkFn_ok Tryz.func69 k_ref26_See⟩, ⟨⟨by kernel_rfl, chkFn_ok Tryz.func70 k_ref26_Absent⟩, ⟨⟨by kernel_rfl, chkFn_ok Tryz.func17 k_made_Mod⟩, ⟨trivial, ⟨trivial, ⟨trivial, ⟨⟨by kernel_rfl, chkFn_ok Tryz.func27 k_ref25_Possible⟩, ⟨⟨by kernel_rfl, chkFn_ok Tryz.func45 k_ref01_Check⟩, ⟨trivial, ⟨⟨by kernel_rfl, chkFn_ok Tryz.func105 k_ref23_Set⟩, ⟨trivial, ⟨trivial, ⟨trivial, ⟨trivial, ⟨⟨by kernel_rfl, chkFn_ok Tryz.func46 k_ref26_proper⟩, ⟨trivial, ⟨⟨by kernel_rfl, chkFn_ok Tryz.func37 k_ref26_Copy⟩, ⟨⟨by kernel_rfl, chkFn_ok Tryz.func53 k_ref26_Valid⟩, ⟨⟨by kernel_rfl, chkFn_ok Tryz.func54 k_ref26_CopyWorld⟩, ⟨⟨by kernel_rfl, chkFn_ok Tryz.func55 k_ref26_meet⟩, ⟨⟨by kernel_rfl, chkFn_ok Tryz.func56 k_ref25_Raise⟩, ⟨⟨by kernel_rfl, chkFn_ok Tryz.func57 k_ref26_Tidy⟩, ⟨⟨by kernel_rfl, chkFn_ok Tryz.func109 k_ref26_borne⟩, ⟨⟨by kernel_rfl, chkFn_ok Tryz.func91 k_ref26_bearer⟩, ⟨⟨by kernel_rfl, chkFn_ok Tryz.func29 k_ref25_See⟩, ⟨⟨by kernel_rfl, chkFn_ok Tryz.func30 k_ref25_Absent⟩, ⟨⟨by kernel_rfl, chkFn_ok Tryz.func74 k_lists_Where⟩, ⟨trivial, ⟨⟨by kernel_rfl, chkFn_ok Tryz.func93 k_slices_ContainsFunc_int_int⟩, ⟨trivial, ⟨⟨by kernel_rfl, chkFn_ok Tryz.func95 k_slices_Contains_int_int⟩, ⟨trivial, ⟨⟨by kernel_rfl, chkFn_ok Tryz.func38 k_swaps_Possible⟩, ⟨⟨by kernel_rfl, chkFn_ok Tryz.func90 k_ref01_Span⟩, ⟨trivial, ⟨⟨by kernel_rfl, chkFn_ok Tryz.func58 k_ref25_inTime⟩, ⟨⟨by kernel_rfl, chkFn_ok Tryz.func59 k_ref25_never⟩, ⟨⟨by kernel_rfl, chkFn_ok Tryz.func60 k_ref25_Close⟩, ⟨⟨by kernel_rfl, chkFn_ok Tryz.func100 k_ref26_Less⟩, ⟨⟨by kernel_rfl, chkFn_ok Tryz.func101 k_ref25_Valid⟩, ⟨⟨by kernel_rfl, chkFn_ok Tryz.func65 k_ref25_Copy⟩, ⟨⟨by kernel_rfl, chkFn_ok Tryz.func26 k_ref23_SameInts⟩, ⟨⟨by kernel_rfl, chkFn_ok Tryz.func102 k_ref25_Join⟩, ⟨⟨by kernel_rfl, chkFn_ok Tryz.func64 k_ref25_asked⟩, ⟨⟨by kernel_rfl, chkFn_ok Tryz.func66 k_ref25_close⟩, ⟨⟨by kernel_rfl, chkFn_ok Tryz.func125 k_slices_IndexFunc_int_int⟩, ⟨⟨by kernel_rfl, chkFn_ok Tryz.func103 k_slices_Index_int_int⟩, ⟨⟨by kernel_rfl, chkFn_ok Tryz.func75 k_swaps_Possible_1⟩, ⟨⟨by kernel_rfl, chkFn_ok Tryz.func76 k_slices_ContainsFunc_api_World_api_World⟩, ⟨⟨by kernel_rfl, chkFn_ok Tryz.func77 k_swaps_Possible_1_1⟩, ⟨⟨by kernel_rfl, chkFn_ok Tryz.func41 k_lists_In⟩, ⟨⟨by kernel_rfl, chkFn_ok Tryz.func111 k_ref25_Plain⟩, ⟨⟨by kernel_rfl, chkFn_ok Tryz.func106 k_ref25_lower⟩, ⟨⟨by kernel_rfl, chkFn_ok Tryz.func107 k_ref03_Time⟩, ⟨⟨by kernel_rfl, chkFn_ok Tryz.func113 k_slices_IndexFunc_api_World_api_World⟩, ⟨⟨by kernel_rfl, chkFn_ok Tryz.func129 k_ref03_walked⟩, ⟨⟨by kernel_rfl, chkFn_ok Tryz.func139 k_ref03_ends⟩, ⟨trivial, ⟨trivial, ⟨trivial, ⟨trivial, ⟨trivial, ⟨trivial, ⟨trivial, ⟨trivial, ⟨trivial, ⟨trivial, ⟨trivial, ⟨trivial, ⟨trivial, ⟨trivial, ⟨trivial, ⟨trivial, ⟨trivial, ⟨trivial, ⟨trivial, ⟨trivial, ⟨trivial, ⟨trivial, ⟨trivial, ⟨trivial, ⟨trivial, ⟨trivial, ⟨trivial, ⟨⟨by kernel_rfl, chkFn_ok Tryz.func86 k_lists_Rising⟩, ⟨trivial, ⟨trivial, ⟨trivial, ⟨trivial, ⟨trivial, ⟨trivial, ⟨trivial, ⟨trivial, ⟨trivial, ⟨trivial, ⟨trivial, ⟨trivial, ⟨trivial, ⟨trivial, ⟨⟨by kernel_rfl, chkFn_ok Tryz.func37 k_ref26_Copy_v1⟩, ⟨trivial, ⟨trivial, ⟨trivial, ⟨trivial, ⟨trivial, ⟨trivial, ⟨trivial, ⟨trivial, ⟨trivial, ⟨trivial, ⟨trivial, ⟨trivial, ⟨trivial, ⟨trivial, ⟨trivial, ⟨trivial, ⟨trivial, ⟨trivial, ⟨trivial, ⟨trivial, ⟨trivial, ⟨trivial, ⟨trivial, ⟨trivial, ⟨⟨by kernel_rfl, chkFn_ok Tryz.func92 k_places_Possible⟩, ⟨trivial, ⟨trivial, ⟨⟨by kernel_rfl, chkFn_ok Tryz.func124 k_places_Possible_1⟩, ⟨trivial, ⟨trivial, ⟨trivial, ⟨trivial, ⟨trivial, ⟨trivial, ⟨trivial, ⟨trivial, ⟨trivial, ⟨trivial, ⟨trivial, ⟨⟨by kernel_rfl, chkFn_ok Tryz.func121 k_slices_Repeat_int_int⟩, ⟨trivial, ⟨trivial, ⟨trivial, ⟨trivial, ⟨trivial, ⟨trivial, ⟨⟨by kernel_rfl, chkFn_ok Tryz.func40 k_plan_Valid⟩, ⟨trivial, ⟨trivial, ⟨⟨by kernel_rfl, chkFn_ok Tryz.func135 k_math_bits_Mul⟩, ⟨trivial, ⟨trivial, ⟨⟨by kernel_rfl, chkFn_ok Tryz.func85 k_plan_Check⟩, ⟨trivial, ⟨trivial, ⟨⟨by kernel_rfl, chkFn_ok Tryz.func152 k_math_bits_Mul64⟩, ⟨⟨by kernel_rfl, chkFn_ok Tryz.func120 k_plan_spanIn⟩, ⟨trivial, ⟨trivial, ⟨trivial, ⟨trivial, ⟨trivial, ⟨trivial, ⟨trivial, ⟨trivial, ⟨⟨by kernel_rfl, chkFn_ok Tryz.func44 k_places_Start⟩, ⟨trivial, ⟨trivial, ⟨⟨by kernel_rfl, chkFn_ok Tryz.func99 k_places_Join⟩, ⟨⟨by kernel_rfl, chkFn_ok Tryz.func84 k_places_Valid⟩, ⟨trivial, ⟨⟨by kernel_rfl, chkFn_ok Tryz.func63 k_places_See⟩, ⟨⟨by kernel_rfl, chkFn_ok Tryz.func68 k_places_Absent⟩, ⟨⟨by kernel_rfl, chkFn_ok Tryz.func110 k_places_Renew⟩, ⟨trivial, ⟨⟨by kernel_rfl, chkFn_ok Tryz.func32 k_ref25_Same⟩, ⟨trivial, ⟨⟨by kernel_rfl, chkFn_ok Tryz.func87 k_places_nowhere⟩, ⟨⟨by kernel_rfl, chkFn_ok Tryz.func88 k_places_lowered⟩, ⟨⟨by kernel_rfl, chkFn_ok Tryz.func89 k_places_all⟩, ⟨⟨by kernel_rfl, chkFn_ok Tryz.func119 k_places_shaped⟩, ⟨⟨by kernel_rfl, chkFn_ok Tryz.func80 k_slices_Equal_int_int⟩, ⟨⟨by kernel_rfl, chkFn_ok Tryz.func104 k_places_given⟩, ⟨⟨by kernel_rfl, chkFn_ok Tryz.func43 k_slices_Clone_int_int⟩, ⟨⟨by kernel_rfl, chkFn_ok Tryz.func108 k_places_Absent_1⟩, ⟨⟨by kernel_rfl, chkFn_ok Tryz.func112 k_ref25_Renew⟩, ⟨⟨by kernel_rfl, chkFn_ok Tryz.func51 k_places_Raise⟩, ⟨⟨by kernel_rfl, chkFn_ok Tryz.func122 k_places_arrivals⟩, ⟨⟨by kernel_rfl, chkFn_ok Tryz.func123 k_places_lowered_1⟩, ⟨⟨by kernel_rfl, chkFn_ok Tryz.func134 k_places_shaped_1⟩, ⟨⟨by kernel_rfl, chkFn_ok Tryz.func136 k_walk_Time⟩, ⟨⟨by kernel_rfl, chkFn_ok Tryz.func153 k_walk_step⟩, ⟨⟨by kernel_rfl, chkFn_ok Tryz.func161 k_walk_with⟩, ⟨⟨by kernel_rfl, chkFn_ok Tryz.func162 k_walk_quick⟩, ⟨trivial, ⟨trivial, ⟨trivial, ⟨trivial, ⟨trivial, ⟨trivial, ⟨trivial, ⟨trivial, ⟨trivial, ⟨trivial, ⟨trivial, ⟨trivial, ⟨trivial, ⟨trivial, ⟨trivial, ⟨trivial, ⟨trivial, ⟨trivial, ⟨trivial, ⟨trivial, ⟨trivial, ⟨trivial, ⟨trivial, ⟨trivial, ⟨trivial, ⟨trivial, ⟨trivial, ⟨trivial, ⟨trivial, ⟨trivial, ⟨trivial, ⟨trivial, ⟨trivial, ⟨trivial, ⟨trivial, ⟨trivial, ⟨trivial, ⟨trivial, ⟨trivial, ⟨trivial, ⟨trivial, ⟨trivial, ⟨⟨by kernel_rfl, chkFn_ok Tryz.func39 k_swaps_Valid⟩, ⟨trivial, ⟨trivial, ⟨⟨by kernel_rfl, chkFn_ok Tryz.func78 k_slices_Sorted_int⟩, ⟨⟨by kernel_rfl, chkFn_ok Tryz.func79 k_slices_Values_int_int⟩, ⟨⟨by kernel_rfl, chkFn_ok Tryz.func42 k_swaps_tagged⟩, ⟨⟨by kernel_rfl, chkFn_ok Tryz.func81 k_slices_Compare_int_int⟩, ⟨⟨by kernel_rfl, chkFn_ok Tryz.func82 k_slices_ContainsFunc_api_Whereabouts_api_Whereabouts⟩, ⟨⟨by kernel_rfl, chkFn_ok Tryz.func83 k_swaps_Valid_1⟩, ⟨trivial, ⟨⟨by kernel_rfl, chkFn_ok Tryz.func116 k_slices_Values_int_int_1⟩, ⟨⟨by kernel_rfl, chkFn_ok Tryz.func117 k_cmp_Compare_int⟩, ⟨⟨by kernel_rfl, chkFn_ok Tryz.func118 k_slices_IndexFunc_api_Whereabouts_api_Whereabouts⟩, ⟨⟨by kernel_rfl, chkFn_ok Tryz.func133 k_cmp_isNaN_int⟩, ⟨trivial, ⟨trivial, ⟨trivial, ⟨trivial, ⟨⟨by kernel_rfl, chkFn_ok Tryz.func7 k_law26_SwapsRaw⟩, ⟨trivial, ⟨⟨by kernel_rfl, chkFn_ok Tryz.func10 k_law26_awake⟩, ⟨⟨by kernel_rfl, chkFn_ok Tryz.func13 k_swaps_Start⟩, ⟨⟨by kernel_rfl, chkFn_ok Tryz.func18 k_law26_same⟩, ⟨⟨by kernel_rfl, chkFn_ok Tryz.func19 k_law26_pair⟩, ⟨⟨by kernel_rfl, chkFn_ok Tryz.func20 k_swaps_Exchange⟩, ⟨⟨by kernel_rfl, chkFn_ok Tryz.func25 k_swaps_See⟩, ⟨⟨by kernel_rfl, chkFn_ok Tryz.func31 k_swaps_Absent⟩, ⟨⟨by kernel_rfl, chkFn_ok Tryz.func33 k_law26_light⟩, ⟨⟨by kernel_rfl, chkFn_ok Tryz.func34 k_law26_agree⟩, ⟨⟨by kernel_rfl, chkFn_ok Tryz.func47 k_ref26_Same⟩, ⟨⟨by kernel_rfl, chkFn_ok Tryz.func48 k_slices_Clone_api_World_api_World⟩, ⟨⟨by kernel_rfl, chkFn_ok Tryz.func49 k_swaps_meet⟩, ⟨⟨by kernel_rfl, chkFn_ok Tryz.func50 k_worlds_Copy⟩, ⟨⟨by kernel_rfl, chkFn_ok Tryz.func52 k_worlds_Tidy⟩, ⟨⟨by kernel_rfl, chkFn_ok Tryz.func61 k_swaps_apply⟩, ⟨⟨by kernel_rfl, chkFn_ok Tryz.func62 k_swaps_See_1⟩, ⟨⟨by kernel_rfl, chkFn_ok Tryz.func67 k_swaps_Absent_1⟩, ⟨⟨by kernel_rfl, chkFn_ok Tryz.func71 k_swaps_Renew⟩, ⟨⟨by kernel_rfl, chkFn_ok Tryz.func72 k_ref26_Renew⟩, ⟨⟨by kernel_rfl, chkFn_ok Tryz.func94 k_swaps_meet_1⟩, ⟨⟨by kernel_rfl, chkFn_ok Tryz.func96 k_slices_SortedStableFunc_api_World⟩, ⟨⟨by kernel_rfl, chkFn_ok Tryz.func97 k_slices_Values_api_World_api_World⟩, ⟨⟨by kernel_rfl, chkFn_ok Tryz.func98 k_worlds_Tidy_1⟩, ⟨⟨by kernel_rfl, chkFn_ok Tryz.func126 k_slices_Collect_api_World⟩, ⟨⟨by kernel_rfl, chkFn_ok Tryz.func127 k_slices_SortStableFunc_api_World_api_World⟩, ⟨⟨by kernel_rfl, chkFn_ok Tryz.func128 k_slices_Values_api_World_api_World_1⟩, ⟨⟨by kernel_rfl, chkFn_ok Tryz.func138 k_slices_stableCmpFunc_api_World⟩, ⟨⟨by kernel_rfl, chkFn_ok Tryz.func154 k_slices_insertionSortCmpFunc_api_World⟩, ⟨⟨by kernel_rfl, chkFn_ok Tryz.func155 k_slices_symMergeCmpFunc_api_World⟩, ⟨⟨by kernel_rfl, chkFn_ok Tryz.func163 k_slices_rotateCmpFunc_api_World⟩, ⟨⟨by kernel_rfl, chkFn_ok Tryz.func165 k_slices_swapRangeCmpFunc_api_World⟩, ⟨⟨by kernel_rfl, chkFn_ok Tryz.func50 k_worlds_Copy_v1⟩, trivial⟩⟩⟩⟩⟩⟩⟩⟩⟩⟩⟩⟩⟩⟩⟩⟩⟩⟩⟩⟩⟩⟩⟩⟩⟩⟩⟩⟩⟩⟩⟩⟩⟩⟩⟩⟩⟩⟩⟩⟩⟩⟩⟩⟩⟩⟩⟩⟩⟩⟩⟩⟩⟩⟩⟩⟩⟩⟩⟩⟩⟩⟩⟩⟩⟩⟩⟩⟩⟩⟩⟩⟩⟩⟩⟩⟩⟩⟩⟩⟩⟩⟩⟩⟩⟩⟩⟩⟩⟩⟩⟩⟩⟩⟩⟩⟩⟩⟩⟩⟩⟩⟩⟩⟩⟩⟩⟩⟩⟩⟩⟩⟩⟩⟩⟩⟩⟩⟩⟩⟩⟩⟩⟩⟩⟩⟩⟩⟩⟩⟩⟩⟩⟩⟩⟩⟩⟩⟩⟩⟩⟩⟩⟩⟩⟩⟩⟩⟩⟩⟩⟩⟩⟩⟩⟩⟩⟩⟩⟩⟩⟩⟩⟩⟩⟩⟩⟩⟩⟩⟩⟩⟩⟩⟩⟩⟩⟩⟩⟩⟩⟩⟩⟩⟩⟩⟩⟩⟩⟩⟩⟩⟩⟩⟩⟩⟩⟩⟩⟩⟩⟩⟩⟩⟩⟩⟩⟩⟩⟩⟩⟩⟩⟩⟩⟩⟩⟩⟩⟩⟩⟩⟩⟩⟩⟩⟩⟩⟩⟩⟩⟩⟩⟩⟩⟩⟩⟩⟩⟩⟩⟩⟩⟩⟩⟩⟩⟩⟩⟩⟩⟩⟩⟩⟩⟩⟩⟩⟩⟩⟩⟩⟩⟩⟩⟩⟩⟩⟩⟩⟩⟩⟩⟩⟩⟩⟩⟩⟩⟩⟩⟩⟩⟩⟩⟩⟩⟩⟩⟩⟩⟩⟩⟩⟩⟩⟩⟩⟩⟩⟩⟩⟩⟩⟩⟩⟩⟩⟩⟩
def prims : List (Nat × List Nat) := [(260, [2, N.slices_Values_int_int_1]), (300, [3, N.slices_Values_api_World_api_World_1])]
def laysSort_ren : Go.Shelf.Ren := ⟨fun | 189 => 115 | 125 => 132 | 257 => 131 | 128 => 149 | 129 => 150 | 294 => 140 | 295 => 141 | 296 => 142 | 297 => 143 | 298 => 144 | 299 => 145 | 216 => 146 | 300 => 147 | 301 => 148 | 328 => 156 | 329 => 157 | 330 => 158 | 331 => 159 | 332 => 160 | 215 => 133 | 343 => 164 | n => n, fun | 28 => 22 | 3 => 3 | 46 => 141 | 0 => 0 | 51 => 158 | 53 => 160 | 4 => 4 | 183 => 151 | 182 => 150 | 131 => 155 | 5 => 5 | 9 => 9 | 218 => 167 | 222 => 171 | 228 => 177 | 229 => 147 | n => n, fun | n => n⟩
theorem laysSort : Go.Proofs.Lays.n189 Tryz.prog laysSort_ren := {
 mixed := by kernel_rfl,
 f125 := Tryz.func132.trans (congrArg some (by kernel_rfl)),
 f128 := Tryz.func149.trans (congrArg some (by kernel_rfl)),
 f129 := Tryz.func150.trans (congrArg some (by kernel_rfl)),
 f189 := Tryz.func115.trans (congrArg some (by kernel_rfl)),
 f215 := Tryz.func133.trans (congrArg some (by kernel_rfl)),
 f216 := Tryz.func146.trans (congrArg some (by kernel_rfl)),
 f257 := Tryz.func131.trans (congrArg some (by kernel_rfl)),
 f294 := Tryz.func140.trans (congrArg some (by kernel_rfl)),
 f295 := Tryz.func141.trans (congrArg some (by kernel_rfl)),
 f296 := Tryz.func142.trans (congrArg some (by kernel_rfl)),
 f297 := Tryz.func143.trans (congrArg some (by kernel_rfl)),
 f298 := Tryz.func144.trans (congrArg some (by kernel_rfl)),
 f299 := Tryz.func145.trans (congrArg some (by kernel_rfl)),
 f300 := Tryz.func147.trans (congrArg some (by kernel_rfl)),
 f301 := Tryz.func148.trans (congrArg some (by kernel_rfl)),
 f328 := Tryz.func156.trans (congrArg some (by kernel_rfl)),
 f329 := Tryz.func157.trans (congrArg some (by kernel_rfl)),
 f330 := Tryz.func158.trans (congrArg some (by kernel_rfl)),
 f331 := Tryz.func159.trans (congrArg some (by kernel_rfl)),
 f332 := Tryz.func160.trans (congrArg some (by kernel_rfl)),
 f343 := Tryz.func164.trans (congrArg some (by kernel_rfl)),
 t0 := Tryz.underlying0,
 a0 := Tryz.isAgg0,
 z0 := Tryz.sizeOf0,
 v0 := Tryz.zeroValue0,
 t3 := Tryz.underlying3,
 a3 := Tryz.isAgg3,
 z3 := Tryz.sizeOf3,
 v3 := Tryz.zeroValue3,
 t4 := Tryz.underlying4,
 a4 := Tryz.isAgg4,
 z4 := Tryz.sizeOf4,
 v4 := Tryz.zeroValue4,
 t5 := Tryz.underlying5,
 a5 := Tryz.isAgg5,
 z5 := Tryz.sizeOf5,
 v5 := Tryz.zeroValue5,
 t9 := Tryz.underlying9,
 a9 := Tryz.isAgg9,
 z9 := Tryz.sizeOf9,
 v9 := Tryz.zeroValue9,
 t28 := Tryz.underlying22,
 a28 := Tryz.isAgg22,
 z28 := Tryz.sizeOf22,
 v28 := Tryz.zeroValue22,
 t46 := Tryz.underlying141,
 a46 := Tryz.isAgg141,
 z46 := Tryz.sizeOf141,
 v46 := Tryz.zeroValue141,
 t51 := Tryz.underlying158,
 a51 := Tryz.isAgg158,
 z51 := Tryz.sizeOf158,
 v51 := Tryz.zeroValue158,
 t53 := Tryz.underlying160,
 a53 := Tryz.isAgg160,
 z53 := Tryz.sizeOf160,
 v53 := Tryz.zeroValue160,
 t131 := Tryz.underlying155,
 a131 := Tryz.isAgg155,
 z131 := Tryz.sizeOf155,
 v131 := Tryz.zeroValue155,
 t182 := Tryz.underlying150,
 a182 := Tryz.isAgg150,
 z182 := Tryz.sizeOf150,
 v182 := Tryz.zeroValue150,
 t183 := Tryz.underlying151,
 a183 := Tryz.isAgg151,
 z183 := Tryz.sizeOf151,
 v183 := Tryz.zeroValue151,
 t218 := Tryz.underlying167,
 a218 := Tryz.isAgg167,
 z218 := Tryz.sizeOf167,
 v218 := Tryz.zeroValue167,
 t222 := Tryz.underlying171,
 a222 := Tryz.isAgg171,
 z222 := Tryz.sizeOf171,
 v222 := Tryz.zeroValue171,
 t228 := Tryz.underlying177,
 a228 := Tryz.isAgg177,
 z228 := Tryz.sizeOf177,
 v228 := Tryz.zeroValue177,
 t229 := Tryz.underlying147,
 a229 := Tryz.isAgg147,
 z229 := Tryz.sizeOf147,
 v229 := Tryz.zeroValue147 }
def laysSorted_ren : Go.Shelf.Ren := ⟨fun | 6 => 78 | 8 => 114 | 9 => 115 | 11 => 130 | 13 => 132 | 12 => 131 | 23 => 149 | 24 => 150 | 14 => 140 | 15 => 141 | 16 => 142 | 17 => 143 | 18 => 144 | 19 => 145 | 20 => 146 | 21 => 147 | 22 => 148 | 25 => 156 | 26 => 157 | 27 => 158 | 28 => 159 | 29 => 160 | 30 => 133 | 31 => 164 | n => n, fun | 26 => 3 | 28 => 104 | 24 => 22 | 0 => 0 | 3 => 3 | 37 => 141 | 48 => 158 | 50 => 160 | 4 => 4 | 40 => 151 | 39 => 150 | 45 => 155 | 5 => 5 | 9 => 9 | 51 => 167 | 55 => 171 | 57 => 177 | 58 => 147 | 33 => 40 | n => n, fun | n => n⟩
theorem laysSorted : Go.Proofs.SlLaysZI.n6 Tryz.prog laysSorted_ren := {
 f6 := ⟨"slices.Sorted[int]", by kernel_rfl, Tryz.func78.trans (congrArg some (by kernel_rfl))⟩,
 f8 := ⟨"slices.Collect[int]", by kernel_rfl, Tryz.func114.trans (congrArg some (by kernel_rfl))⟩,
 f11 := ⟨"slices.AppendSeq[[]int,int]", by kernel_rfl, Tryz.func130.trans (congrArg some (by kernel_rfl))⟩,
 mixed := by kernel_rfl,
 t0 := Tryz.underlying0,
 a0 := Tryz.isAgg0,
 z0 := Tryz.sizeOf0,
 v0 := Tryz.zeroValue0,
 t24 := Tryz.underlying22,
 a24 := Tryz.isAgg22,
 z24 := Tryz.sizeOf22,
 v24 := Tryz.zeroValue22,
 t26 := Tryz.underlying3,
 a26 := Tryz.isAgg3,
 z26 := Tryz.sizeOf3,
 v26 := Tryz.zeroValue3,
 t28 := Tryz.underlying104,
 a28 := Tryz.isAgg104,
 z28 := Tryz.sizeOf104,
 v28 := Tryz.zeroValue104,
 i26 := by kernel_rfl }
section
open Go.RowKit Go.Shelf Go.Maps Go.Sort Go.Proofs
/- the iterator of slices.Values at this program -/
set_option maxRecDepth 100000 in
set_option maxHeartbeats 2000000 in
theorem vals1 (n l Bs : Nat) (hn : 1 ≤ n) (W0 : World) (b off len cap : Nat) (zs : List Int) (hlen : zs.length = len) (hreach : len * 8 ≤ 140737488351232) (hb : b < W0.heap.size) (J : List Int → World → Prop)
 (hJ : ∀ s W1, J s W1 → Below W0.heap.size W0 W1)
 (hY : ∀ pre x W1, J pre W1 → pre.length < zs.length → YieldAt Fence.wide (n - 1) Tryz.prog l #[encZ x] W1 fun e W' => e = .returned (.bool true) ∧ J (pre ++ [x]) W' ∧ KeepsWalks W1 W')
 (W : World) (hBs : W.cell? ⟨Bs, 0, none⟩ = some (.slice (some ⟨b, off, none⟩) len cap)) (hc : ∀ j, j < len → W0.cell? ⟨b, off + j, none⟩ = some (.int .i64 (zs[j]?.getD 0))) (h0 : J [] W) :
 CallsIn Fence.wide n Tryz.prog 116 #[.func (.yield l) #[] #[], .pointer (some ⟨Bs, 0, none⟩)] W fun e W' => (∃ v, e = .returned v) ∧ J zs W' := by
 have step : ∀ k, k < zs.length → zs.take k ++ [zs[k]?.getD 0] = zs.take (k + 1) := fun k hk => by
  rw [List.take_succ_eq_append_getElem hk]; simp [hk]
 refine callsIn_of_wp Tryz.func116 rfl trivial ?_ rfl
 simp only [Tryz.ntmps116, List.size_toArray, List.length_cons, List.length_nil, Nat.reduceAdd, Nat.reduceSub, Array.replicate_succ, Array.replicate_zero, List.push_toArray, List.append_toArray, List.nil_append, List.cons_append]
 gi_wp2
 gi_loopw [7] (fun i wr => ∃ k : Nat, k ≤ len ∧ i = .int .i64 k ∧ J (zs.take k) wr)
  (fun i _ => len - (intOf i).toNat)
 case atStart => exact ⟨0, Nat.zero_le _, rfl, h0⟩
 case round =>
  obtain ⟨k, hk, rfl, hJs⟩ := hrel
  by_cases hlt : k < len
  · have hcx : wr.cell? ⟨b, off + k, none⟩ = some (.int .i64 (zs[k]?.getD 0)) := ((hJ _ _ hJs).cell (p := ⟨b, off + k, none⟩) hb).trans (hc k hlt)
    have st := step k (by omega)
    generalize zs[k]?.getD 0 = x at hcx st
    obtain ⟨fn, tmps, assign, body, hy, hR⟩ := hY _ x wr hJs (by rw [List.length_take]; omega)
    clear step
    gi_wp2
    refine hR.mono ?_
    rintro e W3 ⟨rfl, hJ3, -⟩
    gi_wp2
    go_roundw
    case rel => exact ⟨k + 1, by omega, by simp, by rw [← st]; exact hJ3⟩
    case measure => simp [intOf]; omega
  · obtain rfl : k = len := by omega
    gi_wp2
    go_end0
    exact ⟨⟨_, rfl⟩, by rw [← hlen, List.take_length] at hJs; exact hJs⟩
set_option maxRecDepth 100000 in
set_option maxHeartbeats 1000000 in
theorem vals0 (n l Bs : Nat) (p : Option Addr) (cap : Nat) (J : List Int → World → Prop) (W : World) (hBs : W.cell? ⟨Bs, 0, none⟩ = some (.slice p 0 cap)) (h0 : J [] W) :
 CallsIn Fence.wide n Tryz.prog 116 #[.func (.yield l) #[] #[], .pointer (some ⟨Bs, 0, none⟩)] W fun e W' => (∃ v, e = .returned v) ∧ J [] W' := by
 refine callsIn_of_wp Tryz.func116 rfl trivial ?_ rfl
 simp only [Tryz.ntmps116, List.size_toArray, List.length_cons, List.length_nil, Nat.reduceAdd, Nat.reduceSub, Array.replicate_succ, Array.replicate_zero, List.push_toArray, List.append_toArray, List.nil_append, List.cons_append]
 gi_wp2
 gi_loopw [7] (fun i wr => i = .int .i64 0 ∧ J [] wr) (fun _ _ => 0)
 case atStart => exact ⟨rfl, h0⟩
 case round =>
  obtain ⟨rfl, hJs⟩ := hrel
  gi_wp2
  go_end0
  exact ⟨⟨_, rfl⟩, hJs⟩
theorem vals_ok : ValsOK Tryz.prog 116 := by
 intro n Bs sv zs w hn hreach hBs hcell hI l J W hW hJ hY h0
 have hc' := (hW.cell (p := ⟨Bs, 0, none⟩) hBs).trans hcell
 rcases hI with ⟨p, cap, rfl, rfl⟩ | ⟨b, off, cap, rfl, hb, hcs⟩
 · exact vals0 n l Bs p cap J W hc' h0
 · exact vals1 n l Bs hn w b off zs.length cap zs rfl hreach hb J hJ hY W hc' hcs h0
end
theorem prim_260 : ∀ j, Names.ρ 260 = some j → PrimOK Tryz.prog j [2, N.slices_Values_int_int_1] := fun j hj => by
 have e : (Names.ρ 260 : Option Nat) = some 78 := by kernel_rfl
 rw [e] at hj; cases hj; exact prim_sorted laysSorted laysSort (by kernel_rfl) (Go.Proofs.enters_of Tryz.func115 (by kernel_rfl) rfl) (by kernel_rfl) (Go.Proofs.enters_of Tryz.func116 (by kernel_rfl) rfl) vals_ok
def laysW_ren : Go.Shelf.Ren := ⟨fun | 8 => 126 | 11 => 137 | n => n, fun | 0 => 0 | 24 => 33 | 26 => 55 | 28 => 118 | 33 => 101 | n => n, fun n => n⟩
theorem laysW : Go.Proofs.LayW Tryz.prog laysW_ren := {
 mixed := by kernel_rfl,
 f8 := ⟨"slices.Collect[minecontrol/api.World]", by kernel_rfl, Tryz.func126.trans (congrArg some (by kernel_rfl))⟩,
 f11 := ⟨"slices.AppendSeq[[]minecontrol/api.World,minecontrol/api.World]", by kernel_rfl, Tryz.func137.trans (congrArg some (by kernel_rfl))⟩,
 t0 := Tryz.underlying0,
 a0 := Tryz.isAgg0,
 z0 := Tryz.sizeOf0,
 v0 := Tryz.zeroValue0,
 t24 := Tryz.underlying33,
 a24 := Tryz.isAgg33,
 z24 := Tryz.sizeOf33,
 v24 := Tryz.zeroValue33,
 t26 := ⟨_, Tryz.underlying55⟩,
 a26 := Tryz.isAgg55,
 z26 := Tryz.sizeOf55,
 v26 := Tryz.zeroValue55,
 t28 := Tryz.underlying118,
 a28 := Tryz.isAgg118,
 z28 := Tryz.sizeOf118,
 v28 := Tryz.zeroValue118,
 i26 := by kernel_rfl }
section
open Go.RowKit Go.Shelf Go.Maps Go.Sort Go.Proofs
/- the iterator of slices.Values of structures of two cells at this program -/
set_option maxRecDepth 100000 in
set_option maxHeartbeats 2000000 in
theorem valsW1 (n l Bs : Nat) (hn : 1 ≤ n) (W0 : World) (b off len cap : Nat) (zs : List (Value × Value)) (hlen : zs.length = len) (hone : ∀ x ∈ zs, x.1.oneCell' = true ∧ x.2.oneCell' = true) (hreach : len * 48 ≤ 140737488351232) (hb : b < W0.heap.size) (J : List (Value × Value) → World → Prop)
 (hJ : ∀ s W1, J s W1 → Below W0.heap.size W0 W1) (hA : ∀ s W1 o, J s W1 → J s (W1.alloc o))
 (hY : ∀ pre x W1, J pre W1 → pre.length < zs.length → x ∈ zs → YieldAt Fence.wide (n - 1) Tryz.prog l #[encW x] W1 fun e W' => e = .returned (.bool true) ∧ J (pre ++ [x]) W' ∧ KeepsWalks W1 W')
 (W : World) (hBs : W.cell? ⟨Bs, 0, none⟩ = some (.slice (some ⟨b, off, none⟩) len cap)) (hc : ∀ j p, zs[j]? = some p → W0.cell? ⟨b, off + j * 2, none⟩ = some p.1 ∧ W0.cell? ⟨b, off + j * 2 + 1, none⟩ = some p.2) (h0 : J [] W) :
 CallsIn Fence.wide n Tryz.prog 128 #[.func (.yield l) #[] #[], .pointer (some ⟨Bs, 0, none⟩)] W fun e W' => (∃ v, e = .returned v) ∧ J zs W' := by
 have step : ∀ k x, zs[k]? = some x → zs.take k ++ [x] = zs.take (k + 1) := fun k x hk => by
  rw [List.take_add_one, hk]; rfl
 refine callsIn_of_wp Tryz.func128 rfl trivial ?_ rfl
 simp only [Tryz.ntmps128, List.size_toArray, List.length_cons, List.length_nil, Nat.reduceAdd, Nat.reduceSub, Array.replicate_succ, Array.replicate_zero, List.push_toArray, List.append_toArray, List.nil_append, List.cons_append]
 gi_wp2
 gi_loopw [7] (fun i wr => ∃ k : Nat, k ≤ len ∧ i = .int .i64 k ∧ J (zs.take k) wr)
  (fun i _ => len - (intOf i).toNat)
 case atStart => exact ⟨0, Nat.zero_le _, rfl, h0⟩
 case round =>
  obtain ⟨k, hk, rfl, hJs⟩ := hrel
  by_cases hlt : k < len
  · obtain ⟨x, hx⟩ : ∃ x, zs[k]? = some x := ⟨_, List.getElem?_eq_getElem (by omega)⟩
    have hcx0 : wr.cell? ⟨b, off + k * 2, none⟩ = some x.1 := ((hJ _ _ hJs).cell (p := ⟨b, off + k * 2, none⟩) hb).trans (hc k x hx).1
    have hcx1 : wr.cell? ⟨b, off + k * 2 + 1, none⟩ = some x.2 := ((hJ _ _ hJs).cell (p := ⟨b, off + k * 2 + 1, none⟩) hb).trans (hc k x hx).2
    have hm : x ∈ zs := List.mem_of_getElem? hx
    have st := step k x hx
    obtain ⟨hx1, hx2⟩ := hone x hm
    have hst := store_two Tryz.prog wr x.1 x.2 (.slice none 0 0) (.slice none 0 0) 55 hx1 hx2
    have cA0 : (wr.alloc (.cells #[x.1, x.2] 55)).cell? ⟨wr.heap.size, 0, none⟩ = some x.1 := cell_two_new wr x.1 x.2 55 0 x.1 rfl
    have cA1 : (wr.alloc (.cells #[x.1, x.2] 55)).cell? ⟨wr.heap.size, 1, none⟩ = some x.2 := cell_two_new wr x.1 x.2 55 1 x.2 rfl
    obtain ⟨fn, tmps, assign, body, hy, hR⟩ := hY _ x _ (hA _ _ (.cells #[x.1, x.2] 55) hJs) (by rw [List.length_take]; omega) hm
    clear step hone hc
    gi_wp2
    refine hR.mono ?_
    rintro e W3 ⟨rfl, hJ3, -⟩
    gi_wp2
    go_roundw
    case rel => exact ⟨k + 1, by omega, by simp, by rw [← st]; exact hJ3⟩
    case measure => simp [intOf]; omega
  · obtain rfl : k = len := by omega
    gi_wp2
    go_end0
    exact ⟨⟨_, rfl⟩, by rw [← hlen, List.take_length] at hJs; exact hJs⟩
set_option maxRecDepth 100000 in
set_option maxHeartbeats 1000000 in
theorem valsW0 (n l Bs : Nat) (p : Option Addr) (cap : Nat) (J : List (Value × Value) → World → Prop) (W : World) (hBs : W.cell? ⟨Bs, 0, none⟩ = some (.slice p 0 cap)) (h0 : J [] W) :
 CallsIn Fence.wide n Tryz.prog 128 #[.func (.yield l) #[] #[], .pointer (some ⟨Bs, 0, none⟩)] W fun e W' => (∃ v, e = .returned v) ∧ J [] W' := by
 refine callsIn_of_wp Tryz.func128 rfl trivial ?_ rfl
 simp only [Tryz.ntmps128, List.size_toArray, List.length_cons, List.length_nil, Nat.reduceAdd, Nat.reduceSub, Array.replicate_succ, Array.replicate_zero, List.push_toArray, List.append_toArray, List.nil_append, List.cons_append]
 gi_wp2
 gi_loopw [7] (fun i wr => i = .int .i64 0 ∧ J [] wr) (fun _ _ => 0)
 case atStart => exact ⟨rfl, h0⟩
 case round =>
  obtain ⟨rfl, hJs⟩ := hrel
  gi_wp2
  go_end0
  exact ⟨⟨_, rfl⟩, hJs⟩
theorem valsW_ok : ValsWOK Tryz.prog 128 := by
 intro n Bs sv zs w hn hone hreach hBs hcell hI l J W hW hJ hA hY h0
 have hc' := (hW.cell (p := ⟨Bs, 0, none⟩) hBs).trans hcell
 rcases hI with ⟨p, cap, rfl, rfl⟩ | ⟨b, off, cap, rfl, hb, hcs⟩
 · exact valsW0 n l Bs p cap J W hc' h0
 · exact valsW1 n l Bs hn w b off zs.length cap zs rfl hone hreach hb J hJ hA hY W hc' hcs h0
end
theorem prim_300 : ∀ j, Names.ρ 300 = some j → PrimOK Tryz.prog j [3, N.slices_Values_api_World_api_World_1] := fun j hj => by
 have e : (Names.ρ 300 : Option Nat) = some 126 := by kernel_rfl
 rw [e] at hj; cases hj; exact prim_collect laysW (by kernel_rfl) (Go.Proofs.enters_of Tryz.func128 (by kernel_rfl) rfl) valsW_ok
theorem prims_ok : ∀ x ∈ prims, ∀ j, Names.ρ x.1 = some j → PrimOK Tryz.prog j x.2 := by
 intro x hx
 simp only [prims, List.mem_cons, List.not_mem_nil, or_false] at hx
 rcases hx with rfl | rfl
 · exact prim_260
 · exact prim_300
end Go.Proofs.YtgedjeljhicagaaGreat
