/- MADE BY PROGRAM (lib.py): the numbers that the functions have in this program, and the check of each one. -/
import Derived.Test.YtljlbkjecjloaaaGreatProg
import Derived.Test.YtljlbkjecjloaaaGreatZPPP
import Derived.KernelRfl
set_option linter.all false
set_option maxRecDepth 100000
namespace Go.Proofs.YtljlbkjecjloaaaGreat
open Go.Ev
def real : List (Option Nat) := [none, some 8, none, some 10, some 11, none, none, none, none, some 12, some 38, none, some 15, none, none, some 26, none, none, none, some 37, none, none, none, some 13, none, none, none, none, some 55, none, some 16, none, none, none, none, some 75, some 25, none, none, none, none, none, none, none, some 77, none, none, some 42, none, some 57, none, some 70, none, none, some 107, none, some 59, some 60, some 61, none, none, none, none, none, none, some 109, some 108, some 113, none, some 51, none, some 40, none, some 135, some 46, some 99, some 90, some 123, none, none, none, none, none, none, none, none, none, none, none, none, none, none, none, none, none, none, none, none, none, none, none, none, none, none, none, some 72, none, none, none, none, none, some 23, none, none, none, none, none, none, some 58, none, none, none, none, none, none, none, none, none, none, none, none, none, none, none, none, none, none, none, none, none, none, none, none, none, none, some 101, none, none, some 131, none, none, none, none, none, none, none, none, none, none, none, some 41, none, none, none, none, none, none, some 39, none, none, some 85, none, none, some 84, none, none, some 121, some 119, none, none, none, none, none, none, none, none, none, none, none, some 106, some 97, none, none, none, some 102, none, none, none, none, some 129, some 130, some 128, some 94, none, some 100, none, none, none, some 143, some 144, some 142, some 71, some 114, some 136, some 137, none, none, none, none, none, none, none, none, none, none, none, none, none, none, none, none, none, none, none, none, none, none, none, none, none, none, none, none, none, none, none, none, none, none, none, none, none, none, none, none, none, none, some 47, none, none, some 91, some 92, some 93, some 95, some 49, some 96, none, some 126, some 127, some 98, some 141, none, none, none, none, none, none, none, none, none, none, none, none, none, none, none, none, none, none, some 52, some 54, none, none, none, none, none, none, some 103, some 104, some 105, some 132, some 133, some 134, some 146, some 158, some 159, some 165, some 167, some 52, some 3, none, none, none, none, some 9, some 14, some 21, none, some 31, some 32, none, some 36, some 43, some 48, some 50, some 53, none, none, none, some 69, some 73, some 74, none, none]
def tab : List (Option Go.Ev.Fn) := [none, some K.made_Light, none, some K.made_Roll, some K.made_Dice_Mine, none, none, none, none, some K.made_Dice_Next, some K.made_Dice_Of, none, some K.ref23_Has, none, none, some K.made_Dice_One, none, none, none, some K.ref26_Start, none, none, none, some K.made_Mod, none, none, none, none, some K.ref01_Check, none, some K.ref23_Set, none, none, none, none, some K.ref26_proper, some K.ref25_Start, none, none, none, none, none, none, none, some K.ref26_bearer, none, none, some K.lists_Where, none, some K.slices_ContainsFunc_int_int, none, some K.slices_Contains_int_int, none, none, some K.ref01_Span, none, some K.ref25_inTime, some K.ref25_never, some K.ref25_Close, none, none, none, none, none, none, some K.ref25_close, some K.slices_IndexFunc_int_int, some K.slices_Index_int_int, none, some K.slices_ContainsFunc_api_World_api_World, none, some K.lists_In, none, some K.ref25_lower, some K.ref03_Time, some K.slices_IndexFunc_api_World_api_World, some K.ref03_walked, some K.ref03_ends, none, none, none, none, none, none, none, none, none, none, none, none, none, none, none, none, none, none, none, none, none, none, none, none, none, none, none, some K.lists_Rising, none, none, none, none, none, some K.area_Clear, none, none, none, none, none, none, some K.area_Clear_1, none, none, none, none, none, none, none, none, none, none, none, none, none, none, none, none, none, none, none, none, none, none, none, none, none, none, some K.places_Possible, none, none, some K.places_Possible_1, none, none, none, none, none, none, none, none, none, none, none, some K.slices_Repeat_int_int, none, none, none, none, none, none, some K.plan_Valid, none, none, some K.math_bits_Mul, none, none, some K.plan_Check, none, none, some K.math_bits_Mul64, some K.plan_spanIn, none, none, none, none, none, none, none, none, none, none, none, some K.places_Join, some K.places_Valid, none, none, none, some K.places_Renew, none, none, none, none, some K.places_lowered, some K.places_all, some K.places_shaped, some K.slices_Equal_int_int, none, some K.slices_Clone_int_int, none, none, none, some K.places_arrivals, some K.places_lowered_1, some K.places_shaped_1, some K.walk_Time, some K.walk_step, some K.walk_with, some K.walk_quick, none, none, none, none, none, none, none, none, none, none, none, none, none, none, none, none, none, none, none, none, none, none, none, none, none, none, none, none, none, none, none, none, none, none, none, none, none, none, none, none, none, none, some K.swaps_Valid, none, none, some K.slices_Sorted_int, some K.slices_Values_int_int, some K.swaps_tagged, some K.slices_Compare_int_int, some K.slices_ContainsFunc_api_Whereabouts_api_Whereabouts, some K.swaps_Valid_1, none, some K.slices_Values_int_int_1, some K.cmp_Compare_int, some K.slices_IndexFunc_api_Whereabouts_api_Whereabouts, some K.cmp_isNaN_int, none, none, none, none, none, none, none, none, none, none, none, none, none, none, none, none, none, none, some K.worlds_Copy, some K.worlds_Tidy, none, none, none, none, none, none, some K.slices_SortedStableFunc_api_World, some K.slices_Values_api_World_api_World, some K.worlds_Tidy_1, some K.slices_Collect_api_World, some K.slices_SortStableFunc_api_World_api_World, some K.slices_Values_api_World_api_World_1, some K.slices_stableCmpFunc_api_World, some K.slices_insertionSortCmpFunc_api_World, some K.slices_symMergeCmpFunc_api_World, some K.slices_rotateCmpFunc_api_World, some K.slices_swapRangeCmpFunc_api_World, some K.worlds_Copy_v1, some K.law32_AreaOf, none, none, none, none, some K.law32_awake, some K.area_Of, some K.area_Seal, none, some K.area_Border, some K.area_Barred, none, some K.law32_row, some K.area_Of_1, some K.area_Seal_1, some K.area_Seal_1_1, some K.area_seal, none, none, none, some K.area_Border_1, some K.slices_Clone_api_Place_api_Place, some K.slices_Clone_api_Road_api_Road, none, none]
instance names : Names := ⟨fun f => (real[f]?).join⟩
instance lib : Lib := ⟨fun f => (tab[f]?).join⟩
instance has1 : Has1 := ⟨rfl, rfl, rfl, rfl, rfl, rfl, rfl, rfl, rfl, rfl, rfl, rfl, rfl⟩
instance has2 : Has2 := ⟨rfl, rfl, rfl, rfl, rfl, rfl, rfl, rfl, rfl, rfl, rfl, rfl, rfl, rfl, rfl, rfl, rfl, rfl⟩
instance has3 : Has3 := ⟨⟩
instance has4 : Has4 := ⟨rfl, rfl, rfl⟩
instance has5 : Has5 := ⟨rfl, rfl⟩
instance has6 : Has6 := ⟨rfl, rfl, rfl⟩
instance has7 : Has7 := ⟨rfl, rfl, rfl⟩
instance has8 : Has8 := ⟨rfl, rfl⟩
instance has9 : Has9 := ⟨rfl, rfl, rfl, rfl, rfl, rfl, rfl, rfl, rfl, rfl, rfl, rfl, rfl⟩
instance has11 : Has11 := ⟨rfl, rfl, rfl, rfl, rfl, rfl, rfl, rfl, rfl, rfl, rfl⟩
instance has13 : Has13 := ⟨rfl, rfl, rfl, rfl, rfl, rfl, rfl, rfl, rfl, rfl, rfl, rfl, rfl, rfl⟩
instance has14 : Has14 := ⟨rfl, rfl, rfl, rfl, rfl, rfl, rfl, rfl, rfl, rfl, rfl⟩
instance has15 : Has15 := ⟨rfl, rfl, rfl⟩
theorem k_made_Light : chkFn Tryz.prog Tryz.f8 K.made_Light = true := by kernel_rfl
theorem k_made_Roll : chkFn Tryz.prog Tryz.f10 K.made_Roll = true := by kernel_rfl
theorem k_made_Dice_Mine : chkFn Tryz.prog Tryz.f11 K.made_Dice_Mine = true := by kernel_rfl
theorem k_made_Dice_Next : chkFn Tryz.prog Tryz.f12 K.made_Dice_Next = true := by kernel_rfl
theorem k_made_Dice_Of : chkFn Tryz.prog Tryz.f38 K.made_Dice_Of = true := by kernel_rfl
theorem k_ref23_Has : chkFn Tryz.prog Tryz.f15 K.ref23_Has = true := by kernel_rfl
theorem k_made_Dice_One : chkFn Tryz.prog Tryz.f26 K.made_Dice_One = true := by kernel_rfl
theorem k_ref26_Start : chkFn Tryz.prog Tryz.f37 K.ref26_Start = true := by kernel_rfl
theorem k_made_Mod : chkFn Tryz.prog Tryz.f13 K.made_Mod = true := by kernel_rfl
theorem k_ref01_Check : chkFn Tryz.prog Tryz.f55 K.ref01_Check = true := by kernel_rfl
theorem k_ref23_Set : chkFn Tryz.prog Tryz.f16 K.ref23_Set = true := by kernel_rfl
theorem k_ref26_proper : chkFn Tryz.prog Tryz.f75 K.ref26_proper = true := by kernel_rfl
theorem k_ref25_Start : chkFn Tryz.prog Tryz.f25 K.ref25_Start = true := by kernel_rfl
theorem k_ref26_bearer : chkFn Tryz.prog Tryz.f77 K.ref26_bearer = true := by kernel_rfl
theorem k_lists_Where : chkFn Tryz.prog Tryz.f42 K.lists_Where = true := by kernel_rfl
theorem k_slices_ContainsFunc_int_int : chkFn Tryz.prog Tryz.f57 K.slices_ContainsFunc_int_int = true := by kernel_rfl
theorem k_slices_Contains_int_int : chkFn Tryz.prog Tryz.f70 K.slices_Contains_int_int = true := by kernel_rfl
theorem k_ref01_Span : chkFn Tryz.prog Tryz.f107 K.ref01_Span = true := by kernel_rfl
theorem k_ref25_inTime : chkFn Tryz.prog Tryz.f59 K.ref25_inTime = true := by kernel_rfl
theorem k_ref25_never : chkFn Tryz.prog Tryz.f60 K.ref25_never = true := by kernel_rfl
theorem k_ref25_Close : chkFn Tryz.prog Tryz.f61 K.ref25_Close = true := by kernel_rfl
theorem k_ref25_close : chkFn Tryz.prog Tryz.f109 K.ref25_close = true := by kernel_rfl
theorem k_slices_IndexFunc_int_int : chkFn Tryz.prog Tryz.f108 K.slices_IndexFunc_int_int = true := by kernel_rfl
theorem k_slices_Index_int_int : chkFn Tryz.prog Tryz.f113 K.slices_Index_int_int = true := by kernel_rfl
theorem k_slices_ContainsFunc_api_World_api_World : chkFn Tryz.prog Tryz.f51 K.slices_ContainsFunc_api_World_api_World = true := by kernel_rfl
theorem k_lists_In : chkFn Tryz.prog Tryz.f40 K.lists_In = true := by kernel_rfl
theorem k_ref25_lower : chkFn Tryz.prog Tryz.f135 K.ref25_lower = true := by kernel_rfl
theorem k_ref03_Time : chkFn Tryz.prog Tryz.f46 K.ref03_Time = true := by kernel_rfl
theorem k_slices_IndexFunc_api_World_api_World : chkFn Tryz.prog Tryz.f99 K.slices_IndexFunc_api_World_api_World = true := by kernel_rfl
theorem k_ref03_walked : chkFn Tryz.prog Tryz.f90 K.ref03_walked = true := by kernel_rfl
theorem k_ref03_ends : chkFn Tryz.prog Tryz.f123 K.ref03_ends = true := by kernel_rfl
theorem k_lists_Rising : chkFn Tryz.prog Tryz.f72 K.lists_Rising = true := by kernel_rfl
theorem k_area_Clear : chkFn Tryz.prog Tryz.f23 K.area_Clear = true := by kernel_rfl
theorem k_area_Clear_1 : chkFn Tryz.prog Tryz.f58 K.area_Clear_1 = true := by kernel_rfl
theorem k_places_Possible : chkFn Tryz.prog Tryz.f101 K.places_Possible = true := by kernel_rfl
theorem k_places_Possible_1 : chkFn Tryz.prog Tryz.f131 K.places_Possible_1 = true := by kernel_rfl
theorem k_slices_Repeat_int_int : chkFn Tryz.prog Tryz.f41 K.slices_Repeat_int_int = true := by kernel_rfl
theorem k_plan_Valid : chkFn Tryz.prog Tryz.f39 K.plan_Valid = true := by kernel_rfl
theorem k_math_bits_Mul : chkFn Tryz.prog Tryz.f85 K.math_bits_Mul = true := by kernel_rfl
theorem k_plan_Check : chkFn Tryz.prog Tryz.f84 K.plan_Check = true := by kernel_rfl
theorem k_math_bits_Mul64 : chkFn Tryz.prog Tryz.f121 K.math_bits_Mul64 = true := by kernel_rfl
theorem k_plan_spanIn : chkFn Tryz.prog Tryz.f119 K.plan_spanIn = true := by kernel_rfl
theorem k_places_Join : chkFn Tryz.prog Tryz.f106 K.places_Join = true := by kernel_rfl
theorem k_places_Valid : chkFn Tryz.prog Tryz.f97 K.places_Valid = true := by kernel_rfl
theorem k_places_Renew : chkFn Tryz.prog Tryz.f102 K.places_Renew = true := by kernel_rfl
theorem k_places_lowered : chkFn Tryz.prog Tryz.f129 K.places_lowered = true := by kernel_rfl
theorem k_places_all : chkFn Tryz.prog Tryz.f130 K.places_all = true := by kernel_rfl
theorem k_places_shaped : chkFn Tryz.prog Tryz.f128 K.places_shaped = true := by kernel_rfl
theorem k_slices_Equal_int_int : chkFn Tryz.prog Tryz.f94 K.slices_Equal_int_int = true := by kernel_rfl
theorem k_slices_Clone_int_int : chkFn Tryz.prog Tryz.f100 K.slices_Clone_int_int = true := by kernel_rfl
theorem k_places_arrivals : chkFn Tryz.prog Tryz.f143 K.places_arrivals = true := by kernel_rfl
theorem k_places_lowered_1 : chkFn Tryz.prog Tryz.f144 K.places_lowered_1 = true := by kernel_rfl
theorem k_places_shaped_1 : chkFn Tryz.prog Tryz.f142 K.places_shaped_1 = true := by kernel_rfl
theorem k_walk_Time : chkFn Tryz.prog Tryz.f71 K.walk_Time = true := by kernel_rfl
theorem k_walk_step : chkFn Tryz.prog Tryz.f114 K.walk_step = true := by kernel_rfl
theorem k_walk_with : chkFn Tryz.prog Tryz.f136 K.walk_with = true := by kernel_rfl
theorem k_walk_quick : chkFn Tryz.prog Tryz.f137 K.walk_quick = true := by kernel_rfl
theorem k_swaps_Valid : chkFn Tryz.prog Tryz.f47 K.swaps_Valid = true := by kernel_rfl
theorem k_slices_Sorted_int : chkFn Tryz.prog Tryz.f91 K.slices_Sorted_int = true := by kernel_rfl
theorem k_slices_Values_int_int : chkFn Tryz.prog Tryz.f92 K.slices_Values_int_int = true := by kernel_rfl
theorem k_swaps_tagged : chkFn Tryz.prog Tryz.f93 K.swaps_tagged = true := by kernel_rfl
theorem k_slices_Compare_int_int : chkFn Tryz.prog Tryz.f95 K.slices_Compare_int_int = true := by kernel_rfl
theorem k_slices_ContainsFunc_api_Whereabouts_api_Whereabouts : chkFn Tryz.prog Tryz.f49 K.slices_ContainsFunc_api_Whereabouts_api_Whereabouts = true := by kernel_rfl
theorem k_swaps_Valid_1 : chkFn Tryz.prog Tryz.f96 K.swaps_Valid_1 = true := by kernel_rfl
theorem k_slices_Values_int_int_1 : chkFn Tryz.prog Tryz.f126 K.slices_Values_int_int_1 = true := by kernel_rfl
theorem k_cmp_Compare_int : chkFn Tryz.prog Tryz.f127 K.cmp_Compare_int = true := by kernel_rfl
theorem k_slices_IndexFunc_api_Whereabouts_api_Whereabouts : chkFn Tryz.prog Tryz.f98 K.slices_IndexFunc_api_Whereabouts_api_Whereabouts = true := by kernel_rfl
theorem k_cmp_isNaN_int : chkFn Tryz.prog Tryz.f141 K.cmp_isNaN_int = true := by kernel_rfl
theorem k_worlds_Copy : chkFn Tryz.prog Tryz.f52 K.worlds_Copy = true := by kernel_rfl
theorem k_worlds_Tidy : chkFn Tryz.prog Tryz.f54 K.worlds_Tidy = true := by kernel_rfl
theorem k_slices_SortedStableFunc_api_World : chkFn Tryz.prog Tryz.f103 K.slices_SortedStableFunc_api_World = true := by kernel_rfl
theorem k_slices_Values_api_World_api_World : chkFn Tryz.prog Tryz.f104 K.slices_Values_api_World_api_World = true := by kernel_rfl
theorem k_worlds_Tidy_1 : chkFn Tryz.prog Tryz.f105 K.worlds_Tidy_1 = true := by kernel_rfl
theorem k_slices_Collect_api_World : chkFn Tryz.prog Tryz.f132 K.slices_Collect_api_World = true := by kernel_rfl
theorem k_slices_SortStableFunc_api_World_api_World : chkFn Tryz.prog Tryz.f133 K.slices_SortStableFunc_api_World_api_World = true := by kernel_rfl
theorem k_slices_Values_api_World_api_World_1 : chkFn Tryz.prog Tryz.f134 K.slices_Values_api_World_api_World_1 = true := by kernel_rfl
theorem k_slices_stableCmpFunc_api_World : chkFn Tryz.prog Tryz.f146 K.slices_stableCmpFunc_api_World = true := by kernel_rfl
theorem k_slices_insertionSortCmpFunc_api_World : chkFn Tryz.prog Tryz.f158 K.slices_insertionSortCmpFunc_api_World = true := by kernel_rfl
theorem k_slices_symMergeCmpFunc_api_World : chkFn Tryz.prog Tryz.f159 K.slices_symMergeCmpFunc_api_World = true := by kernel_rfl
theorem k_slices_rotateCmpFunc_api_World : chkFn Tryz.prog Tryz.f165 K.slices_rotateCmpFunc_api_World = true := by kernel_rfl
theorem k_slices_swapRangeCmpFunc_api_World : chkFn Tryz.prog Tryz.f167 K.slices_swapRangeCmpFunc_api_World = true := by kernel_rfl
theorem k_worlds_Copy_v1 : chkFn Tryz.prog Tryz.f52 K.worlds_Copy_v1 = true := by kernel_rfl
theorem k_law32_AreaOf : chkFn Tryz.prog Tryz.f3 K.law32_AreaOf = true := by kernel_rfl
theorem k_law32_awake : chkFn Tryz.prog Tryz.f9 K.law32_awake = true := by kernel_rfl
theorem k_area_Of : chkFn Tryz.prog Tryz.f14 K.area_Of = true := by kernel_rfl
theorem k_area_Seal : chkFn Tryz.prog Tryz.f21 K.area_Seal = true := by kernel_rfl
theorem k_area_Border : chkFn Tryz.prog Tryz.f31 K.area_Border = true := by kernel_rfl
theorem k_area_Barred : chkFn Tryz.prog Tryz.f32 K.area_Barred = true := by kernel_rfl
theorem k_law32_row : chkFn Tryz.prog Tryz.f36 K.law32_row = true := by kernel_rfl
theorem k_area_Of_1 : chkFn Tryz.prog Tryz.f43 K.area_Of_1 = true := by kernel_rfl
theorem k_area_Seal_1 : chkFn Tryz.prog Tryz.f48 K.area_Seal_1 = true := by kernel_rfl
theorem k_area_Seal_1_1 : chkFn Tryz.prog Tryz.f50 K.area_Seal_1_1 = true := by kernel_rfl
theorem k_area_seal : chkFn Tryz.prog Tryz.f53 K.area_seal = true := by kernel_rfl
theorem k_area_Border_1 : chkFn Tryz.prog Tryz.f69 K.area_Border_1 = true := by kernel_rfl
theorem k_slices_Clone_api_Place_api_Place : chkFn Tryz.prog Tryz.f73 K.slices_Clone_api_Place_api_Place = true := by kernel_rfl
theorem k_slices_Clone_api_Road_api_Road : chkFn Tryz.prog Tryz.f74 K.slices_Clone_api_Road_api_Road = true := by kernel_rfl
theorem all_ok : AllOK Tryz.prog real tab :=
  ⟨trivial, ⟨⟨by kernel_rfl, chkFn_ok Tryz.func8 k_made_Light⟩, ⟨trivial, ⟨⟨by kernel_rfl, chkFn_ok Tryz.func10 k_made_Roll⟩, ⟨⟨by kernel_rfl, chkFn_ok Tryz.func11 k_made_Dice_Mine⟩, ⟨trivial, ⟨trivial, ⟨trivial, ⟨trivial, ⟨⟨by kernel_rfl, chkFn_ok Tryz.func12 k_made_Dice_Next⟩, ⟨⟨by kernel_rfl, chkFn_ok Tryz.func38 k_made_Dice_Of⟩, ⟨trivial, ⟨⟨by kernel_rfl, chkFn_ok Tryz.func15 k_ref23_Has⟩, ⟨trivial, ⟨trivial, ⟨⟨by kernel_rfl, chkFn_ok Tryz.func26 k_made_Dice_One⟩, ⟨trivial, ⟨trivial, ⟨trivial, ⟨⟨by kernel_rfl, chkFn_ok Tryz.func37 k_ref26_Start⟩, ⟨trivial, ⟨trivial, ⟨trivial, ⟨⟨by kernel_rfl, chkFn_ok Tryz.func13 k_made_Mod⟩, ⟨trivial, ⟨trivial, ⟨trivial, ⟨trivial, ⟨⟨by kernel_rfl, chkFn_ok Tryz.func55 k_ref01_Check⟩, ⟨trivial, ⟨⟨by kernel_rfl, chkFn_ok Tryz.func16 k_ref23_Set⟩, ⟨trivial, ⟨trivial, ⟨trivial, ⟨trivial, ⟨⟨by kernel_rfl, chkFn_ok Tryz.func75 k_ref26_proper⟩, ⟨⟨by kernel_rfl, chkFn_ok Tryz.func25 k_ref25_Start⟩, ⟨trivial, ⟨trivial, ⟨trivial, ⟨trivial, ⟨trivial, ⟨trivial, ⟨trivial, ⟨⟨by kernel_rfl, chkFn_ok Tryz.func77 k_ref26_bearer⟩, ⟨trivial, ⟨trivial, ⟨⟨by kernel_rfl, chkFn_ok Tryz.func42 k_lists_Where⟩, ⟨trivial, ⟨⟨by kernel_rfl, chkFn_ok Tryz.func57 k_slices_ContainsFunc_int_int⟩, ⟨trivial, ⟨⟨by kernel_rfl, chkFn_ok Tryz.func70 k_slices_Contains_int_int⟩, ⟨trivial, ⟨trivial, ⟨⟨by kernel_rfl, chkFn_ok Tryz.func107 k_ref01_Span⟩, ⟨trivial, ⟨⟨by kernel_rfl, chkFn_ok Tryz.func59 k_ref25_inTime⟩, ⟨⟨by kernel_rfl, chkFn_ok Tryz.func60 k_ref25_never⟩, ⟨⟨by kernel_rfl, chkFn_ok Tryz.func61 k_ref25_Close⟩, ⟨trivial, ⟨trivial, ⟨trivial, ⟨trivial, ⟨trivial, ⟨trivial, ⟨⟨by kernel_rfl, chkFn_ok Tryz.func109 k_ref25_close⟩, ⟨⟨by kernel_rfl, chkFn_ok Tryz.func108 k_slices_IndexFunc_int_int⟩, ⟨⟨by kernel_rfl, chkFn_ok Tryz.func113 k_slices_Index_int_int⟩, ⟨trivial, ⟨⟨by kernel_rfl, chkFn_ok Tryz.func51 k_slices_ContainsFunc_api_World_api_World⟩, ⟨trivial, ⟨⟨by kernel_rfl, chkFn_ok Tryz.func40 k_lists_In⟩, ⟨trivial, ⟨⟨by kernel_rfl, chkFn_ok Tryz.func135 k_ref25_lower⟩, ⟨⟨by kernel_rfl, chkFn_ok Tryz.func46 k_ref03_Time⟩, ⟨⟨by kernel_rfl, chkFn_ok Tryz.func99 k_slices_IndexFunc_api_World_api_World⟩, ⟨⟨by kernel_rfl, chkFn_ok Tryz.func90 k_ref03_walked⟩, ⟨⟨by kernel_rfl, chkFn_ok Tryz.func123 k_ref03_ends⟩, ⟨trivial, ⟨trivial, ⟨trivial, ⟨trivial, ⟨trivial, ⟨trivial, ⟨trivial, ⟨trivial, ⟨trivial, ⟨trivial, ⟨trivial, ⟨trivial, ⟨trivial, ⟨trivial, ⟨trivial, ⟨trivial, ⟨trivial, ⟨trivial, ⟨trivial, ⟨trivial, ⟨trivial, ⟨trivial, ⟨trivial, ⟨trivial, ⟨trivial, ⟨trivial, ⟨trivial, ⟨⟨by kernel_rfl, chkFn_ok Tryz.func72 k_lists_Rising⟩, ⟨trivial, ⟨trivial, ⟨trivial, ⟨trivial, ⟨trivial, ⟨⟨by kernel_rfl, chkFn_ok Tryz.func23 k_area_Clear⟩, ⟨trivial, ⟨trivial, ⟨trivial, ⟨trivial, ⟨trivial, ⟨trivial, ⟨⟨by kernel_rfl, chkFn_ok Tryz.func58 k_area_Clear_1⟩, ⟨trivial, ⟨trivial, ⟨trivial, ⟨trivial, ⟨trivial, ⟨trivial, ⟨trivial, ⟨trivial, ⟨trivial, ⟨trivial, ⟨trivial, ⟨trivial, ⟨trivial, ⟨trivial, ⟨trivial, ⟨trivial, ⟨trivial, ⟨trivial, ⟨trivial, ⟨trivial, ⟨trivial, ⟨trivial, ⟨trivial, ⟨trivial, ⟨trivial, ⟨trivial, ⟨⟨by kernel_rfl, chkFn_ok Tryz.func101 k_places_Possible⟩, ⟨trivial, ⟨trivial, ⟨⟨by kernel_rfl, chkFn_ok Tryz.func131 k_places_Possible_1⟩, ⟨trivial, ⟨trivial, ⟨trivial, ⟨trivial, ⟨trivial, ⟨trivial, ⟨trivial, ⟨trivial, ⟨trivial, ⟨trivial, ⟨trivial, ⟨⟨by kernel_rfl, chkFn_ok Tryz.func41 k_slices_Repeat_int_int⟩, ⟨trivial, ⟨trivial, ⟨trivial, ⟨trivial, ⟨trivial, ⟨trivial, ⟨⟨by kernel_rfl, chkFn_ok Tryz.func39 k_plan_Valid⟩, ⟨trivial, ⟨trivial, ⟨⟨by kernel_rfl, chkFn_ok Tryz.func85 k_math_bits_Mul⟩, ⟨trivial, ⟨trivial, ⟨⟨by kernel_rfl, chkFn_ok Tryz.func84 k_plan_Check⟩, ⟨trivial, ⟨trivial, ⟨⟨by kernel_rfl, chkFn_ok Tryz.func121 k_math_bits_Mul64⟩, ⟨⟨by kernel_rfl, chkFn_ok Tryz.func119 k_plan_spanIn⟩, ⟨trivial, ⟨trivial, ⟨trivial, ⟨trivial, ⟨trivial, ⟨trivial, ⟨trivial, ⟨trivial, ⟨trivial, ⟨trivial, ⟨trivial, ⟨⟨by kernel_rfl, chkFn_ok Tryz.func106 k_places_Join⟩, ⟨⟨by kernel_rfl, chkFn_ok Tryz.func97 k_places_Valid⟩, ⟨trivial, ⟨trivial, ⟨trivial, ⟨⟨by kernel_rfl, chkFn_ok Tryz.func102 k_places_Renew⟩, ⟨trivial, ⟨trivial, ⟨trivial, ⟨trivial, ⟨⟨by kernel_rfl, chkFn_ok Tryz.func129 k_places_lowered⟩, ⟨⟨by kernel_rfl, chkFn_ok Tryz.func130 k_places_all⟩, ⟨⟨by kernel_rfl, chkFn_ok Tryz.func128 k_places_shaped⟩, ⟨⟨by kernel_rfl, chkFn_ok Tryz.func94 k_slices_Equal_int_int⟩, ⟨trivial, ⟨⟨by kernel_rfl, chkFn_ok Tryz.func100 k_slices_Clone_int_int⟩, ⟨trivial, ⟨trivial, ⟨trivial, ⟨⟨by kernel_rfl, chkFn_ok Tryz.func143 k_places_arrivals⟩, ⟨⟨by kernel_rfl, chkFn_ok Tryz.func144 k_places_lowered_1⟩, ⟨⟨by kernel_rfl, chkFn_ok Tryz.func142 k_places_shaped_1⟩, ⟨⟨by kernel_rfl, chkFn_ok Tryz.func71 k_walk_Time⟩, ⟨⟨by kernel_rfl, chkFn_ok Tryz.func114 k_walk_step⟩, ⟨⟨by kernel_rfl, chkFn_ok Tryz.func136 k_walk_with⟩, ⟨⟨by kernel_rfl, chkFn_ok Tryz.func137 k_walk_quick⟩, ⟨trivial, ⟨trivial, ⟨trivial, ⟨trivial, ⟨trivial, ⟨trivial, ⟨trivial, ⟨trivial, ⟨trivial, ⟨trivial, ⟨trivial, ⟨trivial, ⟨trivial, ⟨trivial, ⟨trivial, ⟨trivial, ⟨trivial, ⟨trivial, ⟨trivial, ⟨trivial, ⟨trivial, ⟨trivial, ⟨trivial, ⟨trivial, ⟨trivial, ⟨trivial, ⟨trivial, ⟨trivial, ⟨trivial, ⟨trivial, ⟨trivial, ⟨trivial, ⟨trivial, ⟨trivial, ⟨trivial, ⟨trivial, ⟨trivial, ⟨trivial, ⟨trivial, ⟨trivial, ⟨trivial, ⟨trivial, ⟨⟨by kernel_rfl, chkFn_ok Tryz.func47 k_swaps_Valid⟩, ⟨trivial, ⟨trivial, ⟨⟨by kernel_rfl, chkFn_ok Tryz.func91 k_slices_Sorted_int⟩, ⟨⟨by kernel_rfl, chkFn_ok Tryz.func92 k_slices_Values_int_int⟩, ⟨⟨by kernel_rfl, chkFn_ok Tryz.func93 k_swaps_tagged⟩, ⟨⟨by kernel_rfl, chkFn_ok Tryz.func95 k_slices_Compare_int_int⟩, ⟨⟨by kernel_rfl, chkFn_ok Tryz.func49 k_slices_ContainsFunc_api_Whereabouts_api_Whereabouts⟩, ⟨⟨by kernel_rfl, chkFn_ok Tryz.func96 k_swaps_Valid_1⟩, ⟨trivial, ⟨⟨by kernel_rfl, chkFn_ok Tryz.func126 k_slices_Values_int_int_1⟩, ⟨⟨by kernel_rfl, chkFn_ok Tryz.func127 k_cmp_Compare_int⟩, ⟨⟨by kernel_rfl, chkFn_ok Tryz.func98 k_slices_IndexFunc_api_Whereabouts_api_Whereabouts⟩, ⟨⟨by kernel_rfl, chkFn_ok Tryz.func141 k_cmp_isNaN_int⟩, ⟨trivial, ⟨trivial, ⟨trivial, ⟨trivial, ⟨trivial, ⟨trivial, ⟨trivial, ⟨trivial, ⟨trivial, ⟨trivial, ⟨trivial, ⟨trivial, ⟨trivial, ⟨trivial, ⟨trivial, ⟨trivial, ⟨trivial, ⟨trivial, ⟨⟨by kernel_rfl, chkFn_ok Tryz.func52 k_worlds_Copy⟩, ⟨⟨by kernel_rfl, chkFn_ok Tryz.func54 k_worlds_Tidy⟩, ⟨trivial, ⟨trivial, ⟨trivial, ⟨trivial, ⟨trivial, ⟨trivial, ⟨⟨by kernel_rfl, chkFn_ok Tryz.func103 k_slices_SortedStableFunc_api_World⟩, ⟨⟨by kernel_rfl, chkFn_ok Tryz.func104 k_slices_Values_api_World_api_World⟩, ⟨⟨by kernel_rfl, chkFn_ok Tryz.func105 k_worlds_Tidy_1⟩, ⟨⟨by kernel_rfl, chkFn_ok Tryz.func132 k_slices_Collect_api_World⟩, ⟨⟨by kernel_rfl, chkFn_ok Tryz.func133 k_slices_SortStableFunc_api_World_api_World⟩, ⟨⟨by kernel_rfl, chkFn_ok Tryz.func134 k_slices_Values_api_World_api_World_1⟩, ⟨⟨by kernel_rfl, chkFn_ok Tryz.func146 k_slices_stableCmpFunc_api_World⟩, ⟨⟨by kernel_rfl, chkFn_ok Tryz.func158 k_slices_insertionSortCmpFunc_api_World⟩, ⟨⟨by kernel_rfl, chkFn_ok Tryz.func159 k_slices_symMergeCmpFunc_api_World⟩, ⟨⟨by kernel_rfl, chkFn_ok Tryz.func165 k_slices_rotateCmpFunc_api_World⟩, ⟨⟨by kernel_rfl, chkFn_ok Tryz.func167 k_slices_swapRangeCmpFunc_api_World⟩, ⟨⟨by kernel_rfl, chkFn_ok Tryz.func52 k_worlds_Copy_v1⟩, ⟨⟨by kernel_rfl, chkFn_ok Tryz.func3 k_law32_AreaOf⟩, ⟨trivial, ⟨trivial, ⟨trivial, ⟨trivial, ⟨⟨by kernel_rfl, chkFn_ok Tryz.func9 k_law32_awake⟩, ⟨⟨by kernel_rfl, chkFn_ok Tryz.func14 k_area_Of⟩, ⟨⟨by kernel_rfl, chkFn_ok Tryz.func21 k_area_Seal⟩, ⟨trivial, ⟨⟨by kernel_rfl, chkFn_ok Tryz.func31 k_area_Border⟩, ⟨⟨by kernel_rfl, chkFn_ok Tryz.func32 k_area_Barred⟩, ⟨trivial, ⟨⟨by kernel_rfl, chkFn_ok Tryz.func36 k_law32_row⟩, ⟨⟨by kernel_rfl, chkFn_ok Tryz.func43 k_area_Of_1⟩, ⟨⟨by kernel_rfl, chkFn_ok Tryz.func48 k_area_Seal_1⟩, ⟨⟨by kernel_rfl, chkFn_ok Tryz.func50 k_area_Seal_1_1⟩, ⟨⟨by kernel_rfl, chkFn_ok Tryz.func53 k_area_seal⟩, ⟨trivial, ⟨trivial, ⟨trivial, ⟨⟨by kernel_rfl, chkFn_ok Tryz.func69 k_area_Border_1⟩, ⟨⟨by kernel_rfl, chkFn_ok Tryz.func73 k_slices_Clone_api_Place_api_Place⟩, ⟨⟨by kernel_rfl, chkFn_ok Tryz.func74 k_slices_Clone_api_Road_api_Road⟩, ⟨trivial, ⟨trivial, trivial⟩⟩⟩⟩⟩⟩⟩⟩⟩⟩⟩⟩⟩⟩⟩⟩⟩⟩⟩⟩⟩⟩⟩⟩⟩⟩⟩⟩⟩⟩⟩⟩⟩⟩⟩⟩⟩⟩⟩⟩⟩⟩⟩⟩⟩⟩⟩⟩⟩⟩⟩⟩⟩⟩⟩⟩⟩⟩⟩⟩⟩⟩⟩⟩⟩⟩⟩⟩⟩⟩⟩⟩⟩⟩⟩⟩⟩⟩⟩⟩⟩⟩⟩⟩⟩⟩⟩⟩⟩⟩⟩⟩⟩⟩⟩⟩⟩⟩⟩⟩⟩⟩⟩⟩⟩⟩⟩⟩⟩⟩⟩⟩⟩⟩⟩⟩⟩⟩⟩⟩⟩⟩⟩⟩⟩⟩⟩⟩⟩⟩⟩⟩⟩⟩⟩⟩⟩⟩⟩⟩⟩⟩⟩⟩⟩⟩⟩⟩⟩⟩⟩⟩⟩⟩⟩⟩⟩⟩⟩⟩⟩⟩⟩⟩⟩⟩⟩⟩⟩⟩⟩⟩⟩⟩⟩⟩⟩⟩⟩⟩⟩⟩⟩⟩⟩⟩⟩⟩⟩⟩⟩⟩⟩⟩⟩⟩⟩⟩⟩⟩⟩⟩⟩⟩⟩⟩⟩⟩⟩⟩⟩⟩⟩⟩⟩⟩⟩⟩⟩⟩⟩⟩⟩⟩⟩⟩⟩⟩⟩⟩⟩⟩⟩⟩⟩⟩⟩⟩⟩⟩⟩⟩⟩⟩⟩⟩⟩⟩⟩⟩⟩⟩⟩⟩⟩⟩⟩⟩⟩⟩⟩⟩⟩⟩⟩⟩⟩⟩⟩⟩⟩⟩⟩⟩⟩⟩⟩⟩⟩⟩⟩⟩⟩⟩⟩⟩⟩⟩⟩⟩⟩⟩⟩⟩⟩⟩⟩⟩⟩⟩⟩⟩⟩⟩⟩⟩⟩⟩⟩⟩⟩⟩⟩⟩⟩⟩⟩⟩⟩⟩⟩⟩⟩⟩⟩⟩⟩⟩⟩⟩⟩⟩⟩⟩
def prims : List (Nat × List Nat) := [(260, [2, N.slices_Values_int_int_1]), (300, [3, N.slices_Values_api_World_api_World_1])]
def laysSort_ren : Go.Shelf.Ren := ⟨fun | 189 => 125 | 125 => 140 | 257 => 139 | 128 => 156 | 129 => 157 | 294 => 147 | 295 => 148 | 296 => 149 | 297 => 150 | 298 => 151 | 299 => 152 | 216 => 153 | 300 => 154 | 301 => 155 | 328 => 160 | 329 => 161 | 330 => 162 | 331 => 163 | 332 => 164 | 215 => 141 | 343 => 166 | n => n, fun | 28 => 22 | 3 => 3 | 46 => 104 | 0 => 0 | 51 => 133 | 53 => 136 | 4 => 4 | 183 => 159 | 182 => 158 | 131 => 163 | 5 => 5 | 9 => 9 | 218 => 170 | 222 => 174 | 228 => 176 | 229 => 139 | n => n, fun | n => n⟩
theorem laysSort : Go.Proofs.Lays.n189 Tryz.prog laysSort_ren := {
  mixed := by kernel_rfl,
  f125 := Tryz.func140.trans (congrArg some (by kernel_rfl)),
  f128 := Tryz.func156.trans (congrArg some (by kernel_rfl)),
  f129 := Tryz.func157.trans (congrArg some (by kernel_rfl)),
  f189 := Tryz.func125.trans (congrArg some (by kernel_rfl)),
  f215 := Tryz.func141.trans (congrArg some (by kernel_rfl)),
  f216 := Tryz.func153.trans (congrArg some (by kernel_rfl)),
  f257 := Tryz.func139.trans (congrArg some (by kernel_rfl)),
  f294 := Tryz.func147.trans (congrArg some (by kernel_rfl)),
  f295 := Tryz.func148.trans (congrArg some (by kernel_rfl)),
  f296 := Tryz.func149.trans (congrArg some (by kernel_rfl)),
  f297 := Tryz.func150.trans (congrArg some (by kernel_rfl)),
  f298 := Tryz.func151.trans (congrArg some (by kernel_rfl)),
  f299 := Tryz.func152.trans (congrArg some (by kernel_rfl)),
  f300 := Tryz.func154.trans (congrArg some (by kernel_rfl)),
  f301 := Tryz.func155.trans (congrArg some (by kernel_rfl)),
  f328 := Tryz.func160.trans (congrArg some (by kernel_rfl)),
  f329 := Tryz.func161.trans (congrArg some (by kernel_rfl)),
  f330 := Tryz.func162.trans (congrArg some (by kernel_rfl)),
  f331 := Tryz.func163.trans (congrArg some (by kernel_rfl)),
  f332 := Tryz.func164.trans (congrArg some (by kernel_rfl)),
  f343 := Tryz.func166.trans (congrArg some (by kernel_rfl)),
  t0 := Tryz.underlying0,
  a0 := Tryz.isAgg0,
  z0 := Tryz.sizeOf0,
  v0 := Tryz.zeroValue0,
  t3 := Tryz.underlying3,
  a3 := Tryz.isAgg3,
  z3 := Tryz.sizeOf3,
  v3 := Tryz.zeroValue3,
  t4 := Tryz.underlying4,
  a4 := Tryz.isAgg4,
  z4 := Tryz.sizeOf4,
  v4 := Tryz.zeroValue4,
  t5 := Tryz.underlying5,
  a5 := Tryz.isAgg5,
  z5 := Tryz.sizeOf5,
  v5 := Tryz.zeroValue5,
  t9 := Tryz.underlying9,
  a9 := Tryz.isAgg9,
  z9 := Tryz.sizeOf9,
  v9 := Tryz.zeroValue9,
  t28 := Tryz.underlying22,
  a28 := Tryz.isAgg22,
  z28 := Tryz.sizeOf22,
  v28 := Tryz.zeroValue22,
  t46 := Tryz.underlying104,
  a46 := Tryz.isAgg104,
  z46 := Tryz.sizeOf104,
  v46 := Tryz.zeroValue104,
  t51 := Tryz.underlying133,
  a51 := Tryz.isAgg133,
  z51 := Tryz.sizeOf133,
  v51 := Tryz.zeroValue133,
  t53 := Tryz.underlying136,
  a53 := Tryz.isAgg136,
  z53 := Tryz.sizeOf136,
  v53 := Tryz.zeroValue136,
  t131 := Tryz.underlying163,
  a131 := Tryz.isAgg163,
  z131 := Tryz.sizeOf163,
  v131 := Tryz.zeroValue163,
  t182 := Tryz.underlying158,
  a182 := Tryz.isAgg158,
  z182 := Tryz.sizeOf158,
  v182 := Tryz.zeroValue158,
  t183 := Tryz.underlying159,
  a183 := Tryz.isAgg159,
  z183 := Tryz.sizeOf159,
  v183 := Tryz.zeroValue159,
  t218 := Tryz.underlying170,
  a218 := Tryz.isAgg170,
  z218 := Tryz.sizeOf170,
  v218 := Tryz.zeroValue170,
  t222 := Tryz.underlying174,
  a222 := Tryz.isAgg174,
  z222 := Tryz.sizeOf174,
  v222 := Tryz.zeroValue174,
  t228 := Tryz.underlying176,
  a228 := Tryz.isAgg176,
  z228 := Tryz.sizeOf176,
  v228 := Tryz.zeroValue176,
  t229 := Tryz.underlying139,
  a229 := Tryz.isAgg139,
  z229 := Tryz.sizeOf139,
  v229 := Tryz.zeroValue139 }
def laysSorted_ren : Go.Shelf.Ren := ⟨fun | 6 => 91 | 8 => 124 | 9 => 125 | 11 => 138 | 13 => 140 | 12 => 139 | 23 => 156 | 24 => 157 | 14 => 147 | 15 => 148 | 16 => 149 | 17 => 150 | 18 => 151 | 19 => 152 | 20 => 153 | 21 => 154 | 22 => 155 | 25 => 160 | 26 => 161 | 27 => 162 | 28 => 163 | 29 => 164 | 30 => 141 | 31 => 166 | n => n, fun | 26 => 3 | 28 => 113 | 24 => 22 | 0 => 0 | 3 => 3 | 37 => 104 | 48 => 133 | 50 => 136 | 4 => 4 | 40 => 159 | 39 => 158 | 45 => 163 | 5 => 5 | 9 => 9 | 51 => 170 | 55 => 174 | 57 => 176 | 58 => 139 | 33 => 62 | n => n, fun | n => n⟩
theorem laysSorted : Go.Proofs.SlLaysZI.n6 Tryz.prog laysSorted_ren := {
  f6 := ⟨"slices.Sorted[int]", by kernel_rfl, Tryz.func91.trans (congrArg some (by kernel_rfl))⟩,
  f8 := ⟨"slices.Collect[int]", by kernel_rfl, Tryz.func124.trans (congrArg some (by kernel_rfl))⟩,
  f11 := ⟨"slices.AppendSeq[[]int,int]", by kernel_rfl, Tryz.func138.trans (congrArg some (by kernel_rfl))⟩,
  mixed := by kernel_rfl,
  t0 := Tryz.underlying0,
  a0 := Tryz.isAgg0,
  z0 := Tryz.sizeOf0,
  v0 := Tryz.zeroValue0,
  t24 := Tryz.underlying22,
  a24 := Tryz.isAgg22,
  z24 := Tryz.sizeOf22,
  v24 := Tryz.zeroValue22,
  t26 := Tryz.underlying3,
  a26 := Tryz.isAgg3,
  z26 := Tryz.sizeOf3,
  v26 := Tryz.zeroValue3,
  t28 := Tryz.underlying113,
  a28 := Tryz.isAgg113,
  z28 := Tryz.sizeOf113,
  v28 := Tryz.zeroValue113,
  i26 := by kernel_rfl }
section
open Go.RowKit Go.Shelf Go.Maps Go.Sort Go.Proofs
/- the iterator of slices.Values at this program -/
set_option maxRecDepth 100000 in
set_option maxHeartbeats 2000000 in
theorem vals1 (n l Bs : Nat) (hn : 1 ≤ n) (W0 : World) (b off len cap : Nat) (zs : List Int) (hlen : zs.length = len) (hreach : len * 8 ≤ 140737488351232) (hb : b < W0.heap.size) (J : List Int → World → Prop)
    (hJ : ∀ s W1, J s W1 → Below W0.heap.size W0 W1)
    (hY : ∀ pre x W1, J pre W1 → pre.length < zs.length → YieldAt Fence.wide (n - 1) Tryz.prog l #[encZ x] W1 fun e W' => e = .returned (.bool true) ∧ J (pre ++ [x]) W' ∧ KeepsWalks W1 W')
    (W : World) (hBs : W.cell? ⟨Bs, 0, none⟩ = some (.slice (some ⟨b, off, none⟩) len cap)) (hc : ∀ j, j < len → W0.cell? ⟨b, off + j, none⟩ = some (.int .i64 (zs[j]?.getD 0))) (h0 : J [] W) :
    CallsIn Fence.wide n Tryz.prog 126 #[.func (.yield l) #[] #[], .pointer (some ⟨Bs, 0, none⟩)] W fun e W' => (∃ v, e = .returned v) ∧ J zs W' := by
  have step : ∀ k, k < zs.length → zs.take k ++ [zs[k]?.getD 0] = zs.take (k + 1) := fun k hk => by
    rw [List.take_succ_eq_append_getElem hk]; simp [hk]
  refine callsIn_of_wp Tryz.func126 rfl trivial ?_ rfl
  simp only [Tryz.ntmps126, List.size_toArray, List.length_cons, List.length_nil, Nat.reduceAdd, Nat.reduceSub, Array.replicate_succ, Array.replicate_zero, List.push_toArray, List.append_toArray, List.nil_append, List.cons_append]
  gi_wp2
  gi_loopw [7] (fun i wr => ∃ k : Nat, k ≤ len ∧ i = .int .i64 k ∧ J (zs.take k) wr)
    (fun i _ => len - (intOf i).toNat)
  case atStart => exact ⟨0, Nat.zero_le _, rfl, h0⟩
  case round =>
    obtain ⟨k, hk, rfl, hJs⟩ := hrel
    by_cases hlt : k < len
    · have hcx : wr.cell? ⟨b, off + k, none⟩ = some (.int .i64 (zs[k]?.getD 0)) := ((hJ _ _ hJs).cell (p := ⟨b, off + k, none⟩) hb).trans (hc k hlt)
      have st := step k (by omega)
      generalize zs[k]?.getD 0 = x at hcx st
      obtain ⟨fn, tmps, assign, body, hy, hR⟩ := hY _ x wr hJs (by rw [List.length_take]; omega)
      clear step
      gi_wp2
      refine hR.mono ?_
      rintro e W3 ⟨rfl, hJ3, -⟩
      gi_wp2
      go_roundw
      case rel => exact ⟨k + 1, by omega, by simp, by rw [← st]; exact hJ3⟩
      case measure => simp [intOf]; omega
    · obtain rfl : k = len := by omega
      gi_wp2
      go_end0
      exact ⟨⟨_, rfl⟩, by rw [← hlen, List.take_length] at hJs; exact hJs⟩
set_option maxRecDepth 100000 in
set_option maxHeartbeats 1000000 in
theorem vals0 (n l Bs : Nat) (p : Option Addr) (cap : Nat) (J : List Int → World → Prop) (W : World) (hBs : W.cell? ⟨Bs, 0, none⟩ = some (.slice p 0 cap)) (h0 : J [] W) :
    CallsIn Fence.wide n Tryz.prog 126 #[.func (.yield l) #[] #[], .pointer (some ⟨Bs, 0, none⟩)] W fun e W' => (∃ v, e = .returned v) ∧ J [] W' := by
  refine callsIn_of_wp Tryz.func126 rfl trivial ?_ rfl
  simp only [Tryz.ntmps126, List.size_toArray, List.length_cons, List.length_nil, Nat.reduceAdd, Nat.reduceSub, Array.replicate_succ, Array.replicate_zero, List.push_toArray, List.append_toArray, List.nil_append, List.cons_append]
  gi_wp2
  gi_loopw [7] (fun i wr => i = .int .i64 0 ∧ J [] wr) (fun _ _ => 0)
  case atStart => exact ⟨rfl, h0⟩
  case round =>
    obtain ⟨rfl, hJs⟩ := hrel
    gi_wp2
    go_end0
    exact ⟨⟨_, rfl⟩, hJs⟩
theorem vals_ok : ValsOK Tryz.prog 126 := by
  intro n Bs sv zs w hn hreach hBs hcell hI l J W hW hJ hY h0
  have hc' := (hW.cell (p := ⟨Bs, 0, none⟩) hBs).trans hcell
  rcases hI with ⟨p, cap, rfl, rfl⟩ | ⟨b, off, cap, rfl, hb, hcs⟩
  · exact vals0 n l Bs p cap J W hc' h0
  · exact vals1 n l Bs hn w b off zs.length cap zs rfl hreach hb J hJ hY W hc' hcs h0
end
theorem prim_260 : ∀ j, Names.ρ 260 = some j → PrimOK Tryz.prog j [2, N.slices_Values_int_int_1] := fun j hj => by
  have e : (Names.ρ 260 : Option Nat) = some 91 := by kernel_rfl
  rw [e] at hj; cases hj; exact prim_sorted laysSorted laysSort (by kernel_rfl) (Go.Proofs.enters_of Tryz.func125 (by kernel_rfl) rfl) (by kernel_rfl) (Go.Proofs.enters_of Tryz.func126 (by kernel_rfl) rfl) vals_ok
def laysW_ren : Go.Shelf.Ren := ⟨fun | 8 => 132 | 11 => 145 | n => n, fun | 0 => 0 | 24 => 42 | 26 => 56 | 28 => 121 | 33 => 86 | n => n, fun n => n⟩
theorem laysW : Go.Proofs.LayW Tryz.prog laysW_ren := {
  mixed := by kernel_rfl,
  f8 := ⟨"slices.Collect[minecontrol/api.World]", by kernel_rfl, Tryz.func132.trans (congrArg some (by kernel_rfl))⟩,
  f11 := ⟨"slices.AppendSeq[[]minecontrol/api.World,minecontrol/api.World]", by kernel_rfl, Tryz.func145.trans (congrArg some (by kernel_rfl))⟩,
  t0 := Tryz.underlying0,
  a0 := Tryz.isAgg0,
  z0 := Tryz.sizeOf0,
  v0 := Tryz.zeroValue0,
  t24 := Tryz.underlying42,
  a24 := Tryz.isAgg42,
  z24 := Tryz.sizeOf42,
  v24 := Tryz.zeroValue42,
  t26 := ⟨_, Tryz.underlying56⟩,
  a26 := Tryz.isAgg56,
  z26 := Tryz.sizeOf56,
  v26 := Tryz.zeroValue56,
  t28 := Tryz.underlying121,
  a28 := Tryz.isAgg121,
  z28 := Tryz.sizeOf121,
  v28 := Tryz.zeroValue121,
  i26 := by kernel_rfl }
section
open Go.RowKit Go.Shelf Go.Maps Go.Sort Go.Proofs
/- the iterator of slices.Values of structures of two cells at this program -/
set_option maxRecDepth 100000 in
set_option maxHeartbeats 2000000 in
theorem valsW1 (n l Bs : Nat) (hn : 1 ≤ n) (W0 : World) (b off len cap : Nat) (zs : List (Value × Value)) (hlen : zs.length = len) (hone : ∀ x ∈ zs, x.1.oneCell' = true ∧ x.2.oneCell' = true) (hreach : len * 48 ≤ 140737488351232) (hb : b < W0.heap.size) (J : List (Value × Value) → World → Prop)
    (hJ : ∀ s W1, J s W1 → Below W0.heap.size W0 W1) (hA : ∀ s W1 o, J s W1 → J s (W1.alloc o))
    (hY : ∀ pre x W1, J pre W1 → pre.length < zs.length → x ∈ zs → YieldAt Fence.wide (n - 1) Tryz.prog l #[encW x] W1 fun e W' => e = .returned (.bool true) ∧ J (pre ++ [x]) W' ∧ KeepsWalks W1 W')
    (W : World) (hBs : W.cell? ⟨Bs, 0, none⟩ = some (.slice (some ⟨b, off, none⟩) len cap)) (hc : ∀ j p, zs[j]? = some p → W0.cell? ⟨b, off + j * 2, none⟩ = some p.1 ∧ W0.cell? ⟨b, off + j * 2 + 1, none⟩ = some p.2) (h0 : J [] W) :
    CallsIn Fence.wide n Tryz.prog 134 #[.func (.yield l) #[] #[], .pointer (some ⟨Bs, 0, none⟩)] W fun e W' => (∃ v, e = .returned v) ∧ J zs W' := by
  have step : ∀ k x, zs[k]? = some x → zs.take k ++ [x] = zs.take (k + 1) := fun k x hk => by
    rw [List.take_add_one, hk]; rfl
  refine callsIn_of_wp Tryz.func134 rfl trivial ?_ rfl
  simp only [Tryz.ntmps134, List.size_toArray, List.length_cons, List.length_nil, Nat.reduceAdd, Nat.reduceSub, Array.replicate_succ, Array.replicate_zero, List.push_toArray, List.append_toArray, List.nil_append, List.cons_append]
  gi_wp2
  gi_loopw [7] (fun i wr => ∃ k : Nat, k ≤ len ∧ i = .int .i64 k ∧ J (zs.take k) wr)
    (fun i _ => len - (intOf i).toNat)
  case atStart => exact ⟨0, Nat.zero_le _, rfl, h0⟩
  case round =>
    obtain ⟨k, hk, rfl, hJs⟩ := hrel
    by_cases hlt : k < len
    · obtain ⟨x, hx⟩ : ∃ x, zs[k]? = some x := ⟨_, List.getElem?_eq_getElem (by omega)⟩
      have hcx0 : wr.cell? ⟨b, off + k * 2, none⟩ = some x.1 := ((hJ _ _ hJs).cell (p := ⟨b, off + k * 2, none⟩) hb).trans (hc k x hx).1
      have hcx1 : wr.cell? ⟨b, off + k * 2 + 1, none⟩ = some x.2 := ((hJ _ _ hJs).cell (p := ⟨b, off + k * 2 + 1, none⟩) hb).trans (hc k x hx).2
      have hm : x ∈ zs := List.mem_of_getElem? hx
      have st := step k x hx
      obtain ⟨hx1, hx2⟩ := hone x hm
      have hst := store_two Tryz.prog wr x.1 x.2 (.slice none 0 0) (.slice none 0 0) 56 hx1 hx2
      have cA0 : (wr.alloc (.cells #[x.1, x.2] 56)).cell? ⟨wr.heap.size, 0, none⟩ = some x.1 := cell_two_new wr x.1 x.2 56 0 x.1 rfl
      have cA1 : (wr.alloc (.cells #[x.1, x.2] 56)).cell? ⟨wr.heap.size, 1, none⟩ = some x.2 := cell_two_new wr x.1 x.2 56 1 x.2 rfl
      obtain ⟨fn, tmps, assign, body, hy, hR⟩ := hY _ x _ (hA _ _ (.cells #[x.1, x.2] 56) hJs) (by rw [List.length_take]; omega) hm
      clear step hone hc
      gi_wp2
      refine hR.mono ?_
      rintro e W3 ⟨rfl, hJ3, -⟩
      gi_wp2
      go_roundw
      case rel => exact ⟨k + 1, by omega, by simp, by rw [← st]; exact hJ3⟩
      case measure => simp [intOf]; omega
    · obtain rfl : k = len := by omega
      gi_wp2
      go_end0
      exact ⟨⟨_, rfl⟩, by rw [← hlen, List.take_length] at hJs; exact hJs⟩
set_option maxRecDepth 100000 in
set_option maxHeartbeats 1000000 in
theorem valsW0 (n l Bs : Nat) (p : Option Addr) (cap : Nat) (J : List (Value × Value) → World → Prop) (W : World) (hBs : W.cell? ⟨Bs, 0, none⟩ = some (.slice p 0 cap)) (h0 : J [] W) :
    CallsIn Fence.wide n Tryz.prog 134 #[.func (.yield l) #[] #[], .pointer (some ⟨Bs, 0, none⟩)] W fun e W' => (∃ v, e = .returned v) ∧ J [] W' := by
  refine callsIn_of_wp Tryz.func134 rfl trivial ?_ rfl
  simp only [Tryz.ntmps134, List.size_toArray, List.length_cons, List.length_nil, Nat.reduceAdd, Nat.reduceSub, Array.replicate_succ, Array.replicate_zero, List.push_toArray, List.append_toArray, List.nil_append, List.cons_append]
  gi_wp2
  gi_loopw [7] (fun i wr => i = .int .i64 0 ∧ J [] wr) (fun _ _ => 0)
  case atStart => exact ⟨rfl, h0⟩
  case round =>
    obtain ⟨rfl, hJs⟩ := hrel
    gi_wp2
    go_end0
    exact ⟨⟨_, rfl⟩, hJs⟩
theorem valsW_ok : ValsWOK Tryz.prog 134 := by
  intro n Bs sv zs w hn hone hreach hBs hcell hI l J W hW hJ hA hY h0
  have hc' := (hW.cell (p := ⟨Bs, 0, none⟩) hBs).trans hcell
  rcases hI with ⟨p, cap, rfl, rfl⟩ | ⟨b, off, cap, rfl, hb, hcs⟩
  · exact valsW0 n l Bs p cap J W hc' h0
  · exact valsW1 n l Bs hn w b off zs.length cap zs rfl hone hreach hb J hJ hA hY W hc' hcs h0
end
theorem prim_300 : ∀ j, Names.ρ 300 = some j → PrimOK Tryz.prog j [3, N.slices_Values_api_World_api_World_1] := fun j hj => by
  have e : (Names.ρ 300 : Option Nat) = some 132 := by kernel_rfl
  rw [e] at hj; cases hj; exact prim_collect laysW (by kernel_rfl) (Go.Proofs.enters_of Tryz.func134 (by kernel_rfl) rfl) valsW_ok
theorem prims_ok : ∀ x ∈ prims, ∀ j, Names.ρ x.1 = some j → PrimOK Tryz.prog j x.2 := by
  intro x hx
  simp only [prims, List.mem_cons, List.not_mem_nil, or_false] at hx
  rcases hx with rfl | rfl
  · exact prim_260
  · exact prim_300
end Go.Proofs.YtljlbkjecjloaaaGreat
