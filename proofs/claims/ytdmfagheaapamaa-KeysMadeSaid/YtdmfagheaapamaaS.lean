/- MADE BY PROGRAM (lib.py): the numbers that the functions have in this program, and the check of each one. -/
import Derived.Test.YtdmfagheaapamaaProg
import Derived.Test.YtdmfagheaapamaaZP
import Derived.KernelRfl
set_option linter.all false
set_option maxRecDepth 100000
namespace Go.Proofs.Ytdmfagheaapamaa
open Go.Ev
def real : List (Option Nat) := [none, some 6, none, some 8, none, none, none, none, none, some 9, some 14, none, none, none, none, none, none, none, none, none, none, none, none, some 25, none, none, none, none, none, none, some 44, none, none, none, none, none, none, none, none, none, none, none, none, none, none, none, none, none, none, some 40, none, none, none, none, none, none, none, none, none, none, none, none, some 43, none, none, none, some 48, none, none, none, none, some 39, none, none, none, none, none, none, none, none, none, none, none, none, none, none, none, none, none, none, none, none, none, none, none, none, none, none, none, none, none, none, none, none, none, some 46, none, none, none, none, some 22, none, some 26, none, none, some 38, some 34, some 41, none, some 49, none, none, none, none, none, none, none, none, none, none, none, none, none, none, none, none, none, none, none, none, none, none, none, none, none, none, none, none, none, none, none, none, none, none, none, none, none, none, none, none, none, none, none, none, none, none, none, none, none, none, none, none, none, none, none, none, none, none, none, none, none, none, none, none, none, none, none, none, none, none, none, none, none, none, none, none, none, none, none, none, none, none, none, none, some 35, none, none, none, none, none, none, none, none, none, none, some 3, none, none, some 7, some 10, some 11, some 12, some 13, some 15, some 16, some 17, some 18, some 19, some 20, some 21, some 23, some 24, some 27, some 28, some 29, some 30, some 31, some 32, some 33, some 36, some 37, some 42, some 45, some 47, some 47]
def tab : List (Option Go.Ev.Fn) := [some K.law40_FireRulesStay, some K.made_Light, some K.law40_awake, some K.made_Roll, some K.made_Dice_Mine, some K.law40_some, some K.made_Dice_Spread, some K.made_Dice_Flows, some K.made_Dice_Belief, some K.made_Dice_Next, some K.made_Dice_Of, some K.firerules_Command, some K.ref23_Has, some K.ref26_Possible, some K.firerules_Drawn, some K.made_Dice_One, some K.made_Dice_Some, some K.ref28_Start, some K.ref28_Change, some K.ref26_Start, some K.ref26_Exchange, some K.ref26_See, some K.ref26_Absent, some K.made_Mod, some K.smoke_Filled, some K.firerules_meets, some K.firerules_near, some K.ref25_Possible, some K.ref01_Check, some K.ref28_Flows, some K.ref23_Set, some K.ref28_Close, some K.ref28_Copy, some K.ref28_Valid, some K.ref28_Travel, some K.ref26_proper, some K.ref25_Start, some K.ref26_Copy, some K.ref26_Valid, some K.ref26_CopyWorld, some K.ref26_meet, some K.ref25_Raise, some K.ref26_Tidy, some K.ref26_borne, some K.ref26_bearer, some K.ref25_See, some K.ref25_Absent, some K.lists_Where, some K.smoke_Filled_1, some K.slices_ContainsFunc_int_int, some K.firerules_meets_1, some K.slices_Contains_int_int, some K.firerules_near_1, some K.swaps_Possible, some K.ref01_Span, some K.ref28_Span, some K.ref25_inTime, some K.ref25_never, some K.ref25_Close, some K.ref26_Less, some K.ref25_Valid, some K.ref25_Copy, some K.ref23_SameInts, some K.ref25_Join, some K.ref25_asked, some K.ref25_close, some K.slices_IndexFunc_int_int, some K.slices_Index_int_int, some K.swaps_Possible_1, some K.slices_ContainsFunc_api_World_api_World, some K.swaps_Possible_1_1, some K.lists_In, some K.ref25_Plain, some K.ref25_lower, some K.ref03_Time, some K.slices_IndexFunc_api_World_api_World, some K.ref03_walked, some K.ref03_ends, some K.law34_FiringRaw, some K.law34_FiringMade, some K.law34_FiringNeeds, some K.law34_awake, some K.made_Dice_Ints, some K.law34_scene, some K.law34_agree, some K.law34_ready, some K.firing_Arm, some K.firing_Agree, some K.firing_Fire, some K.firing_Abort, some K.firing_Valid, some K.firing_Due, some K.ref32_Border, some K.ref32_Seal, some K.made_Last, some K.ref34_Arm, some K.ref34_Agree, some K.ref34_Fire, some K.ref34_Abort, some K.ref34_Valid, some K.firing_Safe, some K.ref34_Safe, some K.ref34_Due, some K.firing_request_check, some K.firing_timely, some K.lists_Rising, some K.ref32_Barred, some K.ref32_seal, some K.ref34_step, some K.ref34_blast, some K.keys_Valid, some K.area_Clear, some K.ref33_Valid, some K.ref32_Clear, some K.ref31_Copy, some K.keys_Valid_1, some K.keys_roads, some K.keys_boxed, some K.area_Clear_1, some K.keys_boxed_1, some K.ref26_Copy_v1, some K.ref26_Copy_v2, some K.ref26_CopyWorld_v2, some K.law27_HeadsMore, some K.law27_HeadsSplit, some K.law27_HeadsAll, some K.law27_HeadsTrue, some K.law27_awake, some K.heads_Count, some K.ref27_Count, some K.heads_Sure, some K.ref27_Sure, some K.heads_Maybe, some K.ref27_Maybe, some K.heads_Missing, some K.ref27_Missing, some K.heads_look, some K.ref27_state, some K.heads_persons, some K.heads_Sure_1, some K.heads_Sure_1_1, some K.ref27_people, some K.heads_Maybe_1, some K.heads_Maybe_1_1, some K.heads_Missing_1, some K.places_Possible, some K.heads_look_1, some K.heads_look_2, some K.places_Possible_1, some K.law28_SmokeSources, some K.law28_SmokeRuns, some K.law28_SmokeMade, some K.law28_SmokeGrows, some K.law28_awake, some K.smoke_Start, some K.smoke_Travel, some K.smoke_Change, some K.law28_agree, some K.smoke_Free, some K.smoke_given, some K.slices_Repeat_int_int, some K.smoke_times_spread, some K.smoke_Valid, some K.ref28_Same, some K.ref28_Filled, some K.ref28_Free, some K.smoke_Free_1, some K.plan_Valid, some K.slices_ContainsFunc_api_Span_api_Span, some K.smoke_given_1, some K.math_bits_Mul, some K.smoke_times_reach, some K.smoke_Valid_1, some K.plan_Check, some K.slices_IndexFunc_api_Span_api_Span, some K.math_bits_Mul32, some K.math_bits_Mul64, some K.plan_spanIn, some K.law25_PlacesLeast, some K.law25_PlacesJoins, some K.law25_PlacesTrue, some K.law25_PlacesShift, some K.law25_PlacesLess, some K.law25_PlacesRaw, some K.law25_PlacesMade, some K.law25_awake, some K.places_Start, some K.ref03_Least, some K.made_Dice_Where, some K.places_Join, some K.places_Valid, some K.law25_walker, some K.places_See, some K.places_Absent, some K.places_Renew, some K.law25_agree, some K.ref25_Same, some K.law25_row, some K.places_nowhere, some K.places_lowered, some K.places_all, some K.places_shaped, some K.slices_Equal_int_int, some K.places_given, some K.slices_Clone_int_int, some K.places_Absent_1, some K.ref25_Renew, some K.places_Raise, some K.places_arrivals, some K.places_lowered_1, some K.places_shaped_1, some K.walk_Time, some K.walk_step, some K.walk_with, some K.walk_quick, some K.law33_KeysMade, some K.law33_KeysSafe, some K.law33_KeysBack, some K.law33_awake, some K.ref33_Start, some K.law33_agree, some K.law33_step, some K.ref33_Copy, some K.keys_Start, some K.keys_Lock, some K.keys_Insert, some K.keys_Remove, some K.keys_Unlock, some K.keys_Draw, some K.keys_Return, some K.keys_Locked, some K.ref33_Same, some K.ref33_Locked, some K.ref33_Lock, some K.ref33_Insert, some K.ref33_Remove, some K.ref33_Unlock, some K.ref33_Draw, some K.ref33_Return, some K.keys_move, some K.keys_turn, some K.slices_Sort_int_int, some K.ref33_move, some K.keys_copied, some K.keys_copied_v1]
instance names : Names := ⟨fun f => (real[f]?).join⟩
instance lib : Lib := ⟨fun f => (tab[f]?).join⟩
instance has1 : Has1 := ⟨rfl, rfl, rfl, rfl, rfl, rfl, rfl, rfl, rfl, rfl, rfl, rfl, rfl, rfl, rfl, rfl, rfl, rfl, rfl, rfl, rfl, rfl, rfl, rfl, rfl, rfl, rfl, rfl, rfl, rfl, rfl, rfl, rfl, rfl, rfl, rfl, rfl⟩
instance has2 : Has2 := ⟨rfl, rfl, rfl, rfl, rfl, rfl, rfl, rfl, rfl, rfl, rfl, rfl, rfl, rfl, rfl, rfl, rfl, rfl, rfl, rfl, rfl, rfl, rfl, rfl, rfl, rfl, rfl, rfl, rfl, rfl, rfl, rfl, rfl, rfl, rfl, rfl, rfl, rfl, rfl, rfl, rfl⟩
instance has3 : Has3 := ⟨rfl, rfl, rfl, rfl, rfl, rfl, rfl, rfl, rfl, rfl, rfl, rfl, rfl, rfl, rfl, rfl, rfl, rfl, rfl, rfl, rfl⟩
instance has4 : Has4 := ⟨rfl, rfl, rfl, rfl, rfl, rfl, rfl, rfl, rfl, rfl, rfl, rfl, rfl, rfl, rfl, rfl, rfl, rfl, rfl, rfl, rfl, rfl, rfl, rfl⟩
instance has5 : Has5 := ⟨rfl, rfl, rfl, rfl, rfl, rfl, rfl, rfl, rfl, rfl, rfl, rfl, rfl, rfl, rfl, rfl, rfl, rfl, rfl, rfl, rfl, rfl, rfl, rfl, rfl, rfl⟩
instance has6 : Has6 := ⟨rfl, rfl, rfl, rfl, rfl, rfl, rfl, rfl, rfl, rfl, rfl, rfl, rfl, rfl, rfl, rfl, rfl, rfl, rfl, rfl, rfl, rfl, rfl⟩
instance has7 : Has7 := ⟨rfl, rfl, rfl, rfl, rfl, rfl⟩
instance has8 : Has8 := ⟨rfl, rfl, rfl, rfl, rfl, rfl, rfl, rfl, rfl, rfl, rfl, rfl, rfl, rfl, rfl⟩
instance has9 : Has9 := ⟨rfl, rfl, rfl, rfl, rfl, rfl, rfl, rfl, rfl, rfl, rfl, rfl, rfl, rfl, rfl, rfl, rfl, rfl, rfl, rfl, rfl, rfl⟩
instance has10 : Has10 := ⟨rfl, rfl, rfl, rfl, rfl, rfl, rfl, rfl, rfl, rfl, rfl, rfl, rfl, rfl, rfl, rfl, rfl, rfl, rfl, rfl, rfl, rfl, rfl, rfl, rfl, rfl, rfl, rfl, rfl, rfl⟩
theorem k_made_Light : chkFn Try.prog Try.f6 K.made_Light = true := by kernel_rfl
theorem k_made_Roll : chkFn Try.prog Try.f8 K.made_Roll = true := by kernel_rfl
theorem k_made_Dice_Next : chkFn Try.prog Try.f9 K.made_Dice_Next = true := by kernel_rfl
theorem k_made_Dice_Of : chkFn Try.prog Try.f14 K.made_Dice_Of = true := by kernel_rfl
theorem k_made_Mod : chkFn Try.prog Try.f25 K.made_Mod = true := by kernel_rfl
theorem k_ref23_Set : chkFn Try.prog Try.f44 K.ref23_Set = true := by kernel_rfl
theorem k_slices_ContainsFunc_int_int : chkFn Try.prog Try.f40 K.slices_ContainsFunc_int_int = true := by kernel_rfl
theorem k_ref23_SameInts : chkFn Try.prog Try.f43 K.ref23_SameInts = true := by kernel_rfl
theorem k_slices_IndexFunc_int_int : chkFn Try.prog Try.f48 K.slices_IndexFunc_int_int = true := by kernel_rfl
theorem k_lists_In : chkFn Try.prog Try.f39 K.lists_In = true := by kernel_rfl
theorem k_lists_Rising : chkFn Try.prog Try.f46 K.lists_Rising = true := by kernel_rfl
theorem k_keys_Valid : chkFn Try.prog Try.f22 K.keys_Valid = true := by kernel_rfl
theorem k_ref33_Valid : chkFn Try.prog Try.f26 K.ref33_Valid = true := by kernel_rfl
theorem k_keys_Valid_1 : chkFn Try.prog Try.f38 K.keys_Valid_1 = true := by kernel_rfl
theorem k_keys_roads : chkFn Try.prog Try.f34 K.keys_roads = true := by kernel_rfl
theorem k_keys_boxed : chkFn Try.prog Try.f41 K.keys_boxed = true := by kernel_rfl
theorem k_keys_boxed_1 : chkFn Try.prog Try.f49 K.keys_boxed_1 = true := by kernel_rfl
theorem k_slices_Clone_int_int : chkFn Try.prog Try.f35 K.slices_Clone_int_int = true := by kernel_rfl
theorem k_law33_KeysMade : chkFn Try.prog Try.f3 K.law33_KeysMade = true := by kernel_rfl
theorem k_law33_awake : chkFn Try.prog Try.f7 K.law33_awake = true := by kernel_rfl
theorem k_ref33_Start : chkFn Try.prog Try.f10 K.ref33_Start = true := by kernel_rfl
theorem k_law33_agree : chkFn Try.prog Try.f11 K.law33_agree = true := by kernel_rfl
theorem k_law33_step : chkFn Try.prog Try.f12 K.law33_step = true := by kernel_rfl
theorem k_ref33_Copy : chkFn Try.prog Try.f13 K.ref33_Copy = true := by kernel_rfl
theorem k_keys_Start : chkFn Try.prog Try.f15 K.keys_Start = true := by kernel_rfl
theorem k_keys_Lock : chkFn Try.prog Try.f16 K.keys_Lock = true := by kernel_rfl
theorem k_keys_Insert : chkFn Try.prog Try.f17 K.keys_Insert = true := by kernel_rfl
theorem k_keys_Remove : chkFn Try.prog Try.f18 K.keys_Remove = true := by kernel_rfl
theorem k_keys_Unlock : chkFn Try.prog Try.f19 K.keys_Unlock = true := by kernel_rfl
theorem k_keys_Draw : chkFn Try.prog Try.f20 K.keys_Draw = true := by kernel_rfl
theorem k_keys_Return : chkFn Try.prog Try.f21 K.keys_Return = true := by kernel_rfl
theorem k_keys_Locked : chkFn Try.prog Try.f23 K.keys_Locked = true := by kernel_rfl
theorem k_ref33_Same : chkFn Try.prog Try.f24 K.ref33_Same = true := by kernel_rfl
theorem k_ref33_Locked : chkFn Try.prog Try.f27 K.ref33_Locked = true := by kernel_rfl
theorem k_ref33_Lock : chkFn Try.prog Try.f28 K.ref33_Lock = true := by kernel_rfl
theorem k_ref33_Insert : chkFn Try.prog Try.f29 K.ref33_Insert = true := by kernel_rfl
theorem k_ref33_Remove : chkFn Try.prog Try.f30 K.ref33_Remove = true := by kernel_rfl
theorem k_ref33_Unlock : chkFn Try.prog Try.f31 K.ref33_Unlock = true := by kernel_rfl
theorem k_ref33_Draw : chkFn Try.prog Try.f32 K.ref33_Draw = true := by kernel_rfl
theorem k_ref33_Return : chkFn Try.prog Try.f33 K.ref33_Return = true := by kernel_rfl
theorem k_keys_move : chkFn Try.prog Try.f36 K.keys_move = true := by kernel_rfl
theorem k_keys_turn : chkFn Try.prog Try.f37 K.keys_turn = true := by kernel_rfl
theorem k_slices_Sort_int_int : chkFn Try.prog Try.f42 K.slices_Sort_int_int = true := by kernel_rfl
theorem k_ref33_move : chkFn Try.prog Try.f45 K.ref33_move = true := by kernel_rfl
theorem k_keys_copied : chkFn Try.prog Try.f47 K.keys_copied = true := by kernel_rfl
theorem k_keys_copied_v1 : chkFn Try.prog Try.f47 K.keys_copied_v1 = true := by kernel_rfl
theorem all_ok : AllOK Try.prog real tab :=
  ⟨trivial, ⟨⟨by kernel_rfl, chkFn_ok Try.func6 k_made_Light⟩, ⟨trivial, ⟨⟨by kernel_rfl, chkFn_ok Try.func8 k_made_Roll⟩, ⟨trivial, ⟨trivial, ⟨trivial, ⟨trivial, ⟨trivial, ⟨⟨by kernel_rfl, chkFn_ok Try.func9 k_made_Dice_Next⟩, ⟨⟨by kernel_rfl, chkFn_ok Try.func14 k_made_Dice_Of⟩, ⟨trivial, ⟨trivial, ⟨trivial, ⟨trivial, ⟨trivial, ⟨trivial, ⟨trivial, ⟨trivial, ⟨trivial, ⟨trivial, ⟨trivial, ⟨trivial, ⟨⟨by kernel_rfl, chkFn_ok Try.func25 k_made_Mod⟩, ⟨trivial, ⟨trivial, ⟨trivial, ⟨trivial, ⟨trivial, ⟨trivial, ⟨⟨by kernel_rfl, chkFn_ok Try.func44 k_ref23_Set⟩, ⟨trivial, ⟨trivial, ⟨trivial, ⟨trivial, ⟨trivial, ⟨trivial, ⟨trivial, ⟨trivial, ⟨trivial, ⟨trivial, ⟨trivial, ⟨trivial, ⟨trivial, ⟨trivial, ⟨trivial, ⟨trivial, ⟨trivial, ⟨trivial, ⟨⟨by kernel_rfl, chkFn_ok Try.func40 k_slices_ContainsFunc_int_int⟩, ⟨trivial, ⟨trivial, ⟨trivial, ⟨trivial, ⟨trivial, ⟨trivial, ⟨trivial, ⟨trivial, ⟨trivial, ⟨trivial, ⟨trivial, ⟨trivial, ⟨⟨by kernel_rfl, chkFn_ok Try.func43 k_ref23_SameInts⟩, ⟨trivial, ⟨trivial, ⟨trivial, ⟨⟨by kernel_rfl, chkFn_ok Try.func48 k_slices_IndexFunc_int_int⟩, ⟨trivial, ⟨trivial, ⟨trivial, ⟨trivial, ⟨⟨by kernel_rfl, chkFn_ok Try.func39 k_lists_In⟩, ⟨trivial, ⟨trivial, ⟨trivial, ⟨trivial, ⟨trivial, ⟨trivial, ⟨trivial, ⟨trivial, ⟨trivial, ⟨trivial, ⟨trivial, ⟨trivial, ⟨trivial, ⟨trivial, ⟨trivial, ⟨trivial, ⟨trivial, ⟨trivial, ⟨trivial, ⟨trivial, ⟨trivial, ⟨trivial, ⟨trivial, ⟨trivial, ⟨trivial, ⟨trivial, ⟨trivial, ⟨trivial, ⟨trivial, ⟨trivial, ⟨trivial, ⟨trivial, ⟨trivial, ⟨⟨by kernel_rfl, chkFn_ok Try.func46 k_lists_Rising⟩, ⟨trivial, ⟨trivial, ⟨trivial, ⟨trivial, ⟨⟨by kernel_rfl, chkFn_ok Try.func22 k_keys_Valid⟩, ⟨trivial, ⟨⟨by kernel_rfl, chkFn_ok Try.func26 k_ref33_Valid⟩, ⟨trivial, ⟨trivial, ⟨⟨by kernel_rfl, chkFn_ok Try.func38 k_keys_Valid_1⟩, ⟨⟨by kernel_rfl, chkFn_ok Try.func34 k_keys_roads⟩, ⟨⟨by kernel_rfl, chkFn_ok Try.func41 k_keys_boxed⟩, ⟨trivial, ⟨⟨by kernel_rfl, chkFn_ok Try.func49 k_keys_boxed_1⟩, ⟨trivial, ⟨trivial, ⟨trivial, ⟨trivial, ⟨trivial, ⟨trivial, ⟨trivial, ⟨trivial, ⟨trivial, ⟨trivial, ⟨trivial, ⟨trivial, ⟨trivial, ⟨trivial, ⟨trivial, ⟨trivial, ⟨trivial, ⟨trivial, ⟨trivial, ⟨trivial, ⟨trivial, ⟨trivial, ⟨trivial, ⟨trivial, ⟨trivial, ⟨trivial, ⟨trivial, ⟨trivial, ⟨trivial, ⟨trivial, ⟨trivial, ⟨trivial, ⟨trivial, ⟨trivial, ⟨trivial, ⟨trivial, ⟨trivial, ⟨trivial, ⟨trivial, ⟨trivial, ⟨trivial, ⟨trivial, ⟨trivial, ⟨trivial, ⟨trivial, ⟨trivial, ⟨trivial, ⟨trivial, ⟨trivial, ⟨trivial, ⟨trivial, ⟨trivial, ⟨trivial, ⟨trivial, ⟨trivial, ⟨trivial, ⟨trivial, ⟨trivial, ⟨trivial, ⟨trivial, ⟨trivial, ⟨trivial, ⟨trivial, ⟨trivial, ⟨trivial, ⟨trivial, ⟨trivial, ⟨trivial, ⟨trivial, ⟨trivial, ⟨trivial, ⟨trivial, ⟨trivial, ⟨trivial, ⟨trivial, ⟨trivial, ⟨trivial, ⟨trivial, ⟨trivial, ⟨trivial, ⟨trivial, ⟨trivial, ⟨trivial, ⟨trivial, ⟨⟨by kernel_rfl, chkFn_ok Try.func35 k_slices_Clone_int_int⟩, ⟨trivial, ⟨trivial, ⟨trivial, ⟨trivial, ⟨trivial, ⟨trivial, ⟨trivial, ⟨trivial, ⟨trivial, ⟨trivial, ⟨⟨by kernel_rfl, chkFn_ok Try.func3 k_law33_KeysMade⟩, ⟨trivial, ⟨trivial, ⟨⟨by kernel_rfl, chkFn_ok Try.func7 k_law33_awake⟩, ⟨⟨by kernel_rfl, chkFn_ok Try.func10 k_ref33_Start⟩, ⟨⟨by kernel_rfl, chkFn_ok Try.func11 k_law33_agree⟩, ⟨⟨by kernel_rfl, chkFn_ok Try.func12 k_law33_step⟩, ⟨⟨by kernel_rfl, chkFn_ok Try.func13 k_ref33_Copy⟩, ⟨⟨by kernel_rfl, chkFn_ok Try.func15 k_keys_Start⟩, ⟨⟨by kernel_rfl, chkFn_ok Try.func16 k_keys_Lock⟩, ⟨⟨by kernel_rfl, chkFn_ok Try.func17 k_keys_Insert⟩, ⟨⟨by kernel_rfl, chkFn_ok Try.func18 k_keys_Remove⟩, ⟨⟨by kernel_rfl, chkFn_ok Try.func19 k_keys_Unlock⟩, ⟨⟨by kernel_rfl, chkFn_ok Try.func20 k_keys_Draw⟩, ⟨⟨by kernel_rfl, chkFn_ok Try.func21 k_keys_Return⟩, ⟨⟨by kernel_rfl, chkFn_ok Try.func23 k_keys_Locked⟩, ⟨⟨by kernel_rfl, chkFn_ok Try.func24 k_ref33_Same⟩, ⟨⟨by kernel_rfl, chkFn_ok Try.func27 k_ref33_Locked⟩, ⟨⟨by kernel_rfl, chkFn_ok Try.func28 k_ref33_Lock⟩, ⟨⟨by kernel_rfl, chkFn_ok Try.func29 k_ref33_Insert⟩, ⟨⟨by kernel_rfl, chkFn_ok Try.func30 k_ref33_Remove⟩, ⟨⟨by kernel_rfl, chkFn_ok Try.func31 k_ref33_Unlock⟩, ⟨⟨by kernel_rfl, chkFn_ok Try.func32 k_ref33_Draw⟩, ⟨⟨by kernel_rfl, chkFn_ok Try.func33 k_ref33_Return⟩, ⟨⟨by kernel_rfl, chkFn_ok Try.func36 k_keys_move⟩, ⟨⟨by kernel_rfl, chkFn_ok Try.func37 k_keys_turn⟩, ⟨⟨by kernel_rfl, chkFn_ok Try.func42 k_slices_Sort_int_int⟩, ⟨⟨by kernel_rfl, chkFn_ok Try.func45 k_ref33_move⟩, ⟨⟨by kernel_rfl, chkFn_ok Try.func47 k_keys_copied⟩, ⟨⟨by kernel_rfl, chkFn_ok Try.func47 k_keys_copied_v1⟩, trivial⟩⟩⟩⟩⟩⟩⟩⟩⟩⟩⟩⟩⟩⟩⟩⟩⟩⟩⟩⟩⟩⟩⟩⟩⟩⟩⟩⟩⟩⟩⟩⟩⟩⟩⟩⟩⟩⟩⟩⟩⟩⟩⟩⟩⟩⟩⟩⟩⟩⟩⟩⟩⟩⟩⟩⟩⟩⟩⟩⟩⟩⟩⟩⟩⟩⟩⟩⟩⟩⟩⟩⟩⟩⟩⟩⟩⟩⟩⟩⟩⟩⟩⟩⟩⟩⟩⟩⟩⟩⟩⟩⟩⟩⟩⟩⟩⟩⟩⟩⟩⟩⟩⟩⟩⟩⟩⟩⟩⟩⟩⟩⟩⟩⟩⟩⟩⟩⟩⟩⟩⟩⟩⟩⟩⟩⟩⟩⟩⟩⟩⟩⟩⟩⟩⟩⟩⟩⟩⟩⟩⟩⟩⟩⟩⟩⟩⟩⟩⟩⟩⟩⟩⟩⟩⟩⟩⟩⟩⟩⟩⟩⟩⟩⟩⟩⟩⟩⟩⟩⟩⟩⟩⟩⟩⟩⟩⟩⟩⟩⟩⟩⟩⟩⟩⟩⟩⟩⟩⟩⟩⟩⟩⟩⟩⟩⟩⟩⟩⟩⟩⟩⟩⟩⟩⟩⟩⟩⟩⟩⟩⟩⟩⟩⟩⟩⟩⟩⟩⟩⟩⟩⟩⟩⟩⟩⟩⟩⟩⟩⟩⟩⟩⟩⟩⟩⟩⟩⟩⟩⟩⟩⟩⟩⟩⟩
def prims : List (Nat × List Nat) := [(241, [1])]
def laysSort_ren : Go.Shelf.Ren := ⟨fun | 189 => 42 | 125 => 51 | 257 => 50 | 128 => 61 | 129 => 62 | 294 => 52 | 295 => 53 | 296 => 54 | 297 => 55 | 298 => 56 | 299 => 57 | 216 => 58 | 300 => 59 | 301 => 60 | 328 => 63 | 329 => 64 | 330 => 65 | 331 => 66 | 332 => 67 | 215 => 68 | 343 => 69 | n => n, fun | 28 => 22 | 3 => 3 | 46 => 60 | 0 => 0 | 51 => 70 | 53 => 72 | 4 => 4 | 183 => 63 | 182 => 62 | 131 => 67 | 5 => 5 | 9 => 9 | 218 => 73 | 222 => 77 | 228 => 79 | 229 => 80 | n => n, fun | n => n⟩
theorem laysSort : Go.Proofs.Lays.n189 Try.prog laysSort_ren := {
  mixed := by kernel_rfl,
  f125 := Try.func51.trans (congrArg some (by kernel_rfl)),
  f128 := Try.func61.trans (congrArg some (by kernel_rfl)),
  f129 := Try.func62.trans (congrArg some (by kernel_rfl)),
  f189 := Try.func42.trans (congrArg some (by kernel_rfl)),
  f215 := Try.func68.trans (congrArg some (by kernel_rfl)),
  f216 := Try.func58.trans (congrArg some (by kernel_rfl)),
  f257 := Try.func50.trans (congrArg some (by kernel_rfl)),
  f294 := Try.func52.trans (congrArg some (by kernel_rfl)),
  f295 := Try.func53.trans (congrArg some (by kernel_rfl)),
  f296 := Try.func54.trans (congrArg some (by kernel_rfl)),
  f297 := Try.func55.trans (congrArg some (by kernel_rfl)),
  f298 := Try.func56.trans (congrArg some (by kernel_rfl)),
  f299 := Try.func57.trans (congrArg some (by kernel_rfl)),
  f300 := Try.func59.trans (congrArg some (by kernel_rfl)),
  f301 := Try.func60.trans (congrArg some (by kernel_rfl)),
  f328 := Try.func63.trans (congrArg some (by kernel_rfl)),
  f329 := Try.func64.trans (congrArg some (by kernel_rfl)),
  f330 := Try.func65.trans (congrArg some (by kernel_rfl)),
  f331 := Try.func66.trans (congrArg some (by kernel_rfl)),
  f332 := Try.func67.trans (congrArg some (by kernel_rfl)),
  f343 := Try.func69.trans (congrArg some (by kernel_rfl)),
  t0 := Try.underlying0,
  a0 := Try.isAgg0,
  z0 := Try.sizeOf0,
  v0 := Try.zeroValue0,
  t3 := Try.underlying3,
  a3 := Try.isAgg3,
  z3 := Try.sizeOf3,
  v3 := Try.zeroValue3,
  t4 := Try.underlying4,
  a4 := Try.isAgg4,
  z4 := Try.sizeOf4,
  v4 := Try.zeroValue4,
  t5 := Try.underlying5,
  a5 := Try.isAgg5,
  z5 := Try.sizeOf5,
  v5 := Try.zeroValue5,
  t9 := Try.underlying9,
  a9 := Try.isAgg9,
  z9 := Try.sizeOf9,
  v9 := Try.zeroValue9,
  t28 := Try.underlying22,
  a28 := Try.isAgg22,
  z28 := Try.sizeOf22,
  v28 := Try.zeroValue22,
  t46 := Try.underlying60,
  a46 := Try.isAgg60,
  z46 := Try.sizeOf60,
  v46 := Try.zeroValue60,
  t51 := Try.underlying70,
  a51 := Try.isAgg70,
  z51 := Try.sizeOf70,
  v51 := Try.zeroValue70,
  t53 := Try.underlying72,
  a53 := Try.isAgg72,
  z53 := Try.sizeOf72,
  v53 := Try.zeroValue72,
  t131 := Try.underlying67,
  a131 := Try.isAgg67,
  z131 := Try.sizeOf67,
  v131 := Try.zeroValue67,
  t182 := Try.underlying62,
  a182 := Try.isAgg62,
  z182 := Try.sizeOf62,
  v182 := Try.zeroValue62,
  t183 := Try.underlying63,
  a183 := Try.isAgg63,
  z183 := Try.sizeOf63,
  v183 := Try.zeroValue63,
  t218 := Try.underlying73,
  a218 := Try.isAgg73,
  z218 := Try.sizeOf73,
  v218 := Try.zeroValue73,
  t222 := Try.underlying77,
  a222 := Try.isAgg77,
  z222 := Try.sizeOf77,
  v222 := Try.zeroValue77,
  t228 := Try.underlying79,
  a228 := Try.isAgg79,
  z228 := Try.sizeOf79,
  v228 := Try.zeroValue79,
  t229 := Try.underlying80,
  a229 := Try.isAgg80,
  z229 := Try.sizeOf80,
  v229 := Try.zeroValue80 }
theorem prim_241 : ∀ j, Names.ρ 241 = some j → PrimOK Try.prog j [1] := fun j hj => by
  have e : (Names.ρ 241 : Option Nat) = some 42 := by kernel_rfl
  rw [e] at hj; cases hj; exact prim_sort laysSort
theorem prims_ok : ∀ x ∈ prims, ∀ j, Names.ρ x.1 = some j → PrimOK Try.prog j x.2 := by
  intro x hx
  simp only [prims, List.mem_cons, List.not_mem_nil, or_false] at hx
  rcases hx with rfl
  · exact prim_241
end Go.Proofs.Ytdmfagheaapamaa
