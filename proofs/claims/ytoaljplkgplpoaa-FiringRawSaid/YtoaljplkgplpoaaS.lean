/- MADE BY PROGRAM (lib.py): the numbers that the functions have in this program, and the check of each one. -/
import Derived.Test.YtoaljplkgplpoaaProg
import Derived.Test.YtoaljplkgplpoaaZ6
import Derived.KernelRfl
set_option linter.all false
set_option maxRecDepth 100000
namespace Go.Proofs.Ytoaljplkgplpoaa
open Go.Ev
def real : List (Option Nat) := [none, some 6, none, some 8, some 24, none, none, none, some 25, some 16, some 9, none, some 48, none, none, some 12, some 10, none, none, some 43, some 44, some 45, some 46, some 37, none, none, none, none, some 60, none, some 72, none, none, none, none, some 61, some 62, some 17, some 49, some 38, some 63, some 64, some 52, some 65, some 66, some 67, some 68, none, none, some 79, none, none, none, none, some 82, none, some 83, some 84, some 74, some 70, some 71, some 59, some 75, some 76, some 85, some 86, some 89, none, none, none, none, some 42, some 88, some 91, some 47, none, some 69, some 87, some 3, none, none, some 7, some 11, some 13, some 14, some 15, some 18, some 19, some 20, some 21, some 22, some 23, some 26, some 27, some 28, some 29, some 30, some 31, some 32, some 33, some 34, some 35, some 36, some 39, some 40, some 41, some 50, some 51, some 53, some 54, some 55, some 56, some 57, some 58, some 73, some 77, some 78, some 80, some 81, some 90, some 17, none, none]
def tab : List (Option Go.Ev.Fn) := [some K.law40_FireRulesStay, some K.made_Light, some K.law40_awake, some K.made_Roll, some K.made_Dice_Mine, some K.law40_some, some K.made_Dice_Spread, some K.made_Dice_Flows, some K.made_Dice_Belief, some K.made_Dice_Next, some K.made_Dice_Of, some K.firerules_Command, some K.ref23_Has, some K.ref26_Possible, some K.firerules_Drawn, some K.made_Dice_One, some K.made_Dice_Some, some K.ref28_Start, some K.ref28_Change, some K.ref26_Start, some K.ref26_Exchange, some K.ref26_See, some K.ref26_Absent, some K.made_Mod, some K.smoke_Filled, some K.firerules_meets, some K.firerules_near, some K.ref25_Possible, some K.ref01_Check, some K.ref28_Flows, some K.ref23_Set, some K.ref28_Close, some K.ref28_Copy, some K.ref28_Valid, some K.ref28_Travel, some K.ref26_proper, some K.ref25_Start, some K.ref26_Copy, some K.ref26_Valid, some K.ref26_CopyWorld, some K.ref26_meet, some K.ref25_Raise, some K.ref26_Tidy, some K.ref26_borne, some K.ref26_bearer, some K.ref25_See, some K.ref25_Absent, some K.lists_Where, some K.smoke_Filled_1, some K.slices_ContainsFunc_int_int, some K.firerules_meets_1, some K.slices_Contains_int_int, some K.firerules_near_1, some K.swaps_Possible, some K.ref01_Span, some K.ref28_Span, some K.ref25_inTime, some K.ref25_never, some K.ref25_Close, some K.ref26_Less, some K.ref25_Valid, some K.ref25_Copy, some K.ref23_SameInts, some K.ref25_Join, some K.ref25_asked, some K.ref25_close, some K.slices_IndexFunc_int_int, some K.slices_Index_int_int, some K.swaps_Possible_1, some K.slices_ContainsFunc_api_World_api_World, some K.swaps_Possible_1_1, some K.lists_In, some K.ref25_Plain, some K.ref25_lower, some K.ref03_Time, some K.slices_IndexFunc_api_World_api_World, some K.ref03_walked, some K.ref03_ends, some K.law34_FiringRaw, some K.law34_FiringMade, some K.law34_FiringNeeds, some K.law34_awake, some K.made_Dice_Ints, some K.law34_scene, some K.law34_agree, some K.law34_ready, some K.firing_Arm, some K.firing_Agree, some K.firing_Fire, some K.firing_Abort, some K.firing_Valid, some K.firing_Due, some K.ref32_Border, some K.ref32_Seal, some K.made_Last, some K.ref34_Arm, some K.ref34_Agree, some K.ref34_Fire, some K.ref34_Abort, some K.ref34_Valid, some K.firing_Safe, some K.ref34_Safe, some K.ref34_Due, some K.firing_request_check, some K.firing_timely, some K.lists_Rising, some K.ref32_Barred, some K.ref32_seal, some K.ref34_step, some K.ref34_blast, some K.keys_Valid, some K.area_Clear, some K.ref33_Valid, some K.ref32_Clear, some K.ref31_Copy, some K.keys_Valid_1, some K.keys_roads, some K.keys_boxed, some K.area_Clear_1, some K.keys_boxed_1, some K.ref26_Copy_v1, some K.ref26_Copy_v2, some K.ref26_CopyWorld_v2]
instance names : Names := ⟨fun f => (real[f]?).join⟩
instance lib : Lib := ⟨fun f => (tab[f]?).join⟩
instance has1 : Has1 := ⟨rfl, rfl, rfl, rfl, rfl, rfl, rfl, rfl, rfl, rfl, rfl, rfl, rfl, rfl, rfl, rfl, rfl, rfl, rfl, rfl, rfl, rfl, rfl, rfl, rfl, rfl, rfl, rfl, rfl, rfl, rfl, rfl, rfl, rfl, rfl, rfl, rfl⟩
instance has2 : Has2 := ⟨rfl, rfl, rfl, rfl, rfl, rfl, rfl, rfl, rfl, rfl, rfl, rfl, rfl, rfl, rfl, rfl, rfl, rfl, rfl, rfl, rfl, rfl, rfl, rfl, rfl, rfl, rfl, rfl, rfl, rfl, rfl, rfl, rfl, rfl, rfl, rfl, rfl, rfl, rfl, rfl, rfl⟩
instance has3 : Has3 := ⟨rfl, rfl, rfl, rfl, rfl, rfl, rfl, rfl, rfl, rfl, rfl, rfl, rfl, rfl, rfl, rfl, rfl, rfl, rfl, rfl, rfl⟩
instance has4 : Has4 := ⟨rfl, rfl, rfl, rfl, rfl, rfl, rfl, rfl, rfl, rfl, rfl, rfl, rfl, rfl, rfl, rfl, rfl, rfl, rfl, rfl, rfl, rfl, rfl, rfl⟩
theorem k_made_Light : chkFn Try.prog Try.f6 K.made_Light = true := by kernel_rfl
theorem k_made_Roll : chkFn Try.prog Try.f8 K.made_Roll = true := by kernel_rfl
theorem k_made_Dice_Mine : chkFn Try.prog Try.f24 K.made_Dice_Mine = true := by kernel_rfl
theorem k_made_Dice_Belief : chkFn Try.prog Try.f25 K.made_Dice_Belief = true := by kernel_rfl
theorem k_made_Dice_Next : chkFn Try.prog Try.f16 K.made_Dice_Next = true := by kernel_rfl
theorem k_made_Dice_Of : chkFn Try.prog Try.f9 K.made_Dice_Of = true := by kernel_rfl
theorem k_ref23_Has : chkFn Try.prog Try.f48 K.ref23_Has = true := by kernel_rfl
theorem k_made_Dice_One : chkFn Try.prog Try.f12 K.made_Dice_One = true := by kernel_rfl
theorem k_made_Dice_Some : chkFn Try.prog Try.f10 K.made_Dice_Some = true := by kernel_rfl
theorem k_ref26_Start : chkFn Try.prog Try.f43 K.ref26_Start = true := by kernel_rfl
theorem k_ref26_Exchange : chkFn Try.prog Try.f44 K.ref26_Exchange = true := by kernel_rfl
theorem k_ref26_See : chkFn Try.prog Try.f45 K.ref26_See = true := by kernel_rfl
theorem k_ref26_Absent : chkFn Try.prog Try.f46 K.ref26_Absent = true := by kernel_rfl
theorem k_made_Mod : chkFn Try.prog Try.f37 K.made_Mod = true := by kernel_rfl
theorem k_ref01_Check : chkFn Try.prog Try.f60 K.ref01_Check = true := by kernel_rfl
theorem k_ref23_Set : chkFn Try.prog Try.f72 K.ref23_Set = true := by kernel_rfl
theorem k_ref26_proper : chkFn Try.prog Try.f61 K.ref26_proper = true := by kernel_rfl
theorem k_ref25_Start : chkFn Try.prog Try.f62 K.ref25_Start = true := by kernel_rfl
theorem k_ref26_Copy : chkFn Try.prog Try.f17 K.ref26_Copy = true := by kernel_rfl
theorem k_ref26_Valid : chkFn Try.prog Try.f49 K.ref26_Valid = true := by kernel_rfl
theorem k_ref26_CopyWorld : chkFn Try.prog Try.f38 K.ref26_CopyWorld = true := by kernel_rfl
theorem k_ref26_meet : chkFn Try.prog Try.f63 K.ref26_meet = true := by kernel_rfl
theorem k_ref25_Raise : chkFn Try.prog Try.f64 K.ref25_Raise = true := by kernel_rfl
theorem k_ref26_Tidy : chkFn Try.prog Try.f52 K.ref26_Tidy = true := by kernel_rfl
theorem k_ref26_borne : chkFn Try.prog Try.f65 K.ref26_borne = true := by kernel_rfl
theorem k_ref26_bearer : chkFn Try.prog Try.f66 K.ref26_bearer = true := by kernel_rfl
theorem k_ref25_See : chkFn Try.prog Try.f67 K.ref25_See = true := by kernel_rfl
theorem k_ref25_Absent : chkFn Try.prog Try.f68 K.ref25_Absent = true := by kernel_rfl
theorem k_slices_ContainsFunc_int_int : chkFn Try.prog Try.f79 K.slices_ContainsFunc_int_int = true := by kernel_rfl
theorem k_ref01_Span : chkFn Try.prog Try.f82 K.ref01_Span = true := by kernel_rfl
theorem k_ref25_inTime : chkFn Try.prog Try.f83 K.ref25_inTime = true := by kernel_rfl
theorem k_ref25_never : chkFn Try.prog Try.f84 K.ref25_never = true := by kernel_rfl
theorem k_ref25_Close : chkFn Try.prog Try.f74 K.ref25_Close = true := by kernel_rfl
theorem k_ref26_Less : chkFn Try.prog Try.f70 K.ref26_Less = true := by kernel_rfl
theorem k_ref25_Valid : chkFn Try.prog Try.f71 K.ref25_Valid = true := by kernel_rfl
theorem k_ref25_Copy : chkFn Try.prog Try.f59 K.ref25_Copy = true := by kernel_rfl
theorem k_ref23_SameInts : chkFn Try.prog Try.f75 K.ref23_SameInts = true := by kernel_rfl
theorem k_ref25_Join : chkFn Try.prog Try.f76 K.ref25_Join = true := by kernel_rfl
theorem k_ref25_asked : chkFn Try.prog Try.f85 K.ref25_asked = true := by kernel_rfl
theorem k_ref25_close : chkFn Try.prog Try.f86 K.ref25_close = true := by kernel_rfl
theorem k_slices_IndexFunc_int_int : chkFn Try.prog Try.f89 K.slices_IndexFunc_int_int = true := by kernel_rfl
theorem k_lists_In : chkFn Try.prog Try.f42 K.lists_In = true := by kernel_rfl
theorem k_ref25_Plain : chkFn Try.prog Try.f88 K.ref25_Plain = true := by kernel_rfl
theorem k_ref25_lower : chkFn Try.prog Try.f91 K.ref25_lower = true := by kernel_rfl
theorem k_ref03_Time : chkFn Try.prog Try.f47 K.ref03_Time = true := by kernel_rfl
theorem k_ref03_walked : chkFn Try.prog Try.f69 K.ref03_walked = true := by kernel_rfl
theorem k_ref03_ends : chkFn Try.prog Try.f87 K.ref03_ends = true := by kernel_rfl
theorem k_law34_FiringRaw : chkFn Try.prog Try.f3 K.law34_FiringRaw = true := by kernel_rfl
theorem k_law34_awake : chkFn Try.prog Try.f7 K.law34_awake = true := by kernel_rfl
theorem k_made_Dice_Ints : chkFn Try.prog Try.f11 K.made_Dice_Ints = true := by kernel_rfl
theorem k_law34_scene : chkFn Try.prog Try.f13 K.law34_scene = true := by kernel_rfl
theorem k_law34_agree : chkFn Try.prog Try.f14 K.law34_agree = true := by kernel_rfl
theorem k_law34_ready : chkFn Try.prog Try.f15 K.law34_ready = true := by kernel_rfl
theorem k_firing_Arm : chkFn Try.prog Try.f18 K.firing_Arm = true := by kernel_rfl
theorem k_firing_Agree : chkFn Try.prog Try.f19 K.firing_Agree = true := by kernel_rfl
theorem k_firing_Fire : chkFn Try.prog Try.f20 K.firing_Fire = true := by kernel_rfl
theorem k_firing_Abort : chkFn Try.prog Try.f21 K.firing_Abort = true := by kernel_rfl
theorem k_firing_Valid : chkFn Try.prog Try.f22 K.firing_Valid = true := by kernel_rfl
theorem k_firing_Due : chkFn Try.prog Try.f23 K.firing_Due = true := by kernel_rfl
theorem k_ref32_Border : chkFn Try.prog Try.f26 K.ref32_Border = true := by kernel_rfl
theorem k_ref32_Seal : chkFn Try.prog Try.f27 K.ref32_Seal = true := by kernel_rfl
theorem k_made_Last : chkFn Try.prog Try.f28 K.made_Last = true := by kernel_rfl
theorem k_ref34_Arm : chkFn Try.prog Try.f29 K.ref34_Arm = true := by kernel_rfl
theorem k_ref34_Agree : chkFn Try.prog Try.f30 K.ref34_Agree = true := by kernel_rfl
theorem k_ref34_Fire : chkFn Try.prog Try.f31 K.ref34_Fire = true := by kernel_rfl
theorem k_ref34_Abort : chkFn Try.prog Try.f32 K.ref34_Abort = true := by kernel_rfl
theorem k_ref34_Valid : chkFn Try.prog Try.f33 K.ref34_Valid = true := by kernel_rfl
theorem k_firing_Safe : chkFn Try.prog Try.f34 K.firing_Safe = true := by kernel_rfl
theorem k_ref34_Safe : chkFn Try.prog Try.f35 K.ref34_Safe = true := by kernel_rfl
theorem k_ref34_Due : chkFn Try.prog Try.f36 K.ref34_Due = true := by kernel_rfl
theorem k_firing_request_check : chkFn Try.prog Try.f39 K.firing_request_check = true := by kernel_rfl
theorem k_firing_timely : chkFn Try.prog Try.f40 K.firing_timely = true := by kernel_rfl
theorem k_lists_Rising : chkFn Try.prog Try.f41 K.lists_Rising = true := by kernel_rfl
theorem k_ref32_Barred : chkFn Try.prog Try.f50 K.ref32_Barred = true := by kernel_rfl
theorem k_ref32_seal : chkFn Try.prog Try.f51 K.ref32_seal = true := by kernel_rfl
theorem k_ref34_step : chkFn Try.prog Try.f53 K.ref34_step = true := by kernel_rfl
theorem k_ref34_blast : chkFn Try.prog Try.f54 K.ref34_blast = true := by kernel_rfl
theorem k_keys_Valid : chkFn Try.prog Try.f55 K.keys_Valid = true := by kernel_rfl
theorem k_area_Clear : chkFn Try.prog Try.f56 K.area_Clear = true := by kernel_rfl
theorem k_ref33_Valid : chkFn Try.prog Try.f57 K.ref33_Valid = true := by kernel_rfl
theorem k_ref32_Clear : chkFn Try.prog Try.f58 K.ref32_Clear = true := by kernel_rfl
theorem k_ref31_Copy : chkFn Try.prog Try.f73 K.ref31_Copy = true := by kernel_rfl
theorem k_keys_Valid_1 : chkFn Try.prog Try.f77 K.keys_Valid_1 = true := by kernel_rfl
theorem k_keys_roads : chkFn Try.prog Try.f78 K.keys_roads = true := by kernel_rfl
theorem k_keys_boxed : chkFn Try.prog Try.f80 K.keys_boxed = true := by kernel_rfl
theorem k_area_Clear_1 : chkFn Try.prog Try.f81 K.area_Clear_1 = true := by kernel_rfl
theorem k_keys_boxed_1 : chkFn Try.prog Try.f90 K.keys_boxed_1 = true := by kernel_rfl
theorem k_ref26_Copy_v1 : chkFn Try.prog Try.f17 K.ref26_Copy_v1 = true := by kernel_rfl
theorem all_ok : AllOK Try.prog real tab :=
  ⟨trivial, ⟨⟨by kernel_rfl, chkFn_ok Try.func6 k_made_Light⟩, ⟨trivial, ⟨⟨by kernel_rfl, chkFn_ok Try.func8 k_made_Roll⟩, ⟨⟨by kernel_rfl, chkFn_ok Try.func24 k_made_Dice_Mine⟩, ⟨trivial, ⟨trivial, ⟨trivial, ⟨⟨by kernel_rfl, chkFn_ok Try.func25 k_made_Dice_Belief⟩, ⟨⟨by kernel_rfl, chkFn_ok Try.func16 k_made_Dice_Next⟩, ⟨⟨by kernel_rfl, chkFn_ok Try.func9 k_made_Dice_Of⟩, ⟨trivial, ⟨⟨by kernel_rfl, chkFn_ok Try.func48 k_ref23_Has⟩, ⟨trivial, ⟨trivial, ⟨⟨by kernel_rfl, chkFn_ok Try.func12 k_made_Dice_One⟩, ⟨⟨by kernel_rfl, chkFn_ok Try.func10 k_made_Dice_Some⟩, ⟨trivial, ⟨trivial, ⟨⟨by kernel_rfl, chkFn_ok Try.func43 k_ref26_Start⟩, ⟨⟨by kernel_rfl, chkFn_ok Try.func44 k_ref26_Exchange⟩, ⟨⟨by kernel_rfl, chkFn_ok Try.func45 k_ref26_See⟩, ⟨⟨by kernel_rfl, chkFn_ok Try.func46 k_ref26_Absent⟩, ⟨⟨by kernel_rfl, chkFn_ok Try.func37 k_made_Mod⟩, ⟨trivial, ⟨trivial, ⟨trivial, ⟨trivial, ⟨⟨by kernel_rfl, chkFn_ok Try.func60 k_ref01_Check⟩, ⟨trivial, ⟨⟨by kernel_rfl, chkFn_ok Try.func72 k_ref23_Set⟩, ⟨trivial, ⟨trivial, ⟨trivial, ⟨trivial, ⟨⟨by kernel_rfl, chkFn_ok Try.func61 k_ref26_proper⟩, ⟨⟨by kernel_rfl, chkFn_ok Try.func62 k_ref25_Start⟩, ⟨⟨by kernel_rfl, chkFn_ok Try.func17 k_ref26_Copy⟩, ⟨⟨by kernel_rfl, chkFn_ok Try.func49 k_ref26_Valid⟩, ⟨⟨by kernel_rfl, chkFn_ok Try.func38 k_ref26_CopyWorld⟩, ⟨⟨by kernel_rfl, chkFn_ok Try.func63 k_ref26_meet⟩, ⟨⟨by kernel_rfl, chkFn_ok Try.func64 k_ref25_Raise⟩, ⟨⟨by kernel_rfl, chkFn_ok Try.func52 k_ref26_Tidy⟩, ⟨⟨by kernel_rfl, chkFn_ok Try.func65 k_ref26_borne⟩, ⟨⟨by kernel_rfl, chkFn_ok Try.func66 k_ref26_bearer⟩, ⟨⟨by kernel_rfl, chkFn_ok Try.func67 k_ref25_See⟩, ⟨⟨by kernel_rfl, chkFn_ok Try.func68 k_ref25_Absent⟩, ⟨trivial, ⟨trivial, ⟨⟨by kernel_rfl, chkFn_ok Try.func79 k_slices_ContainsFunc_int_int⟩, ⟨trivial, ⟨trivial, ⟨trivial, ⟨trivial, ⟨⟨by kernel_rfl, chkFn_ok Try.func82 k_ref01_Span⟩, ⟨trivial, ⟨⟨by kernel_rfl, chkFn_ok Try.func83 k_ref25_inTime⟩, ⟨⟨by kernel_rfl, chkFn_ok Try.func84 k_ref25_never⟩, ⟨⟨by kernel_rfl, chkFn_ok Try.func74 k_ref25_Close⟩, ⟨⟨by kernel_rfl, chkFn_ok Try.func70 k_ref26_Less⟩, ⟨⟨by kernel_rfl, chkFn_ok Try.func71 k_ref25_Valid⟩, ⟨⟨by kernel_rfl, chkFn_ok Try.func59 k_ref25_Copy⟩, ⟨⟨by kernel_rfl, chkFn_ok Try.func75 k_ref23_SameInts⟩, ⟨⟨by kernel_rfl, chkFn_ok Try.func76 k_ref25_Join⟩, ⟨⟨by kernel_rfl, chkFn_ok Try.func85 k_ref25_asked⟩, ⟨⟨by kernel_rfl, chkFn_ok Try.func86 k_ref25_close⟩, ⟨⟨by kernel_rfl, chkFn_ok Try.func89 k_slices_IndexFunc_int_int⟩, ⟨trivial, ⟨trivial, ⟨trivial, ⟨trivial, ⟨⟨by kernel_rfl, chkFn_ok Try.func42 k_lists_In⟩, ⟨⟨by kernel_rfl, chkFn_ok Try.func88 k_ref25_Plain⟩, ⟨⟨by kernel_rfl, chkFn_ok Try.func91 k_ref25_lower⟩, ⟨⟨by kernel_rfl, chkFn_ok Try.func47 k_ref03_Time⟩, ⟨trivial, ⟨⟨by kernel_rfl, chkFn_ok Try.func69 k_ref03_walked⟩, ⟨⟨by kernel_rfl, chkFn_ok Try.func87 k_ref03_ends⟩, ⟨⟨by kernel_rfl, chkFn_ok Try.func3 k_law34_FiringRaw⟩, ⟨trivial, ⟨trivial, ⟨⟨by kernel_rfl, chkFn_ok Try.func7 k_law34_awake⟩, ⟨⟨by kernel_rfl, chkFn_ok Try.func11 k_made_Dice_Ints⟩, ⟨⟨by kernel_rfl, chkFn_ok Try.func13 k_law34_scene⟩, ⟨⟨by kernel_rfl, chkFn_ok Try.func14 k_law34_agree⟩, ⟨⟨by kernel_rfl, chkFn_ok Try.func15 k_law34_ready⟩, ⟨⟨by kernel_rfl, chkFn_ok Try.func18 k_firing_Arm⟩, ⟨⟨by kernel_rfl, chkFn_ok Try.func19 k_firing_Agree⟩, ⟨⟨by kernel_rfl, chkFn_ok Try.func20 k_firing_Fire⟩, ⟨⟨by kernel_rfl, chkFn_ok Try.func21 k_firing_Abort⟩, ⟨⟨by kernel_rfl, chkFn_ok Try.func22 k_firing_Valid⟩, ⟨⟨by kernel_rfl, chkFn_ok Try.func23 k_firing_Due⟩, ⟨⟨by kernel_rfl, chkFn_ok Try.func26 k_ref32_Border⟩, ⟨⟨by kernel_rfl, chkFn_ok Try.func27 k_ref32_Seal⟩, ⟨⟨by kernel_rfl, chkFn_ok Try.func28 k_made_Last⟩, ⟨⟨by kernel_rfl, chkFn_ok Try.func29 k_ref34_Arm⟩, ⟨⟨by kernel_rfl, chkFn_ok Try.func30 k_ref34_Agree⟩, ⟨⟨by kernel_rfl, chkFn_ok Try.func31 k_ref34_Fire⟩, ⟨⟨by kernel_rfl, chkFn_ok Try.func32 k_ref34_Abort⟩, ⟨⟨by kernel_rfl, chkFn_ok Try.func33 k_ref34_Valid⟩, ⟨⟨by kernel_rfl, chkFn_ok Try.func34 k_firing_Safe⟩, ⟨⟨by kernel_rfl, chkFn_ok Try.func35 k_ref34_Safe⟩, ⟨⟨by kernel_rfl, chkFn_ok Try.func36 k_ref34_Due⟩, ⟨⟨by kernel_rfl, chkFn_ok Try.func39 k_firing_request_check⟩, ⟨⟨by kernel_rfl, chkFn_ok Try.func40 k_firing_timely⟩, ⟨⟨by kernel_rfl, chkFn_ok Try.func41 k_lists_Rising⟩, ⟨⟨by kernel_rfl, chkFn_ok Try.func50 k_ref32_Barred⟩, ⟨⟨by kernel_rfl, chkFn_ok Try.func51 k_ref32_seal⟩, ⟨⟨by kernel_rfl, chkFn_ok Try.func53 k_ref34_step⟩, ⟨⟨by kernel_rfl, chkFn_ok Try.func54 k_ref34_blast⟩, ⟨⟨by kernel_rfl, chkFn_ok Try.func55 k_keys_Valid⟩, ⟨⟨by kernel_rfl, chkFn_ok Try.func56 k_area_Clear⟩, ⟨⟨by kernel_rfl, chkFn_ok Try.func57 k_ref33_Valid⟩, ⟨⟨by kernel_rfl, chkFn_ok Try.func58 k_ref32_Clear⟩, ⟨⟨by kernel_rfl, chkFn_ok Try.func73 k_ref31_Copy⟩, ⟨⟨by kernel_rfl, chkFn_ok Try.func77 k_keys_Valid_1⟩, ⟨⟨by kernel_rfl, chkFn_ok Try.func78 k_keys_roads⟩, ⟨⟨by kernel_rfl, chkFn_ok Try.func80 k_keys_boxed⟩, ⟨⟨by kernel_rfl, chkFn_ok Try.func81 k_area_Clear_1⟩, ⟨⟨by kernel_rfl, chkFn_ok Try.func90 k_keys_boxed_1⟩, ⟨⟨by kernel_rfl, chkFn_ok Try.func17 k_ref26_Copy_v1⟩, ⟨trivial, ⟨trivial, trivial⟩⟩⟩⟩⟩⟩⟩⟩⟩⟩⟩⟩⟩⟩⟩⟩⟩⟩⟩⟩⟩⟩⟩⟩⟩⟩⟩⟩⟩⟩⟩⟩⟩⟩⟩⟩⟩⟩⟩⟩⟩⟩⟩⟩⟩⟩⟩⟩⟩⟩⟩⟩⟩⟩⟩⟩⟩⟩⟩⟩⟩⟩⟩⟩⟩⟩⟩⟩⟩⟩⟩⟩⟩⟩⟩⟩⟩⟩⟩⟩⟩⟩⟩⟩⟩⟩⟩⟩⟩⟩⟩⟩⟩⟩⟩⟩⟩⟩⟩⟩⟩⟩⟩⟩⟩⟩⟩⟩⟩⟩⟩⟩⟩⟩⟩⟩⟩⟩⟩⟩⟩⟩⟩
end Go.Proofs.Ytoaljplkgplpoaa
