/- MADE BY PROGRAM (lib.py): the numbers that the functions have in this program, and the check of each one. -/
import Derived.Test.YtnmkojcfpmdajaaProg
import Derived.Test.YtnmkojcfpmdajaaZ6
import Derived.KernelRfl
set_option linter.all false
set_option maxRecDepth 100000
namespace Go.Proofs.Ytnmkojcfpmdajaa
open Go.Ev
def real : List (Option Nat) := [none, some 7, none, some 9, some 10, none, none, none, some 11, some 13, some 28, none, some 15, some 45, none, some 16, some 14, none, none, some 29, some 30, some 31, some 32, some 19, none, none, none, some 17, some 46, none, some 82, none, none, none, none, some 47, some 48, some 49, some 50, some 51, some 52, some 53, some 54, some 55, some 56, some 57, some 58, some 35, none, some 62, none, some 61, none, some 44, some 68, none, some 69, some 70, some 71, some 72, some 73, some 74, some 21, some 75, some 76, some 77, some 80, some 79, some 65, some 38, some 66, some 67, some 81, some 83, some 84, some 64, some 85, some 86, none, none, none, none, none, none, none, none, none, none, none, none, none, none, none, none, some 12, none, none, none, none, none, none, none, none, none, none, none, none, none, none, none, none, none, none, none, none, none, none, none, none, none, none, none, none, none, none, some 5, none, some 8, some 18, some 20, some 22, some 23, some 24, some 25, some 26, some 27, some 33, some 34, some 36, some 37, some 39, some 40, some 41, some 42, some 43, some 59, some 60, some 63, some 78]
def tab : List (Option Go.Ev.Fn) := [some K.law40_FireRulesStay, some K.made_Light, some K.law40_awake, some K.made_Roll, some K.made_Dice_Mine, some K.law40_some, some K.made_Dice_Spread, some K.made_Dice_Flows, some K.made_Dice_Belief, some K.made_Dice_Next, some K.made_Dice_Of, some K.firerules_Command, some K.ref23_Has, some K.ref26_Possible, some K.firerules_Drawn, some K.made_Dice_One, some K.made_Dice_Some, some K.ref28_Start, some K.ref28_Change, some K.ref26_Start, some K.ref26_Exchange, some K.ref26_See, some K.ref26_Absent, some K.made_Mod, some K.smoke_Filled, some K.firerules_meets, some K.firerules_near, some K.ref25_Possible, some K.ref01_Check, some K.ref28_Flows, some K.ref23_Set, some K.ref28_Close, some K.ref28_Copy, some K.ref28_Valid, some K.ref28_Travel, some K.ref26_proper, some K.ref25_Start, some K.ref26_Copy, some K.ref26_Valid, some K.ref26_CopyWorld, some K.ref26_meet, some K.ref25_Raise, some K.ref26_Tidy, some K.ref26_borne, some K.ref26_bearer, some K.ref25_See, some K.ref25_Absent, some K.lists_Where, some K.smoke_Filled_1, some K.slices_ContainsFunc_int_int, some K.firerules_meets_1, some K.slices_Contains_int_int, some K.firerules_near_1, some K.swaps_Possible, some K.ref01_Span, some K.ref28_Span, some K.ref25_inTime, some K.ref25_never, some K.ref25_Close, some K.ref26_Less, some K.ref25_Valid, some K.ref25_Copy, some K.ref23_SameInts, some K.ref25_Join, some K.ref25_asked, some K.ref25_close, some K.slices_IndexFunc_int_int, some K.slices_Index_int_int, some K.swaps_Possible_1, some K.slices_ContainsFunc_api_World_api_World, some K.swaps_Possible_1_1, some K.lists_In, some K.ref25_Plain, some K.ref25_lower, some K.ref03_Time, some K.slices_IndexFunc_api_World_api_World, some K.ref03_walked, some K.ref03_ends, some K.law34_FiringRaw, some K.law34_FiringMade, some K.law34_FiringNeeds, some K.law34_awake, some K.made_Dice_Ints, some K.law34_scene, some K.law34_agree, some K.law34_ready, some K.firing_Arm, some K.firing_Agree, some K.firing_Fire, some K.firing_Abort, some K.firing_Valid, some K.firing_Due, some K.ref32_Border, some K.ref32_Seal, some K.made_Last, some K.ref34_Arm, some K.ref34_Agree, some K.ref34_Fire, some K.ref34_Abort, none, none, none, none, none, none, none, none, none, none, none, none, none, none, none, none, none, none, none, none, none, none, none, none, some K.law27_HeadsMore, some K.law27_HeadsSplit, some K.law27_HeadsAll, some K.law27_HeadsTrue, some K.law27_awake, some K.heads_Count, some K.ref27_Count, some K.heads_Sure, some K.ref27_Sure, some K.heads_Maybe, some K.ref27_Maybe, some K.heads_Missing, some K.ref27_Missing, some K.heads_look, some K.ref27_state, some K.heads_persons, some K.heads_Sure_1, some K.heads_Sure_1_1, some K.ref27_people, some K.heads_Maybe_1, some K.heads_Maybe_1_1, some K.heads_Missing_1, some K.places_Possible, some K.heads_look_1, some K.heads_look_2, some K.places_Possible_1]
instance names : Names := ⟨fun f => (real[f]?).join⟩
instance lib : Lib := ⟨fun f => (tab[f]?).join⟩
instance has1 : Has1 := ⟨rfl, rfl, rfl, rfl, rfl, rfl, rfl, rfl, rfl, rfl, rfl, rfl, rfl, rfl, rfl, rfl, rfl, rfl, rfl, rfl, rfl, rfl, rfl, rfl, rfl, rfl, rfl, rfl, rfl, rfl, rfl, rfl, rfl, rfl, rfl, rfl, rfl⟩
instance has2 : Has2 := ⟨rfl, rfl, rfl, rfl, rfl, rfl, rfl, rfl, rfl, rfl, rfl, rfl, rfl, rfl, rfl, rfl, rfl, rfl, rfl, rfl, rfl, rfl, rfl, rfl, rfl, rfl, rfl, rfl, rfl, rfl, rfl, rfl, rfl, rfl, rfl, rfl, rfl, rfl, rfl, rfl, rfl⟩
instance has3 : Has3 := ⟨rfl, rfl, rfl, rfl, rfl, rfl, rfl, rfl, rfl, rfl, rfl, rfl, rfl, rfl, rfl, rfl, rfl, rfl, rfl, rfl, rfl⟩
instance has5 : Has5 := ⟨rfl, rfl, rfl, rfl, rfl, rfl, rfl, rfl, rfl, rfl, rfl, rfl, rfl, rfl, rfl, rfl, rfl, rfl, rfl, rfl, rfl, rfl, rfl, rfl, rfl, rfl⟩
theorem k_made_Light : chkFn Try.prog Try.f7 K.made_Light = true := by kernel_rfl
theorem k_made_Roll : chkFn Try.prog Try.f9 K.made_Roll = true := by kernel_rfl
theorem k_made_Dice_Mine : chkFn Try.prog Try.f10 K.made_Dice_Mine = true := by kernel_rfl
theorem k_made_Dice_Belief : chkFn Try.prog Try.f11 K.made_Dice_Belief = true := by kernel_rfl
theorem k_made_Dice_Next : chkFn Try.prog Try.f13 K.made_Dice_Next = true := by kernel_rfl
theorem k_made_Dice_Of : chkFn Try.prog Try.f28 K.made_Dice_Of = true := by kernel_rfl
theorem k_ref23_Has : chkFn Try.prog Try.f15 K.ref23_Has = true := by kernel_rfl
theorem k_ref26_Possible : chkFn Try.prog Try.f45 K.ref26_Possible = true := by kernel_rfl
theorem k_made_Dice_One : chkFn Try.prog Try.f16 K.made_Dice_One = true := by kernel_rfl
theorem k_made_Dice_Some : chkFn Try.prog Try.f14 K.made_Dice_Some = true := by kernel_rfl
theorem k_ref26_Start : chkFn Try.prog Try.f29 K.ref26_Start = true := by kernel_rfl
theorem k_ref26_Exchange : chkFn Try.prog Try.f30 K.ref26_Exchange = true := by kernel_rfl
theorem k_ref26_See : chkFn Try.prog Try.f31 K.ref26_See = true := by kernel_rfl
theorem k_ref26_Absent : chkFn Try.prog Try.f32 K.ref26_Absent = true := by kernel_rfl
theorem k_made_Mod : chkFn Try.prog Try.f19 K.made_Mod = true := by kernel_rfl
theorem k_ref25_Possible : chkFn Try.prog Try.f17 K.ref25_Possible = true := by kernel_rfl
theorem k_ref01_Check : chkFn Try.prog Try.f46 K.ref01_Check = true := by kernel_rfl
theorem k_ref23_Set : chkFn Try.prog Try.f82 K.ref23_Set = true := by kernel_rfl
theorem k_ref26_proper : chkFn Try.prog Try.f47 K.ref26_proper = true := by kernel_rfl
theorem k_ref25_Start : chkFn Try.prog Try.f48 K.ref25_Start = true := by kernel_rfl
theorem k_ref26_Copy : chkFn Try.prog Try.f49 K.ref26_Copy = true := by kernel_rfl
theorem k_ref26_Valid : chkFn Try.prog Try.f50 K.ref26_Valid = true := by kernel_rfl
theorem k_ref26_CopyWorld : chkFn Try.prog Try.f51 K.ref26_CopyWorld = true := by kernel_rfl
theorem k_ref26_meet : chkFn Try.prog Try.f52 K.ref26_meet = true := by kernel_rfl
theorem k_ref25_Raise : chkFn Try.prog Try.f53 K.ref25_Raise = true := by kernel_rfl
theorem k_ref26_Tidy : chkFn Try.prog Try.f54 K.ref26_Tidy = true := by kernel_rfl
theorem k_ref26_borne : chkFn Try.prog Try.f55 K.ref26_borne = true := by kernel_rfl
theorem k_ref26_bearer : chkFn Try.prog Try.f56 K.ref26_bearer = true := by kernel_rfl
theorem k_ref25_See : chkFn Try.prog Try.f57 K.ref25_See = true := by kernel_rfl
theorem k_ref25_Absent : chkFn Try.prog Try.f58 K.ref25_Absent = true := by kernel_rfl
theorem k_lists_Where : chkFn Try.prog Try.f35 K.lists_Where = true := by kernel_rfl
theorem k_slices_ContainsFunc_int_int : chkFn Try.prog Try.f62 K.slices_ContainsFunc_int_int = true := by kernel_rfl
theorem k_slices_Contains_int_int : chkFn Try.prog Try.f61 K.slices_Contains_int_int = true := by kernel_rfl
theorem k_swaps_Possible : chkFn Try.prog Try.f44 K.swaps_Possible = true := by kernel_rfl
theorem k_ref01_Span : chkFn Try.prog Try.f68 K.ref01_Span = true := by kernel_rfl
theorem k_ref25_inTime : chkFn Try.prog Try.f69 K.ref25_inTime = true := by kernel_rfl
theorem k_ref25_never : chkFn Try.prog Try.f70 K.ref25_never = true := by kernel_rfl
theorem k_ref25_Close : chkFn Try.prog Try.f71 K.ref25_Close = true := by kernel_rfl
theorem k_ref26_Less : chkFn Try.prog Try.f72 K.ref26_Less = true := by kernel_rfl
theorem k_ref25_Valid : chkFn Try.prog Try.f73 K.ref25_Valid = true := by kernel_rfl
theorem k_ref25_Copy : chkFn Try.prog Try.f74 K.ref25_Copy = true := by kernel_rfl
theorem k_ref23_SameInts : chkFn Try.prog Try.f21 K.ref23_SameInts = true := by kernel_rfl
theorem k_ref25_Join : chkFn Try.prog Try.f75 K.ref25_Join = true := by kernel_rfl
theorem k_ref25_asked : chkFn Try.prog Try.f76 K.ref25_asked = true := by kernel_rfl
theorem k_ref25_close : chkFn Try.prog Try.f77 K.ref25_close = true := by kernel_rfl
theorem k_slices_IndexFunc_int_int : chkFn Try.prog Try.f80 K.slices_IndexFunc_int_int = true := by kernel_rfl
theorem k_slices_Index_int_int : chkFn Try.prog Try.f79 K.slices_Index_int_int = true := by kernel_rfl
theorem k_swaps_Possible_1 : chkFn Try.prog Try.f65 K.swaps_Possible_1 = true := by kernel_rfl
theorem k_slices_ContainsFunc_api_World_api_World : chkFn Try.prog Try.f38 K.slices_ContainsFunc_api_World_api_World = true := by kernel_rfl
theorem k_swaps_Possible_1_1 : chkFn Try.prog Try.f66 K.swaps_Possible_1_1 = true := by kernel_rfl
theorem k_lists_In : chkFn Try.prog Try.f67 K.lists_In = true := by kernel_rfl
theorem k_ref25_Plain : chkFn Try.prog Try.f81 K.ref25_Plain = true := by kernel_rfl
theorem k_ref25_lower : chkFn Try.prog Try.f83 K.ref25_lower = true := by kernel_rfl
theorem k_ref03_Time : chkFn Try.prog Try.f84 K.ref03_Time = true := by kernel_rfl
theorem k_slices_IndexFunc_api_World_api_World : chkFn Try.prog Try.f64 K.slices_IndexFunc_api_World_api_World = true := by kernel_rfl
theorem k_ref03_walked : chkFn Try.prog Try.f85 K.ref03_walked = true := by kernel_rfl
theorem k_ref03_ends : chkFn Try.prog Try.f86 K.ref03_ends = true := by kernel_rfl
theorem k_made_Last : chkFn Try.prog Try.f12 K.made_Last = true := by kernel_rfl
theorem k_law27_HeadsAll : chkFn Try.prog Try.f5 K.law27_HeadsAll = true := by kernel_rfl
theorem k_law27_awake : chkFn Try.prog Try.f8 K.law27_awake = true := by kernel_rfl
theorem k_heads_Count : chkFn Try.prog Try.f18 K.heads_Count = true := by kernel_rfl
theorem k_ref27_Count : chkFn Try.prog Try.f20 K.ref27_Count = true := by kernel_rfl
theorem k_heads_Sure : chkFn Try.prog Try.f22 K.heads_Sure = true := by kernel_rfl
theorem k_ref27_Sure : chkFn Try.prog Try.f23 K.ref27_Sure = true := by kernel_rfl
theorem k_heads_Maybe : chkFn Try.prog Try.f24 K.heads_Maybe = true := by kernel_rfl
theorem k_ref27_Maybe : chkFn Try.prog Try.f25 K.ref27_Maybe = true := by kernel_rfl
theorem k_heads_Missing : chkFn Try.prog Try.f26 K.heads_Missing = true := by kernel_rfl
theorem k_ref27_Missing : chkFn Try.prog Try.f27 K.ref27_Missing = true := by kernel_rfl
theorem k_heads_look : chkFn Try.prog Try.f33 K.heads_look = true := by kernel_rfl
theorem k_ref27_state : chkFn Try.prog Try.f34 K.ref27_state = true := by kernel_rfl
theorem k_heads_persons : chkFn Try.prog Try.f36 K.heads_persons = true := by kernel_rfl
theorem k_heads_Sure_1 : chkFn Try.prog Try.f37 K.heads_Sure_1 = true := by kernel_rfl
theorem k_heads_Sure_1_1 : chkFn Try.prog Try.f39 K.heads_Sure_1_1 = true := by kernel_rfl
theorem k_ref27_people : chkFn Try.prog Try.f40 K.ref27_people = true := by kernel_rfl
theorem k_heads_Maybe_1 : chkFn Try.prog Try.f41 K.heads_Maybe_1 = true := by kernel_rfl
theorem k_heads_Maybe_1_1 : chkFn Try.prog Try.f42 K.heads_Maybe_1_1 = true := by kernel_rfl
theorem k_heads_Missing_1 : chkFn Try.prog Try.f43 K.heads_Missing_1 = true := by kernel_rfl
theorem k_places_Possible : chkFn Try.prog Try.f59 K.places_Possible = true := by kernel_rfl
theorem k_heads_look_1 : chkFn Try.prog Try.f60 K.heads_look_1 = true := by kernel_rfl
theorem k_heads_look_2 : chkFn Try.prog Try.f63 K.heads_look_2 = true := by kernel_rfl
theorem k_places_Possible_1 : chkFn Try.prog Try.f78 K.places_Possible_1 = true := by kernel_rfl
theorem all_ok : AllOK Try.prog real tab :=
  ⟨trivial, ⟨⟨by kernel_rfl, chkFn_ok Try.func7 k_made_Light⟩, ⟨trivial, ⟨⟨by kernel_rfl, chkFn_ok Try.func9 k_made_Roll⟩, ⟨⟨by kernel_rfl, chkFn_ok Try.func10 k_made_Dice_Mine⟩, ⟨trivial, ⟨trivial, ⟨trivial, ⟨⟨by kernel_rfl, chkFn_ok Try.func11 k_made_Dice_Belief⟩, ⟨⟨by kernel_rfl, chkFn_ok Try.func13 k_made_Dice_Next⟩, ⟨⟨by kernel_rfl, chkFn_ok Try.func28 k_made_Dice_Of⟩, ⟨trivial, ⟨⟨by kernel_rfl, chkFn_ok Try.func15 k_ref23_Has⟩, ⟨⟨by kernel_rfl, chkFn_ok Try.func45 k_ref26_Possible⟩, ⟨trivial, ⟨⟨by kernel_rfl, chkFn_ok Try.func16 k_made_Dice_One⟩, ⟨⟨by kernel_rfl, chkFn_ok Try.func14 k_made_Dice_Some⟩, ⟨trivial, ⟨trivial, ⟨⟨by kernel_rfl, chkFn_ok Try.func29 k_ref26_Start⟩, ⟨⟨by kernel_rfl, chkFn_ok Try.func30 k_ref26_Exchange⟩, ⟨⟨by kernel_rfl, chkFn_ok Try.func31 k_ref26_See⟩, ⟨⟨by kernel_rfl, chkFn_ok Try.func32 k_ref26_Absent⟩, ⟨⟨by kernel_rfl, chkFn_ok Try.func19 k_made_Mod⟩, ⟨trivial, ⟨trivial, ⟨trivial, ⟨⟨by kernel_rfl, chkFn_ok Try.func17 k_ref25_Possible⟩, ⟨⟨by kernel_rfl, chkFn_ok Try.func46 k_ref01_Check⟩, ⟨trivial, ⟨⟨by kernel_rfl, chkFn_ok Try.func82 k_ref23_Set⟩, ⟨trivial, ⟨trivial, ⟨trivial, ⟨trivial, ⟨⟨by kernel_rfl, chkFn_ok Try.func47 k_ref26_proper⟩, ⟨⟨by kernel_rfl, chkFn_ok Try.func48 k_ref25_Start⟩, ⟨⟨by kernel_rfl, chkFn_ok Try.func49 k_ref26_Copy⟩, ⟨⟨by kernel_rfl, chkFn_ok Try.func50 k_ref26_Valid⟩, ⟨⟨by kernel_rfl, chkFn_ok Try.func51 k_ref26_CopyWorld⟩, ⟨⟨by kernel_rfl, chkFn_ok Try.func52 k_ref26_meet⟩, ⟨⟨by kernel_rfl, chkFn_ok Try.func53 k_ref25_Raise⟩, ⟨⟨by kernel_rfl, chkFn_ok Try.func54 k_ref26_Tidy⟩, ⟨⟨by kernel_rfl, chkFn_ok Try.func55 k_ref26_borne⟩, ⟨⟨by kernel_rfl, chkFn_ok Try.func56 k_ref26_bearer⟩, ⟨⟨by kernel_rfl, chkFn_ok Try.func57 k_ref25_See⟩, ⟨⟨by kernel_rfl, chkFn_ok Try.func58 k_ref25_Absent⟩, ⟨⟨by kernel_rfl, chkFn_ok Try.func35 k_lists_Where⟩, ⟨trivial, ⟨⟨by kernel_rfl, chkFn_ok Try.func62 k_slices_ContainsFunc_int_int⟩, ⟨trivial, ⟨⟨by kernel_rfl, chkFn_ok Try.func61 k_slices_Contains_int_int⟩, ⟨trivial, ⟨⟨by kernel_rfl, chkFn_ok Try.func44 k_swaps_Possible⟩, ⟨⟨by kernel_rfl, chkFn_ok Try.func68 k_ref01_Span⟩, ⟨trivial, ⟨⟨by kernel_rfl, chkFn_ok Try.func69 k_ref25_inTime⟩, ⟨⟨by kernel_rfl, chkFn_ok Try.func70 k_ref25_never⟩, ⟨⟨by kernel_rfl, chkFn_ok Try.func71 k_ref25_Close⟩, ⟨⟨by kernel_rfl, chkFn_ok Try.func72 k_ref26_Less⟩, ⟨⟨by kernel_rfl, chkFn_ok Try.func73 k_ref25_Valid⟩, ⟨⟨by kernel_rfl, chkFn_ok Try.func74 k_ref25_Copy⟩, ⟨⟨by kernel_rfl, chkFn_ok Try.func21 k_ref23_SameInts⟩, ⟨⟨by kernel_rfl, chkFn_ok Try.func75 k_ref25_Join⟩, ⟨⟨by kernel_rfl, chkFn_ok Try.func76 k_ref25_asked⟩, ⟨⟨by kernel_rfl, chkFn_ok Try.func77 k_ref25_close⟩, ⟨⟨by kernel_rfl, chkFn_ok Try.func80 k_slices_IndexFunc_int_int⟩, ⟨⟨by kernel_rfl, chkFn_ok Try.func79 k_slices_Index_int_int⟩, ⟨⟨by kernel_rfl, chkFn_ok Try.func65 k_swaps_Possible_1⟩, ⟨⟨by kernel_rfl, chkFn_ok Try.func38 k_slices_ContainsFunc_api_World_api_World⟩, ⟨⟨by kernel_rfl, chkFn_ok Try.func66 k_swaps_Possible_1_1⟩, ⟨⟨by kernel_rfl, chkFn_ok Try.func67 k_lists_In⟩, ⟨⟨by kernel_rfl, chkFn_ok Try.func81 k_ref25_Plain⟩, ⟨⟨by kernel_rfl, chkFn_ok Try.func83 k_ref25_lower⟩, ⟨⟨by kernel_rfl, chkFn_ok Try.func84 k_ref03_Time⟩, ⟨⟨by kernel_rfl, chkFn_ok Try.func64 k_slices_IndexFunc_api_World_api_World⟩, ⟨⟨by kernel_rfl, chkFn_ok Try.func85 k_ref03_walked⟩, ⟨⟨by kernel_rfl, chkFn_ok Try.func86 k_ref03_ends⟩, ⟨trivial, ⟨trivial, ⟨trivial, ⟨trivial, ⟨trivial, ⟨trivial, ⟨trivial, ⟨trivial, ⟨trivial, ⟨trivial, ⟨trivial, ⟨trivial, ⟨trivial, ⟨trivial, ⟨trivial, ⟨trivial, ⟨⟨by kernel_rfl, chkFn_ok Try.func12 k_made_Last⟩, ⟨trivial, ⟨trivial, ⟨trivial, ⟨trivial, ⟨trivial, ⟨trivial, ⟨trivial, ⟨trivial, ⟨trivial, ⟨trivial, ⟨trivial, ⟨trivial, ⟨trivial, ⟨trivial, ⟨trivial, ⟨trivial, ⟨trivial, ⟨trivial, ⟨trivial, ⟨trivial, ⟨trivial, ⟨trivial, ⟨trivial, ⟨trivial, ⟨trivial, ⟨trivial, ⟨trivial, ⟨trivial, ⟨trivial, ⟨trivial, ⟨⟨by kernel_rfl, chkFn_ok Try.func5 k_law27_HeadsAll⟩, ⟨trivial, ⟨⟨by kernel_rfl, chkFn_ok Try.func8 k_law27_awake⟩, ⟨⟨by kernel_rfl, chkFn_ok Try.func18 k_heads_Count⟩, ⟨⟨by kernel_rfl, chkFn_ok Try.func20 k_ref27_Count⟩, ⟨⟨by kernel_rfl, chkFn_ok Try.func22 k_heads_Sure⟩, ⟨⟨by kernel_rfl, chkFn_ok Try.func23 k_ref27_Sure⟩, ⟨⟨by kernel_rfl, chkFn_ok Try.func24 k_heads_Maybe⟩, ⟨⟨by kernel_rfl, chkFn_ok Try.func25 k_ref27_Maybe⟩, ⟨⟨by kernel_rfl, chkFn_ok Try.func26 k_heads_Missing⟩, ⟨⟨by kernel_rfl, chkFn_ok Try.func27 k_ref27_Missing⟩, ⟨⟨by kernel_rfl, chkFn_ok Try.func33 k_heads_look⟩, ⟨⟨by kernel_rfl, chkFn_ok Try.func34 k_ref27_state⟩, ⟨⟨by kernel_rfl, chkFn_ok Try.func36 k_heads_persons⟩, ⟨⟨by kernel_rfl, chkFn_ok Try.func37 k_heads_Sure_1⟩, ⟨⟨by kernel_rfl, chkFn_ok Try.func39 k_heads_Sure_1_1⟩, ⟨⟨by kernel_rfl, chkFn_ok Try.func40 k_ref27_people⟩, ⟨⟨by kernel_rfl, chkFn_ok Try.func41 k_heads_Maybe_1⟩, ⟨⟨by kernel_rfl, chkFn_ok Try.func42 k_heads_Maybe_1_1⟩, ⟨⟨by kernel_rfl, chkFn_ok Try.func43 k_heads_Missing_1⟩, ⟨⟨by kernel_rfl, chkFn_ok Try.func59 k_places_Possible⟩, ⟨⟨by kernel_rfl, chkFn_ok Try.func60 k_heads_look_1⟩, ⟨⟨by kernel_rfl, chkFn_ok Try.func63 k_heads_look_2⟩, ⟨⟨by kernel_rfl, chkFn_ok Try.func78 k_places_Possible_1⟩, trivial⟩⟩⟩⟩⟩⟩⟩⟩⟩⟩⟩⟩⟩⟩⟩⟩⟩⟩⟩⟩⟩⟩⟩⟩⟩⟩⟩⟩⟩⟩⟩⟩⟩⟩⟩⟩⟩⟩⟩⟩⟩⟩⟩⟩⟩⟩⟩⟩⟩⟩⟩⟩⟩⟩⟩⟩⟩⟩⟩⟩⟩⟩⟩⟩⟩⟩⟩⟩⟩⟩⟩⟩⟩⟩⟩⟩⟩⟩⟩⟩⟩⟩⟩⟩⟩⟩⟩⟩⟩⟩⟩⟩⟩⟩⟩⟩⟩⟩⟩⟩⟩⟩⟩⟩⟩⟩⟩⟩⟩⟩⟩⟩⟩⟩⟩⟩⟩⟩⟩⟩⟩⟩⟩⟩⟩⟩⟩⟩⟩⟩⟩⟩⟩⟩⟩⟩⟩⟩⟩⟩⟩⟩⟩⟩⟩⟩⟩⟩⟩
end Go.Proofs.Ytnmkojcfpmdajaa
