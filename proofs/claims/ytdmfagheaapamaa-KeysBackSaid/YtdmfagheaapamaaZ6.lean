/- Parts of the proof: see the text that holds the theorem. -/
import Derived.Test.YtdmfagheaapamaaZ5
set_option linter.all false
set_option maxRecDepth 100000
/- MADE BY PROGRAM (lib.py): the compact code of functions. -/
namespace Go.Ev.K
open Go.Ev
def law25_PlacesLeast_l1b : C := (.seq (.ite [{ o := .mv (.v 8) }, { o := .fa (.v 4) 0 }, { o := .ld (.l 0) 1 false }, { o := .ln (.l 0) }, { o := .bin .lss (.l 3) (.l 0) }] [] 0 .skip (.exit 0)) (.seq (.blk 1 (.reg [{ o := .mv (.v 7) }, { o := .bs [.i 1099511627776] 1 }, { o := .app (.l 1) (.l 0) true 1 }, { o := .mv (.l 0), d := some 7 }] [])) (.reg [{ o := .mv (.v 8) }, { o := .bin .add (.l 0) (.i 1) }, { o := .mv (.l 0), d := some 8 }] [])))
def law25_PlacesLeast_l1 : C := .loop true [0, 1, 2, 3, 9, 10] K.law25_PlacesLeast_l1b
/-- /law25.PlacesLeast -/
def law25_PlacesLeast : Fn := { nargs := 2, vars := [0, 1, 4, 5, 6, 7, 8, 9, 10, 11, 12], body := (.seq (.reg [{ o := .mv (.b false), d := some 2 }] []) (.seq (.ite [{ o := .mv (.v 0) }, { o := .ca N.made_Light 0 [] [.l 0] }, { o := .un .not (.l 0) }] [] 0 (.seq (.reg [{ o := .ca N.law25_awake 0 [] [] }, { o := .mv (.l 0), d := some 2 }] []) .ret) .skip) (.seq (.reg [{ o := .mv (.v 0) }, { o := .ca N.made_Roll 0 [] [.l 0] }, { o := .mv (.l 0), d := some 3 }] []) (.seq (.reg [{ o := .mv (.v 3) }, { o := .ca N.made_Dice_Mine 0 [] [.l 0] }, { o := .al [.nil, .nil] [], d := some 4 }, { o := .st (.l 0) (.l 1) 2 [] }] []) (.seq (.reg [{ o := .mv (.v 3) }, { o := .fa (.v 4) 0 }, { o := .ld (.l 0) 1 false }, { o := .ln (.l 0) }, { o := .ca N.made_Dice_Next 0 [] [.l 3, .l 0] }, { o := .mv (.v 1) }, { o := .ca N.made_Mod 0 [] [.l 0, .i 100000] }, { o := .mv (.l 2), d := some 5 }, { o := .mv (.l 1), d := some 6 }] []) (.seq (.reg [{ o := .nw 1, d := some 7 }] []) (.seq (.seq (.reg [{ o := .mv (.i 0), d := some 8 }] []) (.blk 0 K.law25_PlacesLeast_l1)) (.seq (.reg [{ o := .mv (.v 7) }, { o := .mv (.v 5) }, { o := .mv (.v 6) }, { o := .ia (.l 2) (.l 1) 1 }, { o := .st (.l 0) (.l 1) 1 [] }] []) (.seq (.reg [{ o := .ld (.v 4) 2 true }, { o := .mv (.v 5) }, { o := .mv (.v 6) }, { o := .ca N.places_Start 0 [] [.l 2, .l 1, .l 0] }, { o := .mv (.l 0) }, { o := .ex (.l 0) 0 }, { o := .ex (.l 1) 1 }, { o := .al [.t (.int .i64 (0)), .nil] [], d := some 9 }, { o := .st (.l 0) (.l 2) 2 [] }, { o := .mv (.l 2), d := some 10 }] []) (.seq (.reg [{ o := .ca N.law25_awake 0 [] [] }, { o := .mv (.l 0) }, { o := .mv (.v 10), g := some (0, true) }, { o := .bin .eql (.l 0) (.i 0), g := some (1, true) }, { o := .pk (.l 2) (.l 0) (.b false) }, { o := .mv (.l 0) }, { o := .fa (.v 9) 0, g := some (0, true) }, { o := .ld (.l 0) 1 false, g := some (1, true) }, { o := .mv (.v 6), g := some (2, true) }, { o := .bin .eql (.l 1) (.l 0), g := some (3, true) }, { o := .pk (.l 4) (.l 0) (.b false) }, { o := .mv (.l 0) }, { o := .fa (.v 9) 1, g := some (0, true) }, { o := .ld (.l 0) 1 false, g := some (1, true) }, { o := .ld (.v 4) 2 true, g := some (2, true) }, { o := .mv (.v 7), g := some (3, true) }, { o := .ca N.ref03_Least 0 [] [.l 1, .l 0], g := some (4, true) }, { o := .ca N.ref23_SameInts 0 [] [.l 3, .l 0], g := some (5, true) }, { o := .pk (.l 6) (.l 0) (.b false) }, { o := .mv (.l 0), d := some 2 }] [(13, 17)]) .ret)))))))))), res := [(2, none)] }
def law25_PlacesJoins_l1b : C := (.seq (.ite [{ o := .mv (.v 13) }, { o := .fa (.v 4) 0 }, { o := .ld (.l 0) 1 false }, { o := .ln (.l 0) }, { o := .bin .lss (.l 3) (.l 0) }] [] 0 .skip (.exit 0)) (.seq (.blk 1 (.ite [{ o := .mv (.v 12) }, { o := .mv (.v 13) }, { o := .ca N.ref23_Has 0 [] [.l 1, .l 0] }, { o := .mv (.v 10) }, { o := .mv (.v 13) }, { o := .ca N.ref23_Has 0 [] [.l 1, .l 0] }, { o := .mv (.l 0) }, { o := .mv (.v 11), g := some (0, false) }, { o := .mv (.v 13), g := some (1, false) }, { o := .ca N.ref23_Has 0 [] [.l 1, .l 0], g := some (2, false) }, { o := .pk (.l 3) (.b true) (.l 0) }, { o := .eqk (.bool) true (.l 8) (.l 0) }] [] 0 (.seq (.reg [{ o := .mv (.b false), d := some 2 }] []) .ret) .skip)) (.reg [{ o := .mv (.v 13) }, { o := .bin .add (.l 0) (.i 1) }, { o := .mv (.l 0), d := some 13 }] [])))
def law25_PlacesJoins_l1 : C := .loop true [0, 1, 2, 3, 5, 6, 9] K.law25_PlacesJoins_l1b
/-- /law25.PlacesJoins -/
def law25_PlacesJoins : Fn := { nargs := 2, vars := [0, 1, 4, 5, 6, 7, 8, 9, 10, 11, 12, 13, 14, 15], body := (.seq (.reg [{ o := .mv (.b false), d := some 2 }] []) (.seq (.ite [{ o := .mv (.v 0) }, { o := .ca N.made_Light 0 [] [.l 0] }, { o := .un .not (.l 0) }] [] 0 (.seq (.reg [{ o := .ca N.law25_awake 0 [] [] }, { o := .mv (.l 0), d := some 2 }] []) .ret) .skip) (.seq (.reg [{ o := .mv (.v 0) }, { o := .ca N.made_Roll 0 [] [.l 0] }, { o := .mv (.l 0), d := some 3 }] []) (.seq (.reg [{ o := .mv (.v 3) }, { o := .ca N.made_Dice_Mine 0 [] [.l 0] }, { o := .al [.nil, .nil] [], d := some 4 }, { o := .st (.l 0) (.l 1) 2 [] }] []) (.seq (.reg [{ o := .al [.t (.int .i64 (0)), .nil] [], d := some 5 }, { o := .al [.t (.int .i64 (0)), .nil] [], d := some 6 }, { o := .mv (.v 3) }, { o := .ld (.v 4) 2 true }, { o := .ca N.made_Dice_Where 0 [] [.l 1, .l 0] }, { o := .mv (.v 3) }, { o := .ld (.v 4) 2 true }, { o := .ca N.made_Dice_Where 0 [] [.l 1, .l 0] }, { o := .st (.l 7) (.l 3) 2 [] }, { o := .st (.l 7) (.l 1) 2 [] }] [(0, 5), (0, 8), (1, 5), (1, 8), (6, 2)]) (.seq (.reg [{ o := .ld (.v 5) 2 true }, { o := .ld (.v 6) 2 true }, { o := .ca N.places_Join 0 [] [.l 1, .l 0] }, { o := .mv (.l 0) }, { o := .ex (.l 0) 0 }, { o := .ex (.l 1) 1 }, { o := .al [.t (.int .i64 (0)), .nil] [], d := some 7 }, { o := .st (.l 0) (.l 2) 2 [] }, { o := .mv (.l 2), d := some 8 }] []) (.seq (.reg [{ o := .fa (.v 5) 0 }, { o := .ld (.l 0) 1 false }, { o := .fa (.v 6) 0 }, { o := .ld (.l 0) 1 false }, { o := .mx [.l 2, .l 0] }, { o := .mv (.v 1) }, { o := .ca N.made_Mod 0 [] [.l 0, .i 200] }, { o := .bin .add (.l 2) (.l 0) }, { o := .mv (.l 0), d := some 9 }] [(1, 7), (3, 7)]) (.seq (.reg [{ o := .ld (.v 5) 2 true }, { o := .mv (.v 9) }, { o := .ca N.places_Possible 0 [] [.l 1, .l 0] }, { o := .ld (.v 6) 2 true }, { o := .mv (.v 9) }, { o := .ca N.places_Possible 0 [] [.l 1, .l 0] }, { o := .ld (.v 7) 2 true }, { o := .mv (.v 9) }, { o := .ca N.places_Possible 0 [] [.l 1, .l 0] }, { o := .mv (.l 6), d := some 10 }, { o := .mv (.l 4), d := some 11 }, { o := .mv (.l 2), d := some 12 }] [(3, 0), (6, 0), (6, 3)]) (.seq (.seq (.reg [{ o := .mv (.i 0), d := some 13 }] []) (.blk 0 K.law25_PlacesJoins_l1)) (.seq (.reg [{ o := .ca N.law25_awake 0 [] [] }, { o := .mv (.l 0) }, { o := .mv (.v 8), g := some (0, true) }, { o := .bin .eql (.l 0) (.i 0), g := some (1, true) }, { o := .pk (.l 2) (.l 0) (.b false) }, { o := .mv (.l 0) }, { o := .ld (.v 4) 2 true, g := some (0, true) }, { o := .ld (.v 7) 2 true, g := some (1, true) }, { o := .ca N.places_Valid 0 [] [.l 1, .l 0], g := some (2, true) }, { o := .pk (.l 3) (.l 0) (.b false) }, { o := .mv (.l 0), d := some 2 }] []) .ret)))))))))), res := [(2, none)] }
def law25_PlacesTrue_l2b : C := (.seq (.ite [{ o := .mv (.v 20) }, { o := .mv (.v 11) }, { o := .bin .leq (.l 1) (.l 0) }] [] 0 .skip (.exit 2)) (.seq (.blk 3 (.seq (.ite [{ o := .mv (.v 10) }, { o := .mv (.v 6) }, { o := .mv (.v 20) }, { o := .ia (.l 1) (.l 0) 1 }, { o := .ld (.l 0) 1 false }, { o := .ca N.ref23_Has 0 [] [.l 4, .l 0] }] [] 0 (.reg [{ o := .mv (.v 18) }, { o := .bin .add (.l 0) (.i 1) }, { o := .mv (.l 0), d := some 18 }] []) (.reg [{ o := .mv (.i 0), d := some 18 }] [])) (.reg [{ o := .mv (.v 19) }, { o := .mv (.v 18) }, { o := .mx [.l 1, .l 0] }, { o := .mv (.l 0), d := some 19 }] []))) (.reg [{ o := .mv (.v 20) }, { o := .bin .add (.l 0) (.i 1) }, { o := .mv (.l 0), d := some 20 }] [])))
def law25_PlacesTrue_l2 : C := .loop true [0, 1, 2, 5, 8, 9, 12, 13, 14, 15, 16, 21, 22] K.law25_PlacesTrue_l2b
def law25_PlacesTrue_l1b : C := (.seq (.ite [{ o := .mv (.v 9) }, { o := .bin .leq (.l 0) (.i 400) }] [] 0 .skip (.exit 0)) (.blk 1 (.seq (.ite [{ o := .ld (.v 7) 2 true }, { o := .mv (.v 9) }, { o := .ca N.places_Possible 0 [] [.l 1, .l 0] }, { o := .mv (.v 6) }, { o := .mv (.v 9) }, { o := .ia (.l 1) (.l 0) 1 }, { o := .ld (.l 0) 1 false }, { o := .ca N.ref23_Has 0 [] [.l 4, .l 0] }, { o := .un .not (.l 0) }] [(5, 0), (6, 0)] 0 (.seq (.reg [{ o := .mv (.b false), d := some 2 }] []) .ret) .skip) (.seq (.reg [{ o := .mv (.v 3) }, { o := .fa (.v 4) 0 }, { o := .ld (.l 0) 1 false }, { o := .ln (.l 0) }, { o := .ca N.made_Dice_Some 0 [] [.l 3, .l 0] }, { o := .mv (.l 0), d := some 10 }] []) (.seq (.reg [{ o := .mv (.v 9) }, { o := .bin .add (.l 0) (.i 1) }, { o := .mv (.v 3) }, { o := .ca N.made_Dice_Next 0 [] [.l 0, .i 60] }, { o := .bin .add (.l 2) (.l 0) }, { o := .mn [.l 0, .i 401] }, { o := .mv (.l 0), d := some 11 }] []) (.seq (.ite [{ o := .mv (.v 11) }, { o := .bin .gtr (.l 0) (.i 400) }] [] 0 (.exit 0) .skip) (.seq (.reg [{ o := .mv (.v 11) }, { o := .mv (.v 3) }, { o := .ca N.made_Dice_Next 0 [] [.l 0, .i 3] }, { o := .bin .sub (.l 2) (.l 0) }, { o := .mv (.l 0), d := some 12 }] []) (.seq (.ite [{ o := .mv (.v 10) }, { o := .ln (.l 0) }, { o := .bin .gtr (.l 0) (.i 0) }, { o := .mv (.l 0) }, { o := .mv (.v 12), g := some (0, true) }, { o := .bin .geq (.l 0) (.i 0), g := some (1, true) }, { o := .pk (.l 2) (.l 0) (.b false) }, { o := .mv (.l 0) }, { o := .mv (.v 10), g := some (0, true) }, { o := .mv (.v 6), g := some (1, true) }, { o := .mv (.v 12), g := some (2, true) }, { o := .ia (.l 1) (.l 0) 1, g := some (3, true) }, { o := .ld (.l 0) 1 false, g := some (4, true) }, { o := .ca N.ref23_Has 0 [] [.l 4, .l 0], g := some (5, true) }, { o := .pk (.l 6) (.l 0) (.b false) }] [] 0 (.seq (.reg [{ o := .mv (.v 12) }, { o := .mv (.v 3) }, { o := .ca N.made_Dice_Next 0 [] [.l 0, .i 4] }, { o := .bin .sub (.l 2) (.l 0) }, { o := .mx [.i 0, .l 0] }, { o := .mv (.v 11) }, { o := .mv (.v 12) }, { o := .mv (.v 3) }, { o := .ca N.made_Dice_Next 0 [] [.l 0, .i 4] }, { o := .bin .add (.l 2) (.l 0) }, { o := .mn [.l 4, .l 0] }, { o := .mv (.l 6), d := some 13 }, { o := .mv (.l 1), d := some 14 }] []) (.seq (.reg [{ o := .ld (.v 4) 2 true }, { o := .ld (.v 7) 2 true }, { o := .mv (.v 10) }, { o := .mv (.v 13) }, { o := .mv (.v 14) }, { o := .ca N.places_See 0 [] [.l 4, .l 3, .l 2, .l 1, .l 0] }, { o := .mv (.l 0) }, { o := .ex (.l 0) 0 }, { o := .ex (.l 1) 1 }, { o := .al [.t (.int .i64 (0)), .nil] [], d := some 15 }, { o := .st (.l 0) (.l 2) 2 [] }, { o := .mv (.l 2), d := some 16 }] []) (.ite [{ o := .mv (.v 16) }, { o := .bin .eql (.l 0) (.i 0) }] [] 0 (.reg [{ o := .ld (.v 15) 2 true }, { o := .st (.v 7) (.l 0) 2 [] }] []) (.ite [{ o := .mv (.v 16) }, { o := .bin .neq (.l 0) (.i 42) }] [] 0 (.seq (.reg [{ o := .mv (.b false), d := some 2 }] []) .ret) .skip)))) .skip) (.seq (.reg [{ o := .mv (.v 11) }, { o := .mv (.v 3) }, { o := .ca N.made_Dice_Next 0 [] [.l 0, .i 120] }, { o := .bin .sub (.l 2) (.l 0) }, { o := .mx [.i 0, .l 0] }, { o := .mv (.l 0), d := some 17 }, { o := .mv (.i 0), d := some 18 }, { o := .mv (.i 0), d := some 19 }] []) (.seq (.seq (.reg [{ o := .mv (.v 17) }, { o := .mv (.l 0), d := some 20 }] []) (.blk 2 K.law25_PlacesTrue_l2)) (.seq (.ite [{ o := .mv (.v 10) }, { o := .ln (.l 0) }, { o := .bin .gtr (.l 0) (.i 0) }] [] 0 (.seq (.reg [{ o := .al [.t (.int .i64 (0)), .nil] [], d := some 21 }, { o := .ld (.v 4) 2 true }, { o := .ld (.v 7) 2 true }, { o := .mv (.v 10) }, { o := .mv (.v 17) }, { o := .mv (.v 11) }, { o := .mv (.v 19) }, { o := .mv (.v 3) }, { o := .ca N.made_Dice_Next 0 [] [.l 0, .i 5] }, { o := .bin .add (.l 2) (.l 0) }, { o := .ca N.places_Absent 0 [] [.l 8, .l 7, .l 6, .l 5, .l 4, .l 0] }, { o := .mv (.l 0) }, { o := .ex (.l 0) 0 }, { o := .ex (.l 1) 1 }, { o := .st (.l 13) (.l 1) 2 [] }, { o := .mv (.l 1), d := some 22 }] [(0, 9), (0, 11), (1, 9), (2, 9)]) (.ite [{ o := .mv (.v 22) }, { o := .bin .eql (.l 0) (.i 0) }] [] 0 (.reg [{ o := .ld (.v 21) 2 true }, { o := .st (.v 7) (.l 0) 2 [] }] []) (.ite [{ o := .mv (.v 22) }, { o := .bin .neq (.l 0) (.i 42) }] [] 0 (.seq (.reg [{ o := .mv (.b false), d := some 2 }] []) .ret) .skip))) .skip) (.reg [{ o := .mv (.v 11) }, { o := .mv (.l 0), d := some 9 }] []))))))))))))
def law25_PlacesTrue_l1 : C := .loop true [0, 1, 2, 5, 8, 10, 11, 12, 13, 14, 15, 16, 17, 18, 19, 20, 21, 22] K.law25_PlacesTrue_l1b
/-- /law25.PlacesTrue -/
def law25_PlacesTrue : Fn := { nargs := 2, vars := [0, 1, 4, 5, 6, 7, 8, 9, 10, 11, 12, 13, 14, 15, 16, 17, 18, 19, 20, 21, 22, 23, 24], body := (.seq (.reg [{ o := .mv (.b false), d := some 2 }] []) (.seq (.ite [{ o := .mv (.v 0) }, { o := .ca N.made_Light 0 [] [.l 0] }, { o := .un .not (.l 0) }, { o := .mv (.l 0) }, { o := .mv (.v 1), g := some (0, false) }, { o := .ca N.made_Light 0 [] [.l 0], g := some (1, false) }, { o := .un .not (.l 0), g := some (2, false) }, { o := .pk (.l 3) (.b true) (.l 0) }] [] 0 (.seq (.reg [{ o := .ca N.law25_awake 0 [] [] }, { o := .mv (.l 0), d := some 2 }] []) .ret) .skip) (.seq (.reg [{ o := .mv (.v 0) }, { o := .ca N.made_Roll 0 [] [.l 0] }, { o := .mv (.l 0), d := some 3 }] []) (.seq (.reg [{ o := .mv (.v 3) }, { o := .ca N.made_Dice_Mine 0 [] [.l 0] }, { o := .al [.nil, .nil] [], d := some 4 }, { o := .st (.l 0) (.l 1) 2 [] }] []) (.seq (.reg [{ o := .mv (.v 3) }, { o := .fa (.v 4) 0 }, { o := .ld (.l 0) 1 false }, { o := .ln (.l 0) }, { o := .ca N.made_Dice_Next 0 [] [.l 3, .l 0] }, { o := .mv (.l 0), d := some 5 }] []) (.seq (.reg [{ o := .mv (.v 1) }, { o := .ca N.made_Roll 0 [] [.l 0] }, { o := .ld (.v 4) 2 true }, { o := .mv (.v 5) }, { o := .ca N.law25_walker 0 [] [.l 2, .l 1, .l 0, .i 0, .i 400] }, { o := .mv (.l 0), d := some 6 }] [(2, 0)]) (.seq (.reg [{ o := .ld (.v 4) 2 true }, { o := .mv (.v 5) }, { o := .ca N.places_Start 0 [] [.l 1, .l 0, .i 0] }, { o := .mv (.l 0) }, { o := .ex (.l 0) 0 }, { o := .ex (.l 1) 1 }, { o := .al [.t (.int .i64 (0)), .nil] [], d := some 7 }, { o := .st (.l 0) (.l 2) 2 [] }, { o := .mv (.l 2), d := some 8 }] []) (.seq (.ite [{ o := .mv (.v 8) }, { o := .bin .neq (.l 0) (.i 0) }] [] 0 (.seq (.reg [{ o := .mv (.b false), d := some 2 }] []) .ret) .skip) (.seq (.seq (.reg [{ o := .mv (.i 0), d := some 9 }] []) (.blk 0 K.law25_PlacesTrue_l1)) (.seq (.reg [{ o := .ca N.law25_awake 0 [] [] }, { o := .mv (.l 0), d := some 2 }] []) .ret)))))))))), res := [(2, none)] }
def law25_PlacesShift_l2b : C := (.seq (.ite [{ o := .mv (.v 17) }, { o := .fa (.v 7) 1 }, { o := .ld (.l 0) 1 false }, { o := .ln (.l 0) }, { o := .bin .lss (.l 3) (.l 0) }] [] 0 .skip (.exit 2)) (.seq (.blk 3 (.ite [{ o := .fa (.v 7) 1 }, { o := .ld (.l 0) 1 false }, { o := .mv (.v 17) }, { o := .ia (.l 1) (.l 0) 1 }, { o := .ld (.l 0) 1 false }, { o := .bin .lss (.l 0) (.i 1099511627776) }, { o := .mv (.l 0) }, { o := .fa (.v 9) 1, g := some (0, true) }, { o := .ld (.l 0) 1 false, g := some (1, true) }, { o := .mv (.v 17), g := some (2, true) }, { o := .ia (.l 1) (.l 0) 1, g := some (3, true) }, { o := .ld (.l 0) 1 false, g := some (4, true) }, { o := .fa (.v 7) 1, g := some (5, true) }, { o := .ld (.l 0) 1 false, g := some (6, true) }, { o := .mv (.v 17), g := some (7, true) }, { o := .ia (.l 1) (.l 0) 1, g := some (8, true) }, { o := .ld (.l 0) 1 false, g := some (9, true) }, { o := .mv (.v 5), g := some (10, true) }, { o := .bin .add (.l 1) (.l 0), g := some (11, true) }, { o := .bin .neq (.l 7) (.l 0), g := some (12, true) }, { o := .pk (.l 13) (.l 0) (.b false) }, { o := .mv (.l 0) }, { o := .fa (.v 7) 1, g := some (0, false) }, { o := .ld (.l 0) 1 false, g := some (1, false) }, { o := .mv (.v 17), g := some (2, false) }, { o := .ia (.l 1) (.l 0) 1, g := some (3, false) }, { o := .ld (.l 0) 1 false, g := some (4, false) }, { o := .bin .lss (.l 0) (.i 1099511627776), g := some (5, false) }, { o := .fa (.v 9) 1, g := some (6, false) }, { o := .ld (.l 0) 1 false, g := some (7, false) }, { o := .mv (.v 17), g := some (8, false) }, { o := .ia (.l 1) (.l 0) 1, g := some (9, false) }, { o := .ld (.l 0) 1 false, g := some (10, false) }, { o := .bin .lss (.l 0) (.i 1099511627776), g := some (11, false) }, { o := .eqk (.bool) true (.l 6) (.l 0), g := some (12, false) }, { o := .pk (.l 13) (.b true) (.l 0) }] [] 0 (.seq (.reg [{ o := .mv (.b false), d := some 2 }] []) .ret) .skip)) (.reg [{ o := .mv (.v 17) }, { o := .bin .add (.l 0) (.i 1) }, { o := .mv (.l 0), d := some 17 }] [])))
def law25_PlacesShift_l2 : C := .loop true [0, 1, 2, 6, 8, 10, 11, 13, 15, 16] K.law25_PlacesShift_l2b
def law25_PlacesShift_l1b : C := (.seq (.ite [{ o := .mv (.v 12) }, { o := .bin .gtr (.l 0) (.i 0) }] [] 0 .skip (.exit 0)) (.seq (.blk 1 (.seq (.reg [{ o := .mv (.v 11) }, { o := .mv (.v 3) }, { o := .ca N.made_Dice_Next 0 [] [.l 0, .i 60] }, { o := .bin .add (.l 2) (.l 0) }, { o := .mv (.l 0), d := some 13 }] []) (.seq (.reg [{ o := .mv (.v 13) }, { o := .mv (.v 3) }, { o := .ca N.made_Dice_Next 0 [] [.l 0, .i 90] }, { o := .bin .add (.l 2) (.l 0) }, { o := .mv (.l 0), d := some 14 }] []) (.seq (.reg [{ o := .mv (.v 3) }, { o := .fa (.v 4) 0 }, { o := .ld (.l 0) 1 false }, { o := .ln (.l 0) }, { o := .ca N.made_Dice_Some 0 [] [.l 3, .l 0] }, { o := .mv (.l 0), d := some 15 }] []) (.seq (.ite [{ o := .mv (.v 3) }, { o := .ca N.made_Dice_One 0 [] [.l 0, .i 2] }] [] 0 (.seq (.reg [{ o := .ld (.v 4) 2 true }, { o := .ld (.v 7) 2 true }, { o := .mv (.v 15) }, { o := .mv (.v 13) }, { o := .mv (.v 14) }, { o := .ca N.places_See 0 [] [.l 4, .l 3, .l 2, .l 1, .l 0] }, { o := .mv (.l 0) }, { o := .ex (.l 0) 0 }, { o := .ex (.l 1) 1 }, { o := .st (.v 7) (.l 1) 2 [] }, { o := .mv (.l 1), d := some 8 }] []) (.reg [{ o := .ld (.v 4) 2 true }, { o := .ld (.v 9) 2 true }, { o := .mv (.v 15) }, { o := .mv (.v 13) }, { o := .mv (.v 5) }, { o := .bin .add (.l 1) (.l 0) }, { o := .mv (.v 14) }, { o := .mv (.v 5) }, { o := .bin .add (.l 1) (.l 0) }, { o := .ca N.places_See 0 [] [.l 8, .l 7, .l 6, .l 3, .l 0] }, { o := .mv (.l 0) }, { o := .ex (.l 0) 0 }, { o := .ex (.l 1) 1 }, { o := .st (.v 9) (.l 1) 2 [] }, { o := .mv (.l 1), d := some 10 }] [])) (.seq (.reg [{ o := .mv (.v 3) }, { o := .ca N.made_Dice_Next 0 [] [.l 0, .i 60] }, { o := .mv (.l 0), d := some 16 }] []) (.seq (.reg [{ o := .ld (.v 4) 2 true }, { o := .ld (.v 7) 2 true }, { o := .mv (.v 15) }, { o := .mv (.v 13) }, { o := .mv (.v 14) }, { o := .mv (.v 16) }, { o := .ca N.places_Absent 0 [] [.l 5, .l 4, .l 3, .l 2, .l 1, .l 0] }, { o := .mv (.l 0) }, { o := .ex (.l 0) 0 }, { o := .ex (.l 1) 1 }, { o := .st (.v 7) (.l 1) 2 [] }, { o := .mv (.l 1), d := some 8 }] []) (.reg [{ o := .ld (.v 4) 2 true }, { o := .ld (.v 9) 2 true }, { o := .mv (.v 15) }, { o := .mv (.v 13) }, { o := .mv (.v 5) }, { o := .bin .add (.l 1) (.l 0) }, { o := .mv (.v 14) }, { o := .mv (.v 5) }, { o := .bin .add (.l 1) (.l 0) }, { o := .mv (.v 16) }, { o := .ca N.places_Absent 0 [] [.l 9, .l 8, .l 7, .l 4, .l 1, .l 0] }, { o := .mv (.l 0) }, { o := .ex (.l 0) 0 }, { o := .ex (.l 1) 1 }, { o := .st (.v 9) (.l 1) 2 [] }, { o := .mv (.l 1), d := some 10 }] [])))) (.seq (.ite [{ o := .mv (.v 8) }, { o := .mv (.v 10) }, { o := .bin .neq (.l 1) (.l 0) }, { o := .mv (.l 0) }, { o := .fa (.v 7) 1, g := some (0, false) }, { o := .ld (.l 0) 1 false, g := some (1, false) }, { o := .ln (.l 0), g := some (2, false) }, { o := .fa (.v 9) 1, g := some (3, false) }, { o := .ld (.l 0) 1 false, g := some (4, false) }, { o := .ln (.l 0), g := some (5, false) }, { o := .bin .neq (.l 3) (.l 0), g := some (6, false) }, { o := .pk (.l 7) (.b true) (.l 0) }, { o := .mv (.l 0) }, { o := .fa (.v 9) 0, g := some (0, false) }, { o := .ld (.l 0) 1 false, g := some (1, false) }, { o := .fa (.v 7) 0, g := some (2, false) }, { o := .ld (.l 0) 1 false, g := some (3, false) }, { o := .mv (.v 5), g := some (4, false) }, { o := .bin .add (.l 1) (.l 0), g := some (5, false) }, { o := .bin .neq (.l 4) (.l 0), g := some (6, false) }, { o := .pk (.l 7) (.b true) (.l 0) }] [] 0 (.seq (.reg [{ o := .mv (.b false), d := some 2 }] []) .ret) .skip) (.seq (.seq (.reg [{ o := .mv (.i 0), d := some 17 }] []) (.blk 2 K.law25_PlacesShift_l2)) (.reg [{ o := .mv (.v 14) }, { o := .mv (.l 0), d := some 11 }] [])))))))) (.reg [{ o := .mv (.v 12) }, { o := .bin .sub (.l 0) (.i 1) }, { o := .mv (.l 0), d := some 12 }] [])))
def law25_PlacesShift_l1 : C := .loop true [0, 1, 2, 6, 8, 10, 13, 14, 15, 16, 17] K.law25_PlacesShift_l1b
/-- /law25.PlacesShift -/
def law25_PlacesShift : Fn := { nargs := 2, vars := [0, 1, 4, 5, 6, 7, 8, 9, 10, 11, 12, 13, 14, 15, 16, 17, 18, 19], body := (.seq (.reg [{ o := .mv (.b false), d := some 2 }] []) (.seq (.ite [{ o := .mv (.v 0) }, { o := .ca N.made_Light 0 [] [.l 0] }, { o := .un .not (.l 0) }] [] 0 (.seq (.reg [{ o := .ca N.law25_awake 0 [] [] }, { o := .mv (.l 0), d := some 2 }] []) .ret) .skip) (.seq (.reg [{ o := .mv (.v 0) }, { o := .ca N.made_Roll 0 [] [.l 0] }, { o := .mv (.l 0), d := some 3 }] []) (.seq (.reg [{ o := .mv (.v 3) }, { o := .ca N.made_Dice_Mine 0 [] [.l 0] }, { o := .al [.nil, .nil] [], d := some 4 }, { o := .st (.l 0) (.l 1) 2 [] }] []) (.seq (.reg [{ o := .mv (.v 1) }, { o := .ca N.made_Mod 0 [] [.l 0, .i 100000] }, { o := .mv (.l 0), d := some 5 }] []) (.seq (.reg [{ o := .mv (.v 3) }, { o := .fa (.v 4) 0 }, { o := .ld (.l 0) 1 false }, { o := .ln (.l 0) }, { o := .ca N.made_Dice_Next 0 [] [.l 3, .l 0] }, { o := .mv (.l 0), d := some 6 }] []) (.seq (.reg [{ o := .ld (.v 4) 2 true }, { o := .mv (.v 6) }, { o := .ca N.places_Start 0 [] [.l 1, .l 0, .i 50] }, { o := .mv (.l 0) }, { o := .ex (.l 0) 0 }, { o := .ex (.l 1) 1 }, { o := .al [.t (.int .i64 (0)), .nil] [], d := some 7 }, { o := .st (.l 0) (.l 2) 2 [] }, { o := .mv (.l 2), d := some 8 }] []) (.seq (.reg [{ o := .ld (.v 4) 2 true }, { o := .mv (.v 6) }, { o := .mv (.v 5) }, { o := .bin .add (.i 50) (.l 0) }, { o := .ca N.places_Start 0 [] [.l 3, .l 2, .l 0] }, { o := .mv (.l 0) }, { o := .ex (.l 0) 0 }, { o := .ex (.l 1) 1 }, { o := .al [.t (.int .i64 (0)), .nil] [], d := some 9 }, { o := .st (.l 0) (.l 2) 2 [] }, { o := .mv (.l 2), d := some 10 }] []) (.seq (.ite [{ o := .mv (.v 8) }, { o := .bin .neq (.l 0) (.i 0) }, { o := .mv (.l 0) }, { o := .mv (.v 10), g := some (0, false) }, { o := .bin .neq (.l 0) (.i 0), g := some (1, false) }, { o := .pk (.l 2) (.b true) (.l 0) }] [] 0 (.seq (.reg [{ o := .mv (.b false), d := some 2 }] []) .ret) .skip) (.seq (.reg [{ o := .mv (.i 50), d := some 11 }] []) (.seq (.seq (.reg [{ o := .mv (.v 3) }, { o := .ca N.made_Dice_Next 0 [] [.l 0, .i 6] }, { o := .mv (.l 0), d := some 12 }] []) (.blk 0 K.law25_PlacesShift_l1)) (.seq (.reg [{ o := .ca N.law25_awake 0 [] [] }, { o := .mv (.l 0), d := some 2 }] []) .ret)))))))))))), res := [(2, none)] }
def law25_PlacesLess_l1b : C := (.seq (.ite [{ o := .mv (.v 15) }, { o := .fa (.v 4) 1 }, { o := .ld (.l 0) 1 false }, { o := .ln (.l 0) }, { o := .bin .lss (.l 3) (.l 0) }] [] 0 .skip (.exit 0)) (.seq (.blk 1 (.ite [{ o := .mv (.v 9) }, { o := .bin .eql (.l 0) (.i 0) }, { o := .mv (.l 0) }, { o := .fa (.v 8) 1, g := some (0, true) }, { o := .ld (.l 0) 1 false, g := some (1, true) }, { o := .ln (.l 0), g := some (2, true) }, { o := .fa (.v 4) 1, g := some (3, true) }, { o := .ld (.l 0) 1 false, g := some (4, true) }, { o := .ln (.l 0), g := some (5, true) }, { o := .bin .neq (.l 3) (.l 0), g := some (6, true) }, { o := .mv (.l 0), g := some (7, true) }, { o := .fa (.v 8) 1, g := some (0, false) }, { o := .ld (.l 0) 1 false, g := some (1, false) }, { o := .mv (.v 15), g := some (2, false) }, { o := .ia (.l 1) (.l 0) 1, g := some (3, false) }, { o := .ld (.l 0) 1 false, g := some (4, false) }, { o := .fa (.v 4) 1, g := some (5, false) }, { o := .ld (.l 0) 1 false, g := some (6, false) }, { o := .mv (.v 15), g := some (7, false) }, { o := .ia (.l 1) (.l 0) 1, g := some (8, false) }, { o := .ld (.l 0) 1 false, g := some (9, false) }, { o := .bin .lss (.l 5) (.l 0), g := some (10, false) }, { o := .pk (.l 11) (.b true) (.l 0), g := some (19, true) }, { o := .pk (.l 20) (.l 0) (.b false) }, { o := .mv (.l 0) }, { o := .mv (.v 11), g := some (0, false) }, { o := .bin .eql (.l 0) (.i 0), g := some (1, false) }, { o := .mv (.l 0), g := some (2, false) }, { o := .fa (.v 10) 1, g := some (0, true) }, { o := .ld (.l 0) 1 false, g := some (1, true) }, { o := .ln (.l 0), g := some (2, true) }, { o := .fa (.v 4) 1, g := some (3, true) }, { o := .ld (.l 0) 1 false, g := some (4, true) }, { o := .ln (.l 0), g := some (5, true) }, { o := .bin .neq (.l 3) (.l 0), g := some (6, true) }, { o := .mv (.l 0), g := some (7, true) }, { o := .fa (.v 10) 1, g := some (0, false) }, { o := .ld (.l 0) 1 false, g := some (1, false) }, { o := .mv (.v 15), g := some (2, false) }, { o := .ia (.l 1) (.l 0) 1, g := some (3, false) }, { o := .ld (.l 0) 1 false, g := some (4, false) }, { o := .fa (.v 4) 1, g := some (5, false) }, { o := .ld (.l 0) 1 false, g := some (6, false) }, { o := .mv (.v 15), g := some (7, false) }, { o := .ia (.l 1) (.l 0) 1, g := some (8, false) }, { o := .ld (.l 0) 1 false, g := some (9, false) }, { o := .bin .lss (.l 5) (.l 0), g := some (10, false) }, { o := .pk (.l 11) (.b true) (.l 0), g := some (19, true) }, { o := .pk (.l 20) (.l 0) (.b false), g := some (23, false) }, { o := .pk (.l 24) (.b true) (.l 0) }, { o := .mv (.l 0) }, { o := .fa (.v 13) 1, g := some (0, false) }, { o := .ld (.l 0) 1 false, g := some (1, false) }, { o := .mv (.v 15), g := some (2, false) }, { o := .ia (.l 1) (.l 0) 1, g := some (3, false) }, { o := .ld (.l 0) 1 false, g := some (4, false) }, { o := .fa (.v 4) 1, g := some (5, false) }, { o := .ld (.l 0) 1 false, g := some (6, false) }, { o := .mv (.v 15), g := some (7, false) }, { o := .ia (.l 1) (.l 0) 1, g := some (8, false) }, { o := .ld (.l 0) 1 false, g := some (9, false) }, { o := .bin .gtr (.l 5) (.l 0), g := some (10, false) }, { o := .pk (.l 11) (.b true) (.l 0) }] [] 0 (.seq (.reg [{ o := .mv (.b false), d := some 1 }] []) .ret) .skip)) (.reg [{ o := .mv (.v 15) }, { o := .bin .add (.l 0) (.i 1) }, { o := .mv (.l 0), d := some 15 }] [])))
def law25_PlacesLess_l1 : C := .loop true [0, 1, 2, 3, 5, 6, 7, 12, 14] K.law25_PlacesLess_l1b
/-- /law25.PlacesLess -/
def law25_PlacesLess : Fn := { nargs := 1, vars := [0, 2, 3, 4, 5, 6, 7, 8, 9, 10, 11, 12, 13, 14, 15, 16], body := (.seq (.reg [{ o := .mv (.b false), d := some 1 }] []) (.seq (.ite [{ o := .mv (.v 0) }, { o := .ca N.made_Light 0 [] [.l 0] }, { o := .un .not (.l 0) }] [] 0 (.seq (.reg [{ o := .ca N.law25_awake 0 [] [] }, { o := .mv (.l 0), d := some 1 }] []) .ret) .skip) (.seq (.reg [{ o := .mv (.v 0) }, { o := .ca N.made_Roll 0 [] [.l 0] }, { o := .mv (.l 0), d := some 2 }] []) (.seq (.reg [{ o := .mv (.v 2) }, { o := .ca N.made_Dice_Mine 0 [] [.l 0] }, { o := .al [.nil, .nil] [], d := some 3 }, { o := .st (.l 0) (.l 1) 2 [] }] []) (.seq (.reg [{ o := .mv (.v 2) }, { o := .ld (.v 3) 2 true }, { o := .ca N.made_Dice_Where 0 [] [.l 1, .l 0] }, { o := .al [.t (.int .i64 (0)), .nil] [], d := some 4 }, { o := .st (.l 0) (.l 1) 2 [] }] []) (.seq (.reg [{ o := .fa (.v 4) 0 }, { o := .ld (.l 0) 1 false }, { o := .mv (.v 2) }, { o := .ca N.made_Dice_Next 0 [] [.l 0, .i 60] }, { o := .bin .add (.l 2) (.l 0) }, { o := .mv (.l 0), d := some 5 }] [(1, 4)]) (.seq (.reg [{ o := .mv (.v 5) }, { o := .mv (.v 2) }, { o := .ca N.made_Dice_Next 0 [] [.l 0, .i 90] }, { o := .bin .add (.l 2) (.l 0) }, { o := .mv (.l 0), d := some 6 }] []) (.seq (.reg [{ o := .mv (.v 2) }, { o := .fa (.v 3) 0 }, { o := .ld (.l 0) 1 false }, { o := .ln (.l 0) }, { o := .ca N.made_Dice_Some 0 [] [.l 3, .l 0] }, { o := .mv (.l 0), d := some 7 }] []) (.seq (.reg [{ o := .ld (.v 3) 2 true }, { o := .ld (.v 4) 2 true }, { o := .mv (.v 7) }, { o := .mv (.v 5) }, { o := .mv (.v 6) }, { o := .ca N.places_See 0 [] [.l 4, .l 3, .l 2, .l 1, .l 0] }, { o := .mv (.l 0) }, { o := .ex (.l 0) 0 }, { o := .ex (.l 1) 1 }, { o := .al [.t (.int .i64 (0)), .nil] [], d := some 8 }, { o := .st (.l 0) (.l 2) 2 [] }, { o := .mv (.l 2), d := some 9 }] []) (.seq (.reg [{ o := .al [.t (.int .i64 (0)), .nil] [], d := some 10 }, { o := .ld (.v 3) 2 true }, { o := .ld (.v 4) 2 true }, { o := .mv (.v 7) }, { o := .mv (.v 5) }, { o := .mv (.v 6) }, { o := .mv (.v 2) }, { o := .ca N.made_Dice_Next 0 [] [.l 0, .i 60] }, { o := .ca N.places_Absent 0 [] [.l 6, .l 5, .l 4, .l 3, .l 2, .l 0] }, { o := .mv (.l 0) }, { o := .ex (.l 0) 0 }, { o := .ex (.l 1) 1 }, { o := .st (.l 11) (.l 1) 2 [] }, { o := .mv (.l 1), d := some 11 }] [(0, 8), (0, 9), (1, 8), (2, 8)]) (.seq (.reg [{ o := .ld (.v 3) 2 true }, { o := .al [.nil, .nil] [], d := some 12 }, { o := .st (.l 0) (.l 1) 2 [] }] []) (.seq (.reg [{ o := .fa (.v 3) 1 }, { o := .ld (.l 0) 1 false }, { o := .app (.c (.nil)) (.l 0) true 10 }, { o := .fa (.v 3) 0 }, { o := .ld (.l 0) 1 false }, { o := .ln (.l 0) }, { o := .bin .sub (.l 0) (.i 1) }, { o := .bd [.t (.int .i64 (0)), .t (.int .i64 (0))] [(0, 1, .i 1), (1, 1, .i 1)] }, { o := .bd [.t (.int .i64 (0)), .t (.int .i64 (0)), .t (.int .i64 (0)), .t (.int .i64 (0)), .t (.bool false), .t (.bool false), .t (.int .i64 (0)), .t (.int .i64 (0)), .t (.int .i64 (0)), .t (.int .i64 (0))] [(0, 1, .i 0), (1, 1, .l 1), (2, 1, .i 30), (3, 1, .i 1), (4, 1, .b true), (6, 2, .l 0)] }, { o := .bs [.l 0] 10 }, { o := .app (.l 7) (.l 0) true 10 }, { o := .fa (.v 12) 1 }, { o := .st (.l 0) (.l 1) 1 [] }] [(4, 0), (9, 0)]) (.seq (.reg [{ o := .ld (.v 12) 2 true }, { o := .ld (.v 4) 2 true }, { o := .fa (.v 4) 0 }, { o := .ld (.l 0) 1 false }, { o := .ca N.places_Renew 0 [] [.l 3, .l 2, .l 0] }, { o := .mv (.l 0) }, { o := .ex (.l 0) 0 }, { o := .ex (.l 1) 1 }, { o := .al [.t (.int .i64 (0)), .nil] [], d := some 13 }, { o := .st (.l 0) (.l 2) 2 [] }, { o := .mv (.l 2), d := some 14 }] []) (.seq (.ite [{ o := .fa (.v 3) 0 }, { o := .ld (.l 0) 1 false }, { o := .ln (.l 0) }, { o := .bin .lss (.l 0) (.i 2) }, { o := .mv (.l 0) }, { o := .mv (.v 14), g := some (0, false) }, { o := .bin .neq (.l 0) (.i 0), g := some (1, false) }, { o := .pk (.l 2) (.b true) (.l 0) }, { o := .mv (.l 0) }, { o := .fa (.v 13) 1, g := some (0, false) }, { o := .ld (.l 0) 1 false, g := some (1, false) }, { o := .ln (.l 0), g := some (2, false) }, { o := .fa (.v 4) 1, g := some (3, false) }, { o := .ld (.l 0) 1 false, g := some (4, false) }, { o := .ln (.l 0), g := some (5, false) }, { o := .bin .neq (.l 3) (.l 0), g := some (6, false) }, { o := .pk (.l 7) (.b true) (.l 0) }] [] 0 (.seq (.reg [{ o := .mv (.b false), d := some 1 }] []) .ret) .skip) (.seq (.seq (.reg [{ o := .mv (.i 0), d := some 15 }] []) (.blk 0 K.law25_PlacesLess_l1)) (.seq (.reg [{ o := .ca N.law25_awake 0 [] [] }, { o := .mv (.l 0), d := some 1 }] []) .ret)))))))))))))))), res := [(1, none)] }
/-- /law25.PlacesRaw -/
def law25_PlacesRaw : Fn := { nargs := 3, vars := [0, 1, 2, 4, 5, 6, 7, 8, 9, 10, 11, 12, 13, 14], body := (.seq (.reg [{ o := .bx (.v 1) 2, d := some 3 }, { o := .bx (.v 2) 3, d := some 4 }, { o := .mv (.b false), d := some 5 }] []) (.seq (.ite [{ o := .mv (.v 0) }, { o := .ca N.made_Light 0 [] [.l 0] }, { o := .un .not (.l 0) }, { o := .mv (.l 0) }, { o := .fa (.v 3) 1, g := some (0, false) }, { o := .ld (.l 0) 1 false, g := some (1, false) }, { o := .ln (.l 0), g := some (2, false) }, { o := .bin .gtr (.l 0) (.i 100), g := some (3, false) }, { o := .pk (.l 4) (.b true) (.l 0) }] [] 0 (.seq (.reg [{ o := .ca N.law25_awake 0 [] [] }, { o := .mv (.l 0), d := some 5 }] []) .ret) .skip) (.seq (.reg [{ o := .mv (.v 0) }, { o := .ca N.made_Roll 0 [] [.l 0] }, { o := .mv (.l 0), d := some 6 }] []) (.seq (.reg [{ o := .mv (.v 6) }, { o := .ca N.made_Dice_Mine 0 [] [.l 0] }, { o := .al [.nil, .nil] [], d := some 7 }, { o := .st (.l 0) (.l 1) 2 [] }] []) (.seq (.reg [{ o := .mv (.v 6) }, { o := .ld (.v 7) 2 true }, { o := .ca N.made_Dice_Where 0 [] [.l 1, .l 0] }, { o := .al [.t (.int .i64 (0)), .nil] [], d := some 8 }, { o := .st (.l 0) (.l 1) 2 [] }] []) (.seq (.reg [{ o := .mv (.v 6) }, { o := .fa (.v 7) 0 }, { o := .ld (.l 0) 1 false }, { o := .ln (.l 0) }, { o := .ca N.made_Dice_Some 1 [] [.l 3, .l 0] }, { o := .mv (.l 0), d := some 9 }] []) (.seq (.reg [{ o := .ld (.v 7) 2 true }, { o := .iaa (.v 4) (.i 0) 3 1 }, { o := .ld (.l 0) 1 false }, { o := .iaa (.v 4) (.i 1) 3 1 }, { o := .ld (.l 0) 1 false }, { o := .ca N.places_Start 0 [] [.l 4, .l 2, .l 0] }, { o := .mv (.l 0) }, { o := .ex (.l 0) 0 }, { o := .ex (.l 1) 1 }, { o := .al [.t (.int .i64 (0)), .nil] [], d := some 10 }, { o := .st (.l 0) (.l 2) 2 [] }, { o := .mv (.l 2), d := some 11 }] []) (.seq (.reg [{ o := .ld (.v 7) 2 true }, { o := .iaa (.v 4) (.i 0) 3 1 }, { o := .ld (.l 0) 1 false }, { o := .iaa (.v 4) (.i 1) 3 1 }, { o := .ld (.l 0) 1 false }, { o := .ca N.ref25_Start 0 [] [.l 4, .l 2, .l 0] }, { o := .mv (.l 0) }, { o := .ex (.l 0) 0 }, { o := .ex (.l 1) 1 }, { o := .al [.t (.int .i64 (0)), .nil] [], d := some 12 }, { o := .st (.l 0) (.l 2) 2 [] }, { o := .mv (.l 2), d := some 13 }] []) (.seq (.reg [{ o := .ca N.law25_awake 0 [] [] }, { o := .mv (.l 0) }, { o := .ld (.v 7) 2 true, g := some (0, true) }, { o := .ld (.v 3) 2 true, g := some (1, true) }, { o := .ld (.v 8) 2 true, g := some (2, true) }, { o := .mv (.v 9), g := some (3, true) }, { o := .ld (.v 4) 3 true, g := some (4, true) }, { o := .ca N.law25_agree 0 [] [.l 4, .l 3, .l 2, .l 1, .l 0], g := some (5, true) }, { o := .pk (.l 6) (.l 0) (.b false) }, { o := .mv (.l 0) }, { o := .ld (.v 7) 2 true, g := some (0, true) }, { o := .ld (.v 8) 2 true, g := some (1, true) }, { o := .ld (.v 3) 2 true, g := some (2, true) }, { o := .fa (.v 3) 1, g := some (3, true) }, { o := .ld (.l 0) 1 false, g := some (4, true) }, { o := .ld (.v 4) 3 true, g := some (5, true) }, { o := .ca N.law25_agree 0 [] [.l 5, .l 4, .l 3, .l 1, .l 0], g := some (6, true) }, { o := .pk (.l 7) (.l 0) (.b false) }, { o := .mv (.l 0) }, { o := .ld (.v 7) 2 true, g := some (0, true) }, { o := .ld (.v 8) 2 true, g := some (1, true) }, { o := .ld (.v 8) 2 true, g := some (2, true) }, { o := .mv (.v 9), g := some (3, true) }, { o := .iaa (.v 4) (.i 2) 3 1, g := some (4, true) }, { o := .ld (.l 0) 1 false, g := some (5, true) }, { o := .bs [.l 0] 1, g := some (6, true) }, { o := .app (.l 3) (.l 0) true 1, g := some (7, true) }, { o := .ld (.v 4) 3 true, g := some (8, true) }, { o := .ca N.law25_agree 0 [] [.l 8, .l 7, .l 6, .l 1, .l 0], g := some (9, true) }, { o := .pk (.l 10) (.l 0) (.b false) }, { o := .mv (.l 0) }, { o := .mv (.v 11), g := some (0, true) }, { o := .mv (.v 13), g := some (1, true) }, { o := .bin .eql (.l 1) (.l 0), g := some (2, true) }, { o := .pk (.l 3) (.l 0) (.b false) }, { o := .mv (.l 0) }, { o := .ld (.v 10) 2 true, g := some (0, true) }, { o := .ld (.v 12) 2 true, g := some (1, true) }, { o := .ca N.ref25_Same 0 [] [.l 1, .l 0], g := some (2, true) }, { o := .pk (.l 3) (.l 0) (.b false) }, { o := .mv (.l 0), d := some 5 }] [(19, 26), (19, 27), (20, 26), (20, 27), (21, 26), (21, 27), (27, 17), (27, 26)]) .ret))))))))), res := [(5, none)] }
def law25_PlacesMade_l1b : C := (.seq (.ite [{ o := .mv (.v 6) }, { o := .bin .lss (.l 0) (.i 3) }] [] 0 .skip (.exit 0)) (.seq (.blk 1 (.seq (.reg [{ o := .fa (.v 4) 0 }, { o := .ld (.l 0) 1 false }, { o := .mv (.v 2) }, { o := .bs [.i 0, .i (-1), .i 5, .i 30, .i 100] 1 }, { o := .ca N.made_Dice_Of 0 [] [.l 1, .l 0] }, { o := .bin .add (.l 3) (.l 0) }, { o := .mv (.l 0), d := some 7 }] [(1, 4), (1, 5)]) (.ite [{ o := .ld (.v 3) 2 true }, { o := .ld (.v 4) 2 true }, { o := .ld (.v 5) 2 true }, { o := .mv (.v 2) }, { o := .fa (.v 3) 0 }, { o := .ld (.l 0) 1 false }, { o := .ln (.l 0) }, { o := .ca N.made_Dice_Some 0 [] [.l 3, .l 0] }, { o := .mv (.v 7) }, { o := .mv (.v 7) }, { o := .mv (.v 2) }, { o := .bs [.i 0, .i 10, .i 60, .i 200, .i (-1)] 1 }, { o := .ca N.made_Dice_Of 0 [] [.l 1, .l 0] }, { o := .bin .add (.l 3) (.l 0) }, { o := .mv (.v 2) }, { o := .bs [.i 0, .i 5, .i 30, .i 100] 1 }, { o := .ca N.made_Dice_Of 0 [] [.l 1, .l 0] }, { o := .bd [.t (.int .i64 (0)), .t (.int .i64 (0)), .t (.int .i64 (0))] [(0, 1, .l 8), (1, 1, .l 3), (2, 1, .l 0)] }, { o := .ca N.law25_agree 0 [] [.l 17, .l 16, .l 15, .l 10, .l 0] }, { o := .un .not (.l 0) }] [(0, 8), (0, 13), (0, 17), (1, 8), (1, 13), (1, 17), (2, 8), (2, 13), (2, 17), (11, 0), (15, 0), (15, 8)] 0 (.seq (.reg [{ o := .mv (.b false), d := some 1 }] []) .ret) .skip))) (.reg [{ o := .mv (.v 6) }, { o := .bin .add (.l 0) (.i 1) }, { o := .mv (.l 0), d := some 6 }] [])))
def law25_PlacesMade_l1 : C := .loop true [0, 1, 7, 8, 9, 10, 11] K.law25_PlacesMade_l1b
/-- /law25.PlacesMade -/
def law25_PlacesMade : Fn := { nargs := 1, vars := [0, 2, 3, 4, 5, 6, 7, 8, 9, 10, 11, 12], body := (.seq (.reg [{ o := .mv (.b false), d := some 1 }] []) (.seq (.ite [{ o := .mv (.v 0) }, { o := .ca N.made_Light 0 [] [.l 0] }, { o := .un .not (.l 0) }] [] 0 (.seq (.reg [{ o := .ca N.law25_awake 0 [] [] }, { o := .mv (.l 0), d := some 1 }] []) .ret) .skip) (.seq (.reg [{ o := .mv (.v 0) }, { o := .ca N.made_Roll 0 [] [.l 0] }, { o := .mv (.l 0), d := some 2 }] []) (.seq (.reg [{ o := .mv (.v 2) }, { o := .ca N.made_Dice_Mine 0 [] [.l 0] }, { o := .al [.nil, .nil] [], d := some 3 }, { o := .st (.l 0) (.l 1) 2 [] }] []) (.seq (.reg [{ o := .al [.t (.int .i64 (0)), .nil] [], d := some 4 }, { o := .al [.t (.int .i64 (0)), .nil] [], d := some 5 }, { o := .mv (.v 2) }, { o := .ld (.v 3) 2 true }, { o := .ca N.made_Dice_Where 0 [] [.l 1, .l 0] }, { o := .mv (.v 2) }, { o := .ld (.v 3) 2 true }, { o := .ca N.made_Dice_Where 0 [] [.l 1, .l 0] }, { o := .st (.l 7) (.l 3) 2 [] }, { o := .st (.l 7) (.l 1) 2 [] }] [(0, 5), (0, 8), (1, 5), (1, 8), (6, 2)]) (.seq (.seq (.reg [{ o := .mv (.i 0), d := some 6 }] []) (.blk 0 K.law25_PlacesMade_l1)) (.seq (.reg [{ o := .ld (.v 3) 2 true }, { o := .al [.nil, .nil] [], d := some 8 }, { o := .st (.l 0) (.l 1) 2 [] }] []) (.seq (.reg [{ o := .fa (.v 3) 1 }, { o := .ld (.l 0) 1 false }, { o := .app (.c (.nil)) (.l 0) true 10 }, { o := .fa (.v 8) 1 }, { o := .st (.l 0) (.l 1) 1 [] }] []) (.seq (.ite [{ o := .fa (.v 8) 1 }, { o := .ld (.l 0) 1 false }, { o := .ln (.l 0) }, { o := .bin .gtr (.l 0) (.i 0) }] [] 0 (.seq (.reg [{ o := .mv (.v 2) }, { o := .fa (.v 8) 1 }, { o := .ld (.l 0) 1 false }, { o := .ln (.l 0) }, { o := .ca N.made_Dice_Next 0 [] [.l 3, .l 0] }, { o := .mv (.l 0), d := some 9 }] []) (.reg [{ o := .fa (.v 8) 1 }, { o := .ld (.l 0) 1 false }, { o := .mv (.v 9) }, { o := .fa (.v 8) 1 }, { o := .ld (.l 0) 1 false }, { o := .mv (.v 9) }, { o := .ia (.l 1) (.l 0) 10 }, { o := .fa (.l 0) 5 }, { o := .ld (.l 0) 1 false }, { o := .un .not (.l 0) }, { o := .ia (.l 8) (.l 7) 10 }, { o := .fa (.l 0) 5 }, { o := .st (.l 0) (.l 2) 1 [] }] [])) .skip) (.seq (.reg [{ o := .al [.t (.int .i64 (0)), .nil] [], d := some 10 }, { o := .ld (.v 8) 2 true }, { o := .ld (.v 4) 2 true }, { o := .fa (.v 4) 0 }, { o := .ld (.l 0) 1 false }, { o := .mv (.v 2) }, { o := .ca N.made_Dice_Next 0 [] [.l 0, .i 90] }, { o := .bin .add (.l 2) (.l 0) }, { o := .ca N.places_Renew 0 [] [.l 6, .l 5, .l 0] }, { o := .mv (.l 0) }, { o := .ex (.l 0) 0 }, { o := .ex (.l 1) 1 }, { o := .st (.l 11) (.l 1) 2 [] }, { o := .mv (.l 1), d := some 11 }] [(0, 7), (0, 9), (1, 7), (2, 7), (4, 7)]) (.seq (.reg [{ o := .ca N.law25_awake 0 [] [] }, { o := .mv (.l 0) }, { o := .ld (.v 8) 2 true, g := some (0, true) }, { o := .ld (.v 4) 2 true, g := some (1, true) }, { o := .ld (.v 5) 2 true, g := some (2, true) }, { o := .mv (.v 2), g := some (3, true) }, { o := .fa (.v 3) 0, g := some (4, true) }, { o := .ld (.l 0) 1 false, g := some (5, true) }, { o := .ln (.l 0), g := some (6, true) }, { o := .ca N.made_Dice_Some 0 [] [.l 3, .l 0], g := some (7, true) }, { o := .fa (.v 4) 0, g := some (8, true) }, { o := .ld (.l 0) 1 false, g := some (9, true) }, { o := .fa (.v 4) 0, g := some (10, true) }, { o := .ld (.l 0) 1 false, g := some (11, true) }, { o := .bin .add (.l 0) (.i 50), g := some (12, true) }, { o := .bd [.t (.int .i64 (0)), .t (.int .i64 (0)), .t (.int .i64 (0))] [(0, 1, .l 3), (1, 1, .l 0), (2, 1, .i 20)], g := some (13, true) }, { o := .ca N.law25_agree 0 [] [.l 13, .l 12, .l 11, .l 6, .l 0], g := some (14, true) }, { o := .pk (.l 15) (.l 0) (.b false) }, { o := .mv (.l 0) }, { o := .mv (.v 11), g := some (0, true) }, { o := .bin .neq (.l 0) (.i 0), g := some (1, true) }, { o := .mv (.l 0), g := some (2, true) }, { o := .ld (.v 8) 2 true, g := some (0, false) }, { o := .ld (.v 10) 2 true, g := some (1, false) }, { o := .ca N.places_Valid 0 [] [.l 1, .l 0], g := some (2, false) }, { o := .pk (.l 3) (.b true) (.l 0), g := some (6, true) }, { o := .pk (.l 7) (.l 0) (.b false) }, { o := .mv (.l 0), d := some 1 }] [(2, 10), (3, 10), (4, 10), (11, 1), (13, 1)]) .ret))))))))))), res := [(1, none)] }
/-- /law25.awake -/
def law25_awake : Fn := { nargs := 0, vars := [0, 1, 2, 3, 4, 5], body := (.seq (.reg [{ o := .mv (.b false), d := some 0 }] []) (.seq (.reg [{ o := .ca N.law25_row 0 [] [] }, { o := .ca N.places_Start 0 [] [.l 0, .i 0, .i 100] }, { o := .mv (.l 0) }, { o := .ex (.l 0) 0 }, { o := .ex (.l 1) 1 }, { o := .al [.t (.int .i64 (0)), .nil] [], d := some 1 }, { o := .st (.l 0) (.l 2) 2 [] }, { o := .mv (.l 2), d := some 2 }] []) (.seq (.reg [{ o := .al [.t (.int .i64 (0)), .nil] [], d := some 3 }, { o := .ca N.law25_row 0 [] [] }, { o := .ld (.v 1) 2 true }, { o := .bs [.i 2] 1 }, { o := .ca N.places_See 0 [] [.l 2, .l 1, .l 0, .i 115, .i 125] }, { o := .mv (.l 0) }, { o := .ex (.l 0) 0 }, { o := .ex (.l 1) 1 }, { o := .st (.l 7) (.l 1) 2 [] }, { o := .mv (.l 1), d := some 4 }] [(0, 2), (0, 5), (2, 1), (3, 1)]) (.seq (.reg [{ o := .ld (.v 1) 2 true }, { o := .ca N.places_Possible 0 [] [.l 0, .i 110] }, { o := .mv (.l 0), d := some 5 }] []) (.seq (.reg [{ o := .mv (.v 2) }, { o := .bin .eql (.l 0) (.i 0) }, { o := .mv (.l 0) }, { o := .mv (.v 4), g := some (0, true) }, { o := .bin .eql (.l 0) (.i 0), g := some (1, true) }, { o := .pk (.l 2) (.l 0) (.b false) }, { o := .mv (.l 0) }, { o := .fa (.v 1) 1, g := some (0, true) }, { o := .ld (.l 0) 1 false, g := some (1, true) }, { o := .ln (.l 0), g := some (2, true) }, { o := .bin .eql (.l 0) (.i 3), g := some (3, true) }, { o := .pk (.l 4) (.l 0) (.b false) }, { o := .mv (.l 0) }, { o := .fa (.v 1) 1, g := some (0, true) }, { o := .ld (.l 0) 1 false, g := some (1, true) }, { o := .ia (.l 0) (.i 2) 1, g := some (2, true) }, { o := .ld (.l 0) 1 false, g := some (3, true) }, { o := .bin .eql (.l 0) (.i 120), g := some (4, true) }, { o := .pk (.l 5) (.l 0) (.b false) }, { o := .mv (.l 0) }, { o := .fa (.v 3) 1, g := some (0, true) }, { o := .ld (.l 0) 1 false, g := some (1, true) }, { o := .ln (.l 0), g := some (2, true) }, { o := .bin .eql (.l 0) (.i 3), g := some (3, true) }, { o := .pk (.l 4) (.l 0) (.b false) }, { o := .mv (.l 0) }, { o := .fa (.v 3) 0, g := some (0, true) }, { o := .ld (.l 0) 1 false, g := some (1, true) }, { o := .bin .eql (.l 0) (.i 125), g := some (2, true) }, { o := .pk (.l 3) (.l 0) (.b false) }, { o := .mv (.l 0) }, { o := .fa (.v 3) 1, g := some (0, true) }, { o := .ld (.l 0) 1 false, g := some (1, true) }, { o := .ia (.l 0) (.i 2) 1, g := some (2, true) }, { o := .ld (.l 0) 1 false, g := some (3, true) }, { o := .bin .eql (.l 0) (.i 120), g := some (4, true) }, { o := .pk (.l 5) (.l 0) (.b false) }, { o := .mv (.l 0) }, { o := .fa (.v 3) 1, g := some (0, true) }, { o := .ld (.l 0) 1 false, g := some (1, true) }, { o := .ia (.l 0) (.i 1) 1, g := some (2, true) }, { o := .ld (.l 0) 1 false, g := some (3, true) }, { o := .bin .eql (.l 0) (.i 130), g := some (4, true) }, { o := .pk (.l 5) (.l 0) (.b false) }, { o := .mv (.l 0) }, { o := .mv (.v 5), g := some (0, true) }, { o := .ln (.l 0), g := some (1, true) }, { o := .bin .eql (.l 0) (.i 2), g := some (2, true) }, { o := .pk (.l 3) (.l 0) (.b false) }, { o := .mv (.l 0), d := some 0 }] []) .ret))))), res := [(0, none)] }
/-- /places.Start -/
def places_Start : Fn := { nargs := 3, vars := [0, 1, 2, 3, 6, 7, 8], body := (.seq (.reg [{ o := .bx (.v 0) 2, d := some 3 }, { o := .al [.t (.int .i64 (0)), .nil] [], d := some 4 }, { o := .mv (.i 0), d := some 5 }] []) (.seq (.blk 0 (.ite [{ o := .ld (.v 3) 2 true }, { o := .ca N.plan_Valid 0 [] [.l 0] }, { o := .un .not (.l 0) }, { o := .mv (.l 0) }] [] 0 (.seq (.reg [{ o := .bd [.t (.int .i64 (0)), .nil] [] }, { o := .st (.v 4) (.l 0) 2 [] }, { o := .mv (.i 6), d := some 5 }] []) .ret) (.ite [{ o := .mv (.v 1) }, { o := .fa (.v 3) 0 }, { o := .ld (.l 0) 1 false }, { o := .ln (.l 0) }, { o := .bin .sub (.l 0) (.i 1) }, { o := .ca N.lists_In 0 [] [.l 4, .i 0, .l 0] }, { o := .un .not (.l 0) }, { o := .mv (.l 0) }] [] 0 (.seq (.reg [{ o := .bd [.t (.int .i64 (0)), .nil] [] }, { o := .st (.v 4) (.l 0) 2 [] }, { o := .mv (.i 3), d := some 5 }] []) .ret) (.ite [{ o := .mv (.v 2) }, { o := .ca N.lists_In 0 [] [.l 0, .i 0, .i 2147483648] }, { o := .un .not (.l 0) }, { o := .mv (.l 0) }] [] 0 (.seq (.reg [{ o := .bd [.t (.int .i64 (0)), .nil] [] }, { o := .st (.v 4) (.l 0) 2 [] }, { o := .mv (.i 8), d := some 5 }] []) .ret) .skip)))) (.seq (.reg [{ o := .ld (.v 3) 2 true }, { o := .ca N.places_nowhere 1 [] [.l 0] }, { o := .mv (.l 0), d := some 6 }] []) (.seq (.reg [{ o := .mv (.v 6) }, { o := .mv (.v 1) }, { o := .mv (.v 2) }, { o := .ia (.l 2) (.l 1) 1 }, { o := .st (.l 0) (.l 1) 1 [] }] []) (.seq (.reg [{ o := .mv (.v 2) }, { o := .ld (.v 3) 2 true }, { o := .mv (.v 6) }, { o := .mv (.v 2) }, { o := .ca N.places_lowered 0 [] [.l 2, .l 1, .l 0, .c (.fn N.places_all [])] }, { o := .bd [.t (.int .i64 (0)), .nil] [(0, 1, .l 4), (1, 1, .l 0)] }, { o := .st (.v 4) (.l 0) 2 [] }, { o := .mv (.i 0), d := some 5 }] []) .ret))))), res := [(4, some (2, true)), (5, none)] }
def ref03_Least_l1b : C := (.seq (.ite [{ o := .mv (.v 4) }, { o := .mv (.v 1) }, { o := .ln (.l 0) }, { o := .bin .lss (.l 2) (.l 0) }] [] 0 .skip (.exit 0)) (.seq (.blk 1 (.ite [{ o := .mv (.v 1) }, { o := .mv (.v 4) }, { o := .ia (.l 1) (.l 0) 1 }, { o := .ld (.l 0) 1 false }, { o := .bin .lss (.l 0) (.i 0) }, { o := .mv (.l 0) }, { o := .mv (.v 1), g := some (0, false) }, { o := .mv (.v 4), g := some (1, false) }, { o := .ia (.l 1) (.l 0) 1, g := some (2, false) }, { o := .ld (.l 0) 1 false, g := some (3, false) }, { o := .bin .gtr (.l 0) (.i 1099511627776), g := some (4, false) }, { o := .pk (.l 5) (.b true) (.l 0) }] [] 0 (.seq (.reg [{ o := .mv (.c (.nil)), d := some 3 }] []) .ret) .skip)) (.reg [{ o := .mv (.v 4) }, { o := .bin .add (.l 0) (.i 1) }, { o := .mv (.l 0), d := some 4 }] [])))
def ref03_Least_l1 : C := .loop true [0, 3, 5, 6, 7, 8, 9, 10, 11] K.ref03_Least_l1b
def ref03_Least_l4b : C := (.seq (.ite [{ o := .mv (.v 8) }, { o := .bin .lss (.l 0) (.i 2) }] [] 0 .skip (.exit 6)) (.seq (.blk 7 (.seq (.reg [{ o := .fa (.v 2) 1 }, { o := .ld (.l 0) 1 false }, { o := .mv (.v 7) }, { o := .ia (.l 1) (.l 0) 10 }, { o := .ld (.l 0) 10 true }, { o := .mv (.v 8) }, { o := .bin .eql (.l 0) (.i 1) }, { o := .ca N.ref03_ends 0 [] [.l 2, .l 0] }, { o := .mv (.l 0) }, { o := .ex (.l 0) 0 }, { o := .ex (.l 1) 1 }, { o := .mv (.l 1), d := some 9 }, { o := .mv (.l 1), d := some 10 }] []) (.seq (.reg [{ o := .ld (.v 2) 2 true }, { o := .mv (.v 7) }, { o := .mv (.v 8) }, { o := .bin .eql (.l 0) (.i 1) }, { o := .ca N.ref03_Time 0 [] [.l 3, .l 2, .l 0] }, { o := .mv (.l 0), d := some 11 }] []) (.ite [{ o := .mv (.v 11) }, { o := .bin .geq (.l 0) (.i 0) }, { o := .mv (.l 0) }, { o := .mv (.v 5), g := some (0, true) }, { o := .mv (.v 9), g := some (1, true) }, { o := .ia (.l 1) (.l 0) 1, g := some (2, true) }, { o := .ld (.l 0) 1 false, g := some (3, true) }, { o := .bin .lss (.l 0) (.i 1099511627776), g := some (4, true) }, { o := .pk (.l 5) (.l 0) (.b false) }, { o := .mv (.l 0) }, { o := .mv (.v 5), g := some (0, true) }, { o := .mv (.v 9), g := some (1, true) }, { o := .ia (.l 1) (.l 0) 1, g := some (2, true) }, { o := .ld (.l 0) 1 false, g := some (3, true) }, { o := .mv (.v 11), g := some (4, true) }, { o := .bin .add (.l 1) (.l 0), g := some (5, true) }, { o := .mv (.v 5), g := some (6, true) }, { o := .mv (.v 10), g := some (7, true) }, { o := .ia (.l 1) (.l 0) 1, g := some (8, true) }, { o := .ld (.l 0) 1 false, g := some (9, true) }, { o := .bin .lss (.l 4) (.l 0), g := some (10, true) }, { o := .pk (.l 11) (.l 0) (.b false) }] [] 0 (.reg [{ o := .mv (.v 5) }, { o := .mv (.v 10) }, { o := .mv (.v 5) }, { o := .mv (.v 9) }, { o := .ia (.l 1) (.l 0) 1 }, { o := .ld (.l 0) 1 false }, { o := .mv (.v 11) }, { o := .bin .add (.l 1) (.l 0) }, { o := .ia (.l 7) (.l 6) 1 }, { o := .st (.l 0) (.l 1) 1 [] }, { o := .mv (.b true), d := some 6 }] []) .skip)))) (.reg [{ o := .mv (.v 8) }, { o := .bin .add (.l 0) (.i 1) }, { o := .mv (.l 0), d := some 8 }] [])))
def ref03_Least_l4 : C := .loop true [0, 1, 3, 4, 9, 10, 11] K.ref03_Least_l4b
def ref03_Least_l3b : C := (.seq (.ite [{ o := .mv (.v 7) }, { o := .fa (.v 2) 1 }, { o := .ld (.l 0) 1 false }, { o := .ln (.l 0) }, { o := .bin .lss (.l 3) (.l 0) }] [] 0 .skip (.exit 4)) (.seq (.blk 5 (.seq (.reg [{ o := .mv (.i 0), d := some 8 }] []) (.blk 6 K.ref03_Least_l4))) (.reg [{ o := .mv (.v 7) }, { o := .bin .add (.l 0) (.i 1) }, { o := .mv (.l 0), d := some 7 }] [])))
def ref03_Least_l3 : C := .loop true [0, 1, 3, 4, 8, 9, 10, 11] K.ref03_Least_l3b
def ref03_Least_l2b : C := (.seq (.ite [{ o := .mv (.v 6) }] [] 0 .skip (.exit 2)) (.blk 3 (.seq (.reg [{ o := .mv (.b false), d := some 6 }] []) (.seq (.reg [{ o := .mv (.i 0), d := some 7 }] []) (.blk 4 K.ref03_Least_l3)))))
def ref03_Least_l2 : C := .loop true [0, 1, 3, 4, 7, 8, 9, 10, 11] K.ref03_Least_l2b
/-- /ref03.Least -/
def ref03_Least : Fn := { nargs := 2, vars := [0, 1, 2, 4, 5, 6, 7, 8, 9, 10, 11, 12], body := (.seq (.reg [{ o := .bx (.v 0) 2, d := some 2 }, { o := .mv (.c (.nil)), d := some 3 }] []) (.seq (.ite [{ o := .ld (.v 2) 2 true }, { o := .ca N.ref01_Check 0 [] [.l 0] }, { o := .bin .neq (.l 0) (.i 0) }, { o := .mv (.l 0) }, { o := .mv (.v 1), g := some (0, false) }, { o := .ln (.l 0), g := some (1, false) }, { o := .fa (.v 2) 0, g := some (2, false) }, { o := .ld (.l 0) 1 false, g := some (3, false) }, { o := .ln (.l 0), g := some (4, false) }, { o := .bin .neq (.l 3) (.l 0), g := some (5, false) }, { o := .pk (.l 6) (.b true) (.l 0) }] [] 0 (.seq (.reg [{ o := .mv (.c (.nil)), d := some 3 }] []) .ret) .skip) (.seq (.seq (.reg [{ o := .mv (.i 0), d := some 4 }] []) (.blk 0 K.ref03_Least_l1)) (.seq (.reg [{ o := .mv (.v 1) }, { o := .app (.c (.nil)) (.l 0) true 1 }, { o := .mv (.l 0), d := some 5 }] []) (.seq (.seq (.reg [{ o := .mv (.b true), d := some 6 }] []) (.blk 2 K.ref03_Least_l2)) (.seq (.reg [{ o := .mv (.v 5) }, { o := .mv (.l 0), d := some 3 }] []) .ret)))))), res := [(3, none)] }
def made_Dice_Where_l1b : C := (.seq (.ite [{ o := .mv (.v 5) }, { o := .bin .gtr (.l 0) (.i 0) }] [] 0 .skip (.exit 0)) (.seq (.blk 1 (.seq (.reg [{ o := .mv (.v 0) }, { o := .fa (.v 2) 0 }, { o := .ld (.l 0) 1 false }, { o := .ln (.l 0) }, { o := .ca N.made_Dice_Some 0 [] [.l 3, .l 0] }, { o := .mv (.l 0), d := some 6 }] []) (.seq (.reg [{ o := .fa (.v 4) 0 }, { o := .ld (.l 0) 1 false }, { o := .mv (.v 0) }, { o := .ca N.made_Dice_Next 0 [] [.l 0, .i 60] }, { o := .bin .add (.l 2) (.l 0) }, { o := .mv (.l 0), d := some 7 }] [(1, 4)]) (.seq (.reg [{ o := .al [.t (.int .i64 (0)), .nil] [], d := some 8 }, { o := .ld (.v 2) 2 true }, { o := .ld (.v 4) 2 true }, { o := .mv (.v 6) }, { o := .mv (.v 7) }, { o := .mv (.v 7) }, { o := .mv (.v 0) }, { o := .ca N.made_Dice_Next 0 [] [.l 0, .i 40] }, { o := .bin .add (.l 2) (.l 0) }, { o := .ca N.ref25_See 0 [] [.l 7, .l 6, .l 5, .l 4, .l 0] }, { o := .mv (.l 0) }, { o := .ex (.l 0) 0 }, { o := .ex (.l 1) 1 }, { o := .st (.l 12) (.l 1) 2 [] }, { o := .mv (.l 1), d := some 9 }] [(0, 8), (0, 10), (1, 8), (2, 8)]) (.ite [{ o := .mv (.v 9) }, { o := .bin .eql (.l 0) (.i 0) }] [] 0 (.reg [{ o := .ld (.v 8) 2 true }, { o := .st (.v 4) (.l 0) 2 [] }] []) .skip))))) (.reg [{ o := .mv (.v 5) }, { o := .bin .sub (.l 0) (.i 1) }, { o := .mv (.l 0), d := some 5 }] [])))
def made_Dice_Where_l1 : C := .loop true [1, 6, 7, 8, 9] K.made_Dice_Where_l1b
/-- (*/made.Dice).Where -/
def made_Dice_Where : Fn := { nargs := 2, vars := [0, 1, 3, 4, 5, 7, 8, 9, 10, 11], body := (.seq (.reg [{ o := .bx (.v 1) 2, d := some 2 }, { o := .al [.t (.int .i64 (0)), .nil] [], d := some 3 }] []) (.seq (.reg [{ o := .al [.t (.int .i64 (0)), .nil] [], d := some 4 }, { o := .ld (.v 2) 2 true }, { o := .mv (.v 0) }, { o := .fa (.v 2) 0 }, { o := .ld (.l 0) 1 false }, { o := .ln (.l 0) }, { o := .ca N.made_Dice_Next 0 [] [.l 3, .l 0] }, { o := .mv (.v 0) }, { o := .ca N.made_Dice_Next 0 [] [.l 0, .i 200] }, { o := .ca N.ref25_Start 0 [] [.l 7, .l 2, .l 0] }, { o := .mv (.l 0) }, { o := .ex (.l 0) 0 }, { o := .ex (.l 1) 1 }, { o := .st (.l 12) (.l 1) 2 [] }, { o := .mv (.l 1) }] [(0, 7), (0, 9), (0, 10), (1, 7), (1, 9)]) (.seq (.seq (.reg [{ o := .mv (.v 0) }, { o := .ca N.made_Dice_Next 0 [] [.l 0, .i 3] }, { o := .mv (.l 0), d := some 5 }] []) (.blk 0 K.made_Dice_Where_l1)) (.seq (.reg [{ o := .ld (.v 4) 2 true }, { o := .st (.v 3) (.l 0) 2 [] }] []) .ret)))), res := [(3, some (2, true))] }
def places_Join_l1b : C := (.its  [{ o := .bin .lss (.v 11) (.v 10) }] [] 0 .skip (.exit 0) (.seq (.blk 1 (.seq (.reg [{ o := .mv (.v 11) }, { o := .ia (.v 9) (.v 11) 1 }, { o := .ld (.l 0) 1 false }, { o := .mv (.l 2), d := some 7 }, { o := .mv (.l 1), d := some 8 }] []) (.reg [{ o := .fa (.v 6) 1 }, { o := .ld (.l 0) 1 false }, { o := .mv (.v 8) }, { o := .fa (.v 3) 1 }, { o := .ld (.l 0) 1 false }, { o := .mv (.v 7) }, { o := .ia (.l 1) (.l 0) 1 }, { o := .ld (.l 0) 1 false }, { o := .mn [.l 5, .l 0] }, { o := .bs [.l 0] 1 }, { o := .app (.l 8) (.l 0) true 1 }, { o := .fa (.v 6) 1 }, { o := .st (.l 0) (.l 1) 1 [] }] [(1, 10)]))) (.reg [{ o := .bin .add (.v 11) (.i 1) }, { o := .mv (.l 0), d := some 11 }] [])))
def places_Join_l1 : C := .loop true [0, 1, 2, 5, 7, 8] K.places_Join_l1b
/-- /places.Join -/
def places_Join : Fn := { nargs := 2, vars := [0, 1, 2, 3, 4, 5, 6, 7, 8, 24, 25, 26], body := (.seq (.reg [{ o := .bx (.v 0) 2, d := some 2 }, { o := .bx (.v 1) 2, d := some 3 }, { o := .al [.t (.int .i64 (0)), .nil] [], d := some 4 }, { o := .mv (.i 0), d := some 5 }] []) (.seq (.ite [{ o := .fa (.v 2) 1 }, { o := .ld (.l 0) 1 false }, { o := .ln (.l 0) }, { o := .fa (.v 3) 1 }, { o := .ld (.l 0) 1 false }, { o := .ln (.l 0) }, { o := .bin .neq (.l 3) (.l 0) }] [] 0 (.seq (.reg [{ o := .bd [.t (.int .i64 (0)), .nil] [] }, { o := .st (.v 4) (.l 0) 2 [] }, { o := .mv (.i 6), d := some 5 }] []) .ret) .skip) (.seq (.reg [{ o := .fa (.v 2) 0 }, { o := .ld (.l 0) 1 false }, { o := .fa (.v 3) 0 }, { o := .ld (.l 0) 1 false }, { o := .mx [.l 2, .l 0] }, { o := .bd [.t (.int .i64 (0)), .nil] [(0, 1, .l 0)] }, { o := .al [.t (.int .i64 (0)), .nil] [(1, 1)], d := some 6 }, { o := .st (.l 0) (.l 1) 2 [(1, 1)] }] []) (.seq (.seq (.reg [{ o := .fa (.v 2) 1 }, { o := .ld (.l 0) 1 false, d := some 9 }, { o := .ln (.l 0), d := some 10 }, { o := .mv (.i 0), d := some 11 }] []) (.blk 0 K.places_Join_l1)) (.seq (.reg [{ o := .ld (.v 6) 2 true }, { o := .st (.v 4) (.l 0) 2 [] }, { o := .mv (.i 0), d := some 5 }] []) .ret))))), res := [(4, some (2, true)), (5, none)] }
/-- /places.Valid -/
def places_Valid : Fn := { nargs := 2, vars := [0, 1, 2, 3, 4], body := (.seq (.reg [{ o := .bx (.v 0) 2, d := some 2 }, { o := .bx (.v 1) 2, d := some 3 }, { o := .mv (.b false), d := some 4 }] []) (.seq (.reg [{ o := .ld (.v 2) 2 true }, { o := .ca N.plan_Valid 0 [] [.l 0] }, { o := .mv (.l 0) }, { o := .ld (.v 2) 2 true, g := some (0, true) }, { o := .ld (.v 3) 2 true, g := some (1, true) }, { o := .ca N.places_shaped 0 [] [.l 1, .l 0], g := some (2, true) }, { o := .pk (.l 3) (.l 0) (.b false) }, { o := .mv (.l 0) }, { o := .ld (.v 2) 2 true, g := some (0, true) }, { o := .fa (.v 3) 1, g := some (1, true) }, { o := .ld (.l 0) 1 false, g := some (2, true) }, { o := .fa (.v 3) 0, g := some (3, true) }, { o := .ld (.l 0) 1 false, g := some (4, true) }, { o := .ca N.places_lowered 0 [] [.l 4, .l 2, .l 0, .c (.fn N.places_all [])], g := some (5, true) }, { o := .fa (.v 3) 1, g := some (6, true) }, { o := .ld (.l 0) 1 false, g := some (7, true) }, { o := .ca N.slices_Equal_int_int 0 [] [.l 2, .l 0], g := some (8, true) }, { o := .pk (.l 9) (.l 0) (.b false) }, { o := .mv (.l 0), d := some 4 }] [(15, 6)]) .ret)), res := [(4, none)] }
def law25_walker_l1b : C := (.seq (.ite [{ o := .mv (.v 11) }, { o := .mv (.v 4) }, { o := .bin .leq (.l 1) (.l 0) }] [] 0 .skip (.exit 0)) (.seq (.blk 1 (.seq (.ite [{ o := .mv (.v 9) }, { o := .bin .geq (.l 0) (.i 0) }] [] 0 (.seq (.reg [{ o := .mv (.v 10) }, { o := .bin .sub (.l 0) (.i 1) }, { o := .mv (.l 0), d := some 10 }] []) (.ite [{ o := .mv (.v 10) }, { o := .bin .leq (.l 0) (.i 0) }] [] 0 (.seq (.reg [{ o := .fa (.v 5) 1 }, { o := .ld (.l 0) 1 false }, { o := .mv (.v 9) }, { o := .ia (.l 1) (.l 0) 10 }, { o := .ld (.l 0) 10 true }, { o := .al [.t (.int .i64 (0)), .t (.int .i64 (0)), .t (.int .i64 (0)), .t (.int .i64 (0)), .t (.bool false), .t (.bool false), .t (.int .i64 (0)), .t (.int .i64 (0)), .t (.int .i64 (0)), .t (.int .i64 (0))] [], d := some 12 }, { o := .st (.l 0) (.l 1) 10 [] }] []) (.seq (.ite [{ o := .fa (.v 12) 0 }, { o := .ld (.l 0) 1 false }, { o := .mv (.v 8) }, { o := .bin .eql (.l 1) (.l 0) }] [] 0 (.reg [{ o := .fa (.v 12) 1 }, { o := .ld (.l 0) 1 false }, { o := .mv (.l 0), d := some 8 }] []) (.reg [{ o := .fa (.v 12) 0 }, { o := .ld (.l 0) 1 false }, { o := .mv (.l 0), d := some 8 }] [])) (.reg [{ o := .mv (.i (-1)), d := some 9 }] []))) .skip)) .skip) (.seq (.reg [{ o := .mv (.v 7) }, { o := .mv (.v 8) }, { o := .bs [.l 0] 1 }, { o := .app (.l 2) (.l 0) true 1 }, { o := .mv (.l 0), d := some 7 }] []) (.seq (.ite [{ o := .mv (.v 9) }, { o := .bin .geq (.l 0) (.i 0) }, { o := .mv (.l 0) }, { o := .mv (.v 0), g := some (0, true) }, { o := .ca N.made_Dice_One 0 [] [.l 0, .i 60], g := some (1, true) }, { o := .pk (.l 2) (.l 0) (.b false) }] [] 0 (.reg [{ o := .mv (.i (-1)), d := some 9 }] []) .skip) (.ite [{ o := .mv (.v 9) }, { o := .bin .lss (.l 0) (.i 0) }, { o := .mv (.l 0) }, { o := .mv (.v 0), g := some (0, true) }, { o := .ca N.made_Dice_One 0 [] [.l 0, .i 7], g := some (1, true) }, { o := .pk (.l 2) (.l 0) (.b false) }, { o := .mv (.l 0) }, { o := .fa (.v 5) 1, g := some (0, true) }, { o := .ld (.l 0) 1 false, g := some (1, true) }, { o := .ln (.l 0), g := some (2, true) }, { o := .bin .gtr (.l 0) (.i 0), g := some (3, true) }, { o := .pk (.l 4) (.l 0) (.b false) }] [] 0 (.seq (.reg [{ o := .mv (.v 0) }, { o := .fa (.v 5) 1 }, { o := .ld (.l 0) 1 false }, { o := .ln (.l 0) }, { o := .ca N.made_Dice_Next 0 [] [.l 3, .l 0] }, { o := .mv (.l 0), d := some 13 }] []) (.seq (.reg [{ o := .fa (.v 5) 1 }, { o := .ld (.l 0) 1 false }, { o := .mv (.v 13) }, { o := .ia (.l 1) (.l 0) 10 }, { o := .ld (.l 0) 10 true }, { o := .al [.t (.int .i64 (0)), .t (.int .i64 (0)), .t (.int .i64 (0)), .t (.int .i64 (0)), .t (.bool false), .t (.bool false), .t (.int .i64 (0)), .t (.int .i64 (0)), .t (.int .i64 (0)), .t (.int .i64 (0))] [], d := some 14 }, { o := .st (.l 0) (.l 1) 10 [] }] []) (.seq (.reg [{ o := .ld (.v 5) 2 true }, { o := .mv (.v 13) }, { o := .ca N.ref03_Time 0 [] [.l 1, .l 0, .b false] }, { o := .mv (.l 0), d := some 15 }] []) (.ite [{ o := .fa (.v 14) 0 }, { o := .ld (.l 0) 1 false }, { o := .mv (.v 8) }, { o := .bin .eql (.l 1) (.l 0) }, { o := .mv (.l 0) }, { o := .mv (.v 15), g := some (0, true) }, { o := .bin .geq (.l 0) (.i 0), g := some (1, true) }, { o := .pk (.l 2) (.l 0) (.b false) }] [] 0 (.reg [{ o := .mv (.v 13) }, { o := .mv (.v 15) }, { o := .mv (.l 1), d := some 9 }, { o := .mv (.l 1), d := some 10 }] []) (.seq (.reg [{ o := .ld (.v 5) 2 true }, { o := .mv (.v 13) }, { o := .ca N.ref03_Time 0 [] [.l 1, .l 0, .b true] }, { o := .mv (.l 0), d := some 16 }] []) (.ite [{ o := .fa (.v 14) 1 }, { o := .ld (.l 0) 1 false }, { o := .mv (.v 8) }, { o := .bin .eql (.l 1) (.l 0) }, { o := .mv (.l 0) }, { o := .mv (.v 16), g := some (0, true) }, { o := .bin .geq (.l 0) (.i 0), g := some (1, true) }, { o := .pk (.l 2) (.l 0) (.b false) }] [] 0 (.reg [{ o := .mv (.v 13) }, { o := .mv (.v 16) }, { o := .mv (.l 1), d := some 9 }, { o := .mv (.l 1), d := some 10 }] []) .skip)))))) .skip))))) (.reg [{ o := .mv (.v 11) }, { o := .bin .add (.l 0) (.i 1) }, { o := .mv (.l 0), d := some 11 }] [])))
def law25_walker_l1 : C := .loop true [1, 2, 3, 6, 12, 13, 14, 15, 16] K.law25_walker_l1b
/-- /law25.walker -/
def law25_walker : Fn := { nargs := 5, vars := [0, 1, 2, 3, 4, 6, 10, 11, 12, 13, 14, 15, 16, 17, 18, 19, 20], body := (.seq (.reg [{ o := .bx (.v 1) 2, d := some 5 }, { o := .mv (.c (.nil)), d := some 6 }] []) (.seq (.reg [{ o := .nw 1, d := some 7 }] []) (.seq (.reg [{ o := .mv (.v 2) }, { o := .mv (.l 0), d := some 8 }, { o := .mv (.i (-1)), d := some 9 }, { o := .mv (.i 0), d := some 10 }] []) (.seq (.seq (.reg [{ o := .mv (.v 3) }, { o := .mv (.l 0), d := some 11 }] []) (.blk 0 K.law25_walker_l1)) (.seq (.reg [{ o := .mv (.v 7) }, { o := .mv (.l 0), d := some 6 }] []) .ret))))), res := [(6, none)] }
def places_See_l1b : C := (.its  [{ o := .bin .lss (.v 15) (.v 14) }] [] 0 .skip (.exit 0) (.seq (.blk 1 (.seq (.reg [{ o := .ia (.v 13) (.v 15) 1 }, { o := .ld (.l 0) 1 false }, { o := .mv (.l 0), d := some 12 }] []) (.ite [{ o := .fa (.v 6) 1 }, { o := .ld (.l 0) 1 false }, { o := .mv (.v 12) }, { o := .ia (.l 1) (.l 0) 1 }, { o := .ld (.l 0) 1 false }, { o := .mv (.v 4) }, { o := .bin .leq (.l 1) (.l 0) }] [] 0 (.reg [{ o := .mv (.v 10) }, { o := .mv (.v 12) }, { o := .fa (.v 6) 1 }, { o := .ld (.l 0) 1 false }, { o := .mv (.v 12) }, { o := .ia (.l 1) (.l 0) 1 }, { o := .ld (.l 0) 1 false }, { o := .ia (.l 6) (.l 5) 1 }, { o := .st (.l 0) (.l 1) 1 [] }, { o := .mv (.b true), d := some 11 }] []) .skip))) (.reg [{ o := .bin .add (.v 15) (.i 1) }, { o := .mv (.l 0), d := some 15 }] [])))
def places_See_l1 : C := .loop true [0, 1, 2, 8, 9, 12] K.places_See_l1b
/-- /places.See -/
def places_See : Fn := { nargs := 5, vars := [0, 1, 2, 3, 4, 5, 6, 10, 11, 12, 13, 14, 16, 34, 35, 36], body := (.seq (.reg [{ o := .bx (.v 0) 2, d := some 5 }, { o := .bx (.v 1) 2, d := some 6 }, { o := .al [.t (.int .i64 (0)), .nil] [], d := some 7 }, { o := .mv (.i 0), d := some 8 }] []) (.seq (.seq (.reg [{ o := .ld (.v 5) 2 true }, { o := .ld (.v 6) 2 true }, { o := .mv (.v 2) }, { o := .mv (.v 3) }, { o := .mv (.v 4) }, { o := .ca N.places_given 0 [] [.l 4, .l 3, .l 2, .l 1, .l 0] }, { o := .mv (.l 0), d := some 9 }] []) (.ite [{ o := .mv (.v 9) }, { o := .bin .neq (.l 0) (.i 0) }] [] 0 (.seq (.reg [{ o := .ld (.v 6) 2 true }, { o := .mv (.v 9) }, { o := .st (.v 7) (.l 1) 2 [] }, { o := .mv (.l 1), d := some 8 }] []) .ret) .skip)) (.seq (.ite [{ o := .mv (.v 3) }, { o := .fa (.v 6) 0 }, { o := .ld (.l 0) 1 false }, { o := .bin .lss (.l 2) (.l 0) }] [] 0 (.seq (.reg [{ o := .ld (.v 6) 2 true }, { o := .st (.v 7) (.l 0) 2 [] }, { o := .mv (.i 42), d := some 8 }] []) .ret) .skip) (.seq (.reg [{ o := .ld (.v 5) 2 true }, { o := .ca N.places_nowhere 1 [] [.l 0] }, { o := .mv (.l 0), d := some 10 }, { o := .mv (.b false), d := some 11 }] []) (.seq (.seq (.reg [{ o := .mv (.v 2), d := some 13 }, { o := .ln (.l 0), d := some 14 }, { o := .mv (.i 0), d := some 15 }] []) (.blk 0 K.places_See_l1)) (.seq (.ite [{ o := .mv (.v 11) }, { o := .un .not (.l 0) }] [] 0 (.seq (.reg [{ o := .ld (.v 6) 2 true }, { o := .st (.v 7) (.l 0) 2 [] }, { o := .mv (.i 43), d := some 8 }] []) .ret) .skip) (.seq (.reg [{ o := .mv (.v 4) }, { o := .ld (.v 5) 2 true }, { o := .mv (.v 10) }, { o := .mv (.v 3) }, { o := .ca N.places_lowered 0 [] [.l 2, .l 1, .l 0, .c (.fn N.places_all [])] }, { o := .bd [.t (.int .i64 (0)), .nil] [(0, 1, .l 4), (1, 1, .l 0)] }, { o := .st (.v 7) (.l 0) 2 [] }, { o := .mv (.i 0), d := some 8 }] []) .ret))))))), res := [(7, some (2, true)), (8, none)] }
end Go.Ev.K
namespace Go.Ev
class Has8 [Lib] : Prop where
  t_law25_PlacesLeast : Lib.fs N.law25_PlacesLeast = some K.law25_PlacesLeast
  t_law25_PlacesJoins : Lib.fs N.law25_PlacesJoins = some K.law25_PlacesJoins
  t_law25_PlacesTrue : Lib.fs N.law25_PlacesTrue = some K.law25_PlacesTrue
  t_law25_PlacesShift : Lib.fs N.law25_PlacesShift = some K.law25_PlacesShift
  t_law25_PlacesLess : Lib.fs N.law25_PlacesLess = some K.law25_PlacesLess
  t_law25_PlacesRaw : Lib.fs N.law25_PlacesRaw = some K.law25_PlacesRaw
  t_law25_PlacesMade : Lib.fs N.law25_PlacesMade = some K.law25_PlacesMade
  t_law25_awake : Lib.fs N.law25_awake = some K.law25_awake
  t_places_Start : Lib.fs N.places_Start = some K.places_Start
  t_ref03_Least : Lib.fs N.ref03_Least = some K.ref03_Least
  t_made_Dice_Where : Lib.fs N.made_Dice_Where = some K.made_Dice_Where
  t_places_Join : Lib.fs N.places_Join = some K.places_Join
  t_places_Valid : Lib.fs N.places_Valid = some K.places_Valid
  t_law25_walker : Lib.fs N.law25_walker = some K.law25_walker
  t_places_See : Lib.fs N.places_See = some K.places_See
namespace K
variable [Lib] [Has8]
theorem t_law25_PlacesLeast : Lib.fs N.law25_PlacesLeast = some K.law25_PlacesLeast := Has8.t_law25_PlacesLeast
theorem t_law25_PlacesJoins : Lib.fs N.law25_PlacesJoins = some K.law25_PlacesJoins := Has8.t_law25_PlacesJoins
theorem t_law25_PlacesTrue : Lib.fs N.law25_PlacesTrue = some K.law25_PlacesTrue := Has8.t_law25_PlacesTrue
theorem t_law25_PlacesShift : Lib.fs N.law25_PlacesShift = some K.law25_PlacesShift := Has8.t_law25_PlacesShift
theorem t_law25_PlacesLess : Lib.fs N.law25_PlacesLess = some K.law25_PlacesLess := Has8.t_law25_PlacesLess
theorem t_law25_PlacesRaw : Lib.fs N.law25_PlacesRaw = some K.law25_PlacesRaw := Has8.t_law25_PlacesRaw
theorem t_law25_PlacesMade : Lib.fs N.law25_PlacesMade = some K.law25_PlacesMade := Has8.t_law25_PlacesMade
theorem t_law25_awake : Lib.fs N.law25_awake = some K.law25_awake := Has8.t_law25_awake
theorem t_places_Start : Lib.fs N.places_Start = some K.places_Start := Has8.t_places_Start
theorem t_ref03_Least : Lib.fs N.ref03_Least = some K.ref03_Least := Has8.t_ref03_Least
theorem t_made_Dice_Where : Lib.fs N.made_Dice_Where = some K.made_Dice_Where := Has8.t_made_Dice_Where
theorem t_places_Join : Lib.fs N.places_Join = some K.places_Join := Has8.t_places_Join
theorem t_places_Valid : Lib.fs N.places_Valid = some K.places_Valid := Has8.t_places_Valid
theorem t_law25_walker : Lib.fs N.law25_walker = some K.law25_walker := Has8.t_law25_walker
theorem t_places_See : Lib.fs N.places_See = some K.places_See := Has8.t_places_See
end K
end Go.Ev

/- MADE BY PROGRAM (lib.py): the compact code of functions. -/
namespace Go.Ev.K
open Go.Ev
def places_Absent_l1b : C := (.its  [{ o := .bin .lss (.v 16) (.v 15) }] [] 0 .skip (.exit 1) (.seq (.blk 2 (.seq (.reg [{ o := .ia (.v 14) (.v 16) 1 }, { o := .ld (.l 0) 1 false }, { o := .mv (.l 0), d := some 13 }] []) (.reg [{ o := .mv (.v 12) }, { o := .mv (.v 13) }, { o := .ia (.l 1) (.l 0) 1 }, { o := .st (.l 0) (.i 1099511627776) 1 [] }] []))) (.reg [{ o := .bin .add (.v 16) (.i 1) }, { o := .mv (.l 0), d := some 16 }] [])))
def places_Absent_l1 : C := .loop true [0, 1, 2, 3, 7, 10, 11, 13] K.places_Absent_l1b
/-- /places.Absent -/
def places_Absent : Fn := { nargs := 6, vars := [0, 1, 2, 3, 4, 5, 6, 7, 8, 12, 13, 14, 15, 17, 53, 54, 55], body := (.seq (.reg [{ o := .bx (.v 0) 2, d := some 6 }, { o := .bx (.v 1) 2, d := some 7 }, { o := .bx (.v 2) 1, d := some 8 }, { o := .al [.t (.int .i64 (0)), .nil] [], d := some 9 }, { o := .mv (.i 0), d := some 10 }] []) (.seq (.seq (.reg [{ o := .ld (.v 6) 2 true }, { o := .ld (.v 7) 2 true }, { o := .ld (.v 8) 1 false }, { o := .mv (.v 3) }, { o := .mv (.v 4) }, { o := .ca N.places_given 0 [] [.l 4, .l 3, .l 2, .l 1, .l 0] }, { o := .mv (.l 0), d := some 11 }] []) (.blk 0 (.ite [{ o := .mv (.v 11) }, { o := .bin .neq (.l 0) (.i 0) }, { o := .mv (.l 0) }] [] 0 (.seq (.reg [{ o := .ld (.v 7) 2 true }, { o := .mv (.v 11) }, { o := .st (.v 9) (.l 1) 2 [] }, { o := .mv (.l 1), d := some 10 }] []) .ret) (.ite [{ o := .mv (.v 5) }, { o := .ca N.lists_In 0 [] [.l 0, .i 0, .i 2147483648] }, { o := .un .not (.l 0) }, { o := .mv (.l 0) }] [] 0 (.seq (.reg [{ o := .ld (.v 7) 2 true }, { o := .st (.v 9) (.l 0) 2 [] }, { o := .mv (.i 8), d := some 10 }] []) .ret) (.ite [{ o := .mv (.v 4) }, { o := .fa (.v 7) 0 }, { o := .ld (.l 0) 1 false }, { o := .bin .lss (.l 2) (.l 0) }, { o := .mv (.l 0) }] [] 0 (.seq (.reg [{ o := .ld (.v 7) 2 true }, { o := .st (.v 9) (.l 0) 2 [] }, { o := .mv (.i 42), d := some 10 }] []) .ret) (.ite [{ o := .mv (.v 4) }, { o := .mv (.v 3) }, { o := .fa (.v 7) 0 }, { o := .ld (.l 0) 1 false }, { o := .mx [.l 2, .l 0] }, { o := .bin .sub (.l 4) (.l 0) }, { o := .mv (.v 5) }, { o := .bin .leq (.l 1) (.l 0) }, { o := .mv (.l 0) }] [] 0 (.seq (.reg [{ o := .ld (.v 7) 2 true }, { o := .st (.v 9) (.l 0) 2 [] }, { o := .mv (.i 0), d := some 10 }] []) .ret) .skip)))))) (.seq (.reg [{ o := .fa (.v 7) 1 }, { o := .ld (.l 0) 1 false }, { o := .ca N.slices_Clone_int_int 1 [] [.l 0] }, { o := .mv (.l 0), d := some 12 }] []) (.seq (.seq (.reg [{ o := .ld (.v 8) 1 false, d := some 14 }, { o := .ln (.l 0), d := some 15 }, { o := .mv (.i 0), d := some 16 }] []) (.blk 1 K.places_Absent_l1)) (.seq (.reg [{ o := .ld (.v 6) 2 true }, { o := .mv (.v 12) }, { o := .mv (.v 4) }, { o := .mv (.v 5) }, { o := .bin .sub (.l 1) (.l 0) }, { o := .mf N.places_Absent_1 [.v 8] }, { o := .ca N.places_lowered 1 [] [.l 5, .l 4, .l 1, .l 0] }, { o := .mv (.l 0), d := some 12 }] []) (.seq (.reg [{ o := .mv (.v 4) }, { o := .ld (.v 6) 2 true }, { o := .mv (.v 12) }, { o := .mv (.v 4) }, { o := .ca N.places_lowered 0 [] [.l 2, .l 1, .l 0, .c (.fn N.places_all [])] }, { o := .bd [.t (.int .i64 (0)), .nil] [(0, 1, .l 4), (1, 1, .l 0)] }, { o := .st (.v 9) (.l 0) 2 [] }, { o := .mv (.i 0), d := some 10 }] []) .ret)))))), res := [(9, some (2, true)), (10, none)] }
/-- /places.Renew -/
def places_Renew : Fn := { nargs := 3, vars := [0, 1, 2, 3, 4, 6, 7], body := (.seq (.reg [{ o := .bx (.v 0) 2, d := some 3 }, { o := .bx (.v 1) 2, d := some 4 }, { o := .al [.t (.int .i64 (0)), .nil] [], d := some 5 }, { o := .mv (.i 0), d := some 6 }] []) (.seq (.ite [{ o := .ld (.v 3) 2 true }, { o := .ca N.plan_Valid 0 [] [.l 0] }, { o := .un .not (.l 0) }, { o := .mv (.l 0) }, { o := .ld (.v 3) 2 true, g := some (0, false) }, { o := .ld (.v 4) 2 true, g := some (1, false) }, { o := .ca N.places_shaped 0 [] [.l 1, .l 0], g := some (2, false) }, { o := .un .not (.l 0), g := some (3, false) }, { o := .pk (.l 4) (.b true) (.l 0) }] [] 0 (.seq (.reg [{ o := .ld (.v 4) 2 true }, { o := .st (.v 5) (.l 0) 2 [] }, { o := .mv (.i 6), d := some 6 }] []) .ret) .skip) (.seq (.ite [{ o := .mv (.v 2) }, { o := .fa (.v 4) 0 }, { o := .ld (.l 0) 1 false }, { o := .bin .lss (.l 2) (.l 0) }, { o := .mv (.l 0) }, { o := .mv (.v 2), g := some (0, false) }, { o := .bin .gtr (.l 0) (.i 2147483648), g := some (1, false) }, { o := .pk (.l 2) (.b true) (.l 0) }] [] 0 (.seq (.reg [{ o := .ld (.v 4) 2 true }, { o := .st (.v 5) (.l 0) 2 [] }, { o := .mv (.i 8), d := some 6 }] []) .ret) .skip) (.seq (.reg [{ o := .mv (.v 2) }, { o := .ld (.v 3) 2 true }, { o := .fa (.v 4) 1 }, { o := .ld (.l 0) 1 false }, { o := .mv (.v 2) }, { o := .ca N.places_lowered 0 [] [.l 3, .l 1, .l 0, .c (.fn N.places_all [])] }, { o := .bd [.t (.int .i64 (0)), .nil] [(0, 1, .l 5), (1, 1, .l 0)] }, { o := .st (.v 5) (.l 0) 2 [] }, { o := .mv (.i 0), d := some 6 }] []) .ret)))), res := [(5, some (2, true)), (6, none)] }
/-- /law25.agree -/
def law25_agree : Fn := { nargs := 5, vars := [0, 1, 2, 3, 4, 5, 6, 7, 9, 10, 11, 12, 13, 14, 15, 16, 17, 18, 19, 20, 21, 22, 23, 24, 25, 26, 27, 28, 29, 30], body := (.seq (.reg [{ o := .bx (.v 0) 2, d := some 5 }, { o := .bx (.v 1) 2, d := some 6 }, { o := .bx (.v 2) 2, d := some 7 }, { o := .bx (.v 4) 3, d := some 8 }, { o := .mv (.b false), d := some 9 }] []) (.seq (.reg [{ o := .ld (.v 5) 2 true }, { o := .ld (.v 6) 2 true }, { o := .mv (.v 3) }, { o := .iaa (.v 8) (.i 0) 3 1 }, { o := .ld (.l 0) 1 false }, { o := .iaa (.v 8) (.i 1) 3 1 }, { o := .ld (.l 0) 1 false }, { o := .ca N.places_See 0 [] [.l 6, .l 5, .l 4, .l 2, .l 0] }, { o := .mv (.l 0) }, { o := .ex (.l 0) 0 }, { o := .ex (.l 1) 1 }, { o := .al [.t (.int .i64 (0)), .nil] [], d := some 10 }, { o := .st (.l 0) (.l 2) 2 [] }, { o := .mv (.l 2), d := some 11 }] []) (.seq (.reg [{ o := .ld (.v 5) 2 true }, { o := .ld (.v 6) 2 true }, { o := .mv (.v 3) }, { o := .iaa (.v 8) (.i 0) 3 1 }, { o := .ld (.l 0) 1 false }, { o := .iaa (.v 8) (.i 1) 3 1 }, { o := .ld (.l 0) 1 false }, { o := .ca N.ref25_See 0 [] [.l 6, .l 5, .l 4, .l 2, .l 0] }, { o := .mv (.l 0) }, { o := .ex (.l 0) 0 }, { o := .ex (.l 1) 1 }, { o := .al [.t (.int .i64 (0)), .nil] [], d := some 12 }, { o := .st (.l 0) (.l 2) 2 [] }, { o := .mv (.l 2), d := some 13 }] []) (.seq (.reg [{ o := .ld (.v 5) 2 true }, { o := .ld (.v 6) 2 true }, { o := .mv (.v 3) }, { o := .iaa (.v 8) (.i 0) 3 1 }, { o := .ld (.l 0) 1 false }, { o := .iaa (.v 8) (.i 1) 3 1 }, { o := .ld (.l 0) 1 false }, { o := .iaa (.v 8) (.i 2) 3 1 }, { o := .ld (.l 0) 1 false }, { o := .ca N.places_Absent 0 [] [.l 8, .l 7, .l 6, .l 4, .l 2, .l 0] }, { o := .mv (.l 0) }, { o := .ex (.l 0) 0 }, { o := .ex (.l 1) 1 }, { o := .al [.t (.int .i64 (0)), .nil] [], d := some 14 }, { o := .st (.l 0) (.l 2) 2 [] }, { o := .mv (.l 2), d := some 15 }] []) (.seq (.reg [{ o := .ld (.v 5) 2 true }, { o := .ld (.v 6) 2 true }, { o := .mv (.v 3) }, { o := .iaa (.v 8) (.i 0) 3 1 }, { o := .ld (.l 0) 1 false }, { o := .iaa (.v 8) (.i 1) 3 1 }, { o := .ld (.l 0) 1 false }, { o := .iaa (.v 8) (.i 2) 3 1 }, { o := .ld (.l 0) 1 false }, { o := .ca N.ref25_Absent 0 [2] [.l 8, .l 7, .l 6, .l 4, .l 2, .l 0] }, { o := .mv (.l 0) }, { o := .ex (.l 0) 0 }, { o := .ex (.l 1) 1 }, { o := .al [.t (.int .i64 (0)), .nil] [], d := some 16 }, { o := .st (.l 0) (.l 2) 2 [] }, { o := .mv (.l 2), d := some 17 }] []) (.seq (.reg [{ o := .ld (.v 5) 2 true }, { o := .ld (.v 6) 2 true }, { o := .iaa (.v 8) (.i 0) 3 1 }, { o := .ld (.l 0) 1 false }, { o := .ca N.places_Renew 0 [] [.l 3, .l 2, .l 0] }, { o := .mv (.l 0) }, { o := .ex (.l 0) 0 }, { o := .ex (.l 1) 1 }, { o := .al [.t (.int .i64 (0)), .nil] [], d := some 18 }, { o := .st (.l 0) (.l 2) 2 [] }, { o := .mv (.l 2), d := some 19 }] []) (.seq (.reg [{ o := .ld (.v 5) 2 true }, { o := .ld (.v 6) 2 true }, { o := .iaa (.v 8) (.i 0) 3 1 }, { o := .ld (.l 0) 1 false }, { o := .ca N.ref25_Renew 0 [] [.l 3, .l 2, .l 0] }, { o := .mv (.l 0) }, { o := .ex (.l 0) 0 }, { o := .ex (.l 1) 1 }, { o := .al [.t (.int .i64 (0)), .nil] [], d := some 20 }, { o := .st (.l 0) (.l 2) 2 [] }, { o := .mv (.l 2), d := some 21 }] []) (.seq (.reg [{ o := .ld (.v 6) 2 true }, { o := .iaa (.v 8) (.i 1) 3 1 }, { o := .ld (.l 0) 1 false }, { o := .ca N.places_Raise 0 [] [.l 2, .l 0] }, { o := .mv (.l 0) }, { o := .ex (.l 0) 0 }, { o := .ex (.l 1) 1 }, { o := .al [.t (.int .i64 (0)), .nil] [], d := some 22 }, { o := .st (.l 0) (.l 2) 2 [] }, { o := .mv (.l 2), d := some 23 }] []) (.seq (.reg [{ o := .ld (.v 6) 2 true }, { o := .iaa (.v 8) (.i 1) 3 1 }, { o := .ld (.l 0) 1 false }, { o := .ca N.ref25_Raise 0 [] [.l 2, .l 0] }, { o := .mv (.l 0) }, { o := .ex (.l 0) 0 }, { o := .ex (.l 1) 1 }, { o := .al [.t (.int .i64 (0)), .nil] [], d := some 24 }, { o := .st (.l 0) (.l 2) 2 [] }, { o := .mv (.l 2), d := some 25 }] []) (.seq (.reg [{ o := .ld (.v 6) 2 true }, { o := .ld (.v 7) 2 true }, { o := .ca N.places_Join 0 [] [.l 1, .l 0] }, { o := .mv (.l 0) }, { o := .ex (.l 0) 0 }, { o := .ex (.l 1) 1 }, { o := .al [.t (.int .i64 (0)), .nil] [], d := some 26 }, { o := .st (.l 0) (.l 2) 2 [] }, { o := .mv (.l 2), d := some 27 }] []) (.seq (.reg [{ o := .ld (.v 6) 2 true }, { o := .ld (.v 7) 2 true }, { o := .ca N.ref25_Join 0 [] [.l 1, .l 0] }, { o := .mv (.l 0) }, { o := .ex (.l 0) 0 }, { o := .ex (.l 1) 1 }, { o := .al [.t (.int .i64 (0)), .nil] [], d := some 28 }, { o := .st (.l 0) (.l 2) 2 [] }, { o := .mv (.l 2), d := some 29 }] []) (.seq (.reg [{ o := .ld (.v 5) 2 true }, { o := .ld (.v 6) 2 true }, { o := .ca N.places_Valid 0 [] [.l 1, .l 0] }, { o := .ld (.v 5) 2 true }, { o := .ld (.v 6) 2 true }, { o := .ca N.ref25_Valid 0 [] [.l 1, .l 0] }, { o := .eqk (.bool) false (.l 3) (.l 0) }, { o := .mv (.l 0) }, { o := .mv (.v 11), g := some (0, true) }, { o := .mv (.v 13), g := some (1, true) }, { o := .bin .eql (.l 1) (.l 0), g := some (2, true) }, { o := .pk (.l 3) (.l 0) (.b false) }, { o := .mv (.l 0) }, { o := .ld (.v 10) 2 true, g := some (0, true) }, { o := .ld (.v 12) 2 true, g := some (1, true) }, { o := .ca N.ref25_Same 0 [] [.l 1, .l 0], g := some (2, true) }, { o := .pk (.l 3) (.l 0) (.b false) }, { o := .mv (.l 0) }, { o := .mv (.v 15), g := some (0, true) }, { o := .mv (.v 17), g := some (1, true) }, { o := .bin .eql (.l 1) (.l 0), g := some (2, true) }, { o := .pk (.l 3) (.l 0) (.b false) }, { o := .mv (.l 0) }, { o := .ld (.v 14) 2 true, g := some (0, true) }, { o := .ld (.v 16) 2 true, g := some (1, true) }, { o := .ca N.ref25_Same 0 [] [.l 1, .l 0], g := some (2, true) }, { o := .pk (.l 3) (.l 0) (.b false) }, { o := .mv (.l 0) }, { o := .mv (.v 19), g := some (0, true) }, { o := .mv (.v 21), g := some (1, true) }, { o := .bin .eql (.l 1) (.l 0), g := some (2, true) }, { o := .pk (.l 3) (.l 0) (.b false) }, { o := .mv (.l 0) }, { o := .ld (.v 18) 2 true, g := some (0, true) }, { o := .ld (.v 20) 2 true, g := some (1, true) }, { o := .ca N.ref25_Same 0 [] [.l 1, .l 0], g := some (2, true) }, { o := .pk (.l 3) (.l 0) (.b false) }, { o := .mv (.l 0) }, { o := .mv (.v 23), g := some (0, true) }, { o := .mv (.v 25), g := some (1, true) }, { o := .bin .eql (.l 1) (.l 0), g := some (2, true) }, { o := .pk (.l 3) (.l 0) (.b false) }, { o := .mv (.l 0) }, { o := .ld (.v 22) 2 true, g := some (0, true) }, { o := .ld (.v 24) 2 true, g := some (1, true) }, { o := .ca N.ref25_Same 0 [] [.l 1, .l 0], g := some (2, true) }, { o := .pk (.l 3) (.l 0) (.b false) }, { o := .mv (.l 0) }, { o := .mv (.v 27), g := some (0, true) }, { o := .mv (.v 29), g := some (1, true) }, { o := .bin .eql (.l 1) (.l 0), g := some (2, true) }, { o := .pk (.l 3) (.l 0) (.b false) }, { o := .mv (.l 0) }, { o := .ld (.v 26) 2 true, g := some (0, true) }, { o := .ld (.v 28) 2 true, g := some (1, true) }, { o := .ca N.ref25_Same 0 [] [.l 1, .l 0], g := some (2, true) }, { o := .pk (.l 3) (.l 0) (.b false) }, { o := .mv (.l 0) }, { o := .ld (.v 6) 2 true, g := some (0, true) }, { o := .iaa (.v 8) (.i 0) 3 1, g := some (1, true) }, { o := .ld (.l 0) 1 false, g := some (2, true) }, { o := .ca N.places_Possible 0 [] [.l 2, .l 0], g := some (3, true) }, { o := .ld (.v 6) 2 true, g := some (4, true) }, { o := .iaa (.v 8) (.i 0) 3 1, g := some (5, true) }, { o := .ld (.l 0) 1 false, g := some (6, true) }, { o := .ca N.ref25_Possible 0 [] [.l 2, .l 0], g := some (7, true) }, { o := .ca N.ref23_SameInts 0 [] [.l 4, .l 0], g := some (8, true) }, { o := .pk (.l 9) (.l 0) (.b false) }, { o := .mv (.l 0), d := some 9 }] [(3, 0), (4, 0), (62, 56), (64, 56)]) .ret)))))))))))), res := [(9, none)] }
/-- /ref25.Same -/
def ref25_Same : Fn := { nargs := 2, vars := [0, 1, 2, 3, 4], body := (.seq (.reg [{ o := .bx (.v 0) 2, d := some 2 }, { o := .bx (.v 1) 2, d := some 3 }, { o := .mv (.b false), d := some 4 }] []) (.seq (.reg [{ o := .fa (.v 2) 0 }, { o := .ld (.l 0) 1 false }, { o := .fa (.v 3) 0 }, { o := .ld (.l 0) 1 false }, { o := .bin .eql (.l 2) (.l 0) }, { o := .mv (.l 0) }, { o := .fa (.v 2) 1, g := some (0, true) }, { o := .ld (.l 0) 1 false, g := some (1, true) }, { o := .fa (.v 3) 1, g := some (2, true) }, { o := .ld (.l 0) 1 false, g := some (3, true) }, { o := .ca N.ref23_SameInts 0 [] [.l 2, .l 0], g := some (4, true) }, { o := .pk (.l 5) (.l 0) (.b false) }, { o := .mv (.l 0), d := some 4 }] []) .ret)), res := [(4, none)] }
/-- /law25.row -/
def law25_row : Fn := { nargs := 0, vars := [0, 1, 2, 3], body := (.seq (.reg [{ o := .al [.nil, .nil] [], d := some 0 }] []) (.seq (.reg [{ o := .bd [.t (.int .i64 (0)), .t (.int .i64 (0))] [(0, 1, .i 1), (1, 1, .i 1)] }, { o := .bd [.t (.int .i64 (0)), .t (.int .i64 (0)), .t (.int .i64 (0)), .t (.int .i64 (0)), .t (.bool false), .t (.bool false), .t (.int .i64 (0)), .t (.int .i64 (0)), .t (.int .i64 (0)), .t (.int .i64 (0))] [(2, 1, .i 12), (3, 1, .i 1), (4, 1, .b true), (6, 2, .l 0)] }, { o := .al [.t (.int .i64 (0)), .t (.int .i64 (0)), .t (.int .i64 (0)), .t (.int .i64 (0)), .t (.bool false), .t (.bool false), .t (.int .i64 (0)), .t (.int .i64 (0)), .t (.int .i64 (0)), .t (.int .i64 (0))] [], d := some 1 }, { o := .st (.l 0) (.l 1) 10 [] }] []) (.seq (.reg [{ o := .al [.t (.int .i64 (0)), .t (.int .i64 (0)), .t (.int .i64 (0)), .t (.int .i64 (0)), .t (.bool false), .t (.bool false), .t (.int .i64 (0)), .t (.int .i64 (0)), .t (.int .i64 (0)), .t (.int .i64 (0))] [], d := some 2 }, { o := .al [.t (.int .i64 (0)), .t (.int .i64 (0)), .t (.int .i64 (0)), .t (.int .i64 (0)), .t (.bool false), .t (.bool false), .t (.int .i64 (0)), .t (.int .i64 (0)), .t (.int .i64 (0)), .t (.int .i64 (0))] [], d := some 3 }, { o := .ld (.v 1) 10 true }, { o := .ld (.v 1) 10 true }, { o := .st (.l 3) (.l 1) 10 [] }, { o := .st (.l 3) (.l 1) 10 [] }] [(3, 5)]) (.seq (.reg [{ o := .fa (.v 2) 1 }, { o := .st (.l 0) (.i 1) 1 [] }, { o := .fa (.v 3) 0 }, { o := .st (.l 0) (.i 1) 1 [] }, { o := .fa (.v 3) 1 }, { o := .st (.l 0) (.i 2) 1 [] }] []) (.seq (.reg [{ o := .bd [.t (.int .i64 (0)), .t (.bool false)] [(1, 1, .b true)] }, { o := .bd [.t (.int .i64 (0)), .t (.bool false)] [] }, { o := .bd [.t (.int .i64 (0)), .t (.bool false)] [] }, { o := .bs [.l 2, .l 1, .l 0] 2 }, { o := .ld (.v 2) 10 true }, { o := .ld (.v 3) 10 true }, { o := .bs [.l 1, .l 0] 10 }, { o := .bd [.nil, .nil] [(0, 1, .l 3), (1, 1, .l 0)] }, { o := .st (.v 0) (.l 0) 2 [] }] []) .ret))))), res := [(0, some (2, true))] }
/-- /places.nowhere -/
def places_nowhere : Fn := { nargs := 1, vars := [0, 1, 2], body := (.seq (.reg [{ o := .bx (.v 0) 2, d := some 1 }, { o := .mv (.c (.nil)), d := some 2 }] []) (.seq (.reg [{ o := .bs [.i 1099511627776] 1 }, { o := .fa (.v 1) 0 }, { o := .ld (.l 0) 1 false }, { o := .ln (.l 0) }, { o := .ca N.slices_Repeat_int_int 1 [] [.l 3, .l 0] }, { o := .mv (.l 0), d := some 2 }] []) .ret)), res := [(2, none)] }
def places_lowered_l1b : C := (.seq (.ite [{ o := .ld (.v 9) 1 false }] [] 0 .skip (.exit 0)) (.seq (.blk 1 (.seq (.reg [{ o := .st (.v 9) (.b false) 1 [] }] []) (.reg [{ o := .ld (.v 4) 2 true }, { o := .ld (.v 8) 1 false }, { o := .mf N.places_lowered_1 [.v 5, .v 8, .v 6, .v 9] }, { o := .ca N.places_arrivals 0 [1] [.l 2, .l 1, .l 0] }] []))) (.seq (.reg [{ o := .ld (.v 9) 1 false, d := some 10 }] []) (.reg [{ o := .al [.t (.bool false)] [], d := some 9 }, { o := .st (.l 0) (.v 10) 1 [] }] []))))
def places_lowered_l1 : C := .loop false [0, 1, 2, 3, 7, 10] K.places_lowered_l1b
/-- /places.lowered -/
def places_lowered : Fn := { nargs := 4, vars := [0, 1, 2, 3, 4, 6, 7, 8, 9, 10, 18], body := (.seq (.reg [{ o := .bx (.v 0) 2, d := some 4 }, { o := .bx (.v 2) 1, d := some 5 }, { o := .bx (.v 3) 1, d := some 6 }, { o := .mv (.c (.nil)), d := some 7 }] []) (.seq (.reg [{ o := .mv (.v 1) }, { o := .ca N.slices_Clone_int_int 1 [] [.l 0] }, { o := .al [.nil] [], d := some 8 }, { o := .st (.l 0) (.l 1) 1 [] }] []) (.seq (.seq (.reg [{ o := .al [.t (.bool false)] [], d := some 9 }, { o := .st (.l 0) (.b true) 1 [] }] []) (.blk 0 K.places_lowered_l1)) (.seq (.reg [{ o := .ld (.v 8) 1 false }, { o := .mv (.l 0), d := some 7 }] []) .ret)))), res := [(7, none)] }
/-- /places.all -/
def places_all : Fn := { nargs := 1, vars := [2], body := (.seq (.reg [{ o := .mv (.b false), d := some 0 }] []) (.seq (.reg [{ o := .mv (.b true), d := some 0 }] []) .ret)), res := [(0, none)] }
/-- /places.shaped -/
def places_shaped : Fn := { nargs := 2, vars := [0, 1, 2, 3, 4], body := (.seq (.reg [{ o := .bx (.v 0) 2, d := some 2 }, { o := .bx (.v 1) 2, d := some 3 }, { o := .mv (.b false), d := some 4 }] []) (.seq (.reg [{ o := .fa (.v 3) 1 }, { o := .ld (.l 0) 1 false }, { o := .ln (.l 0) }, { o := .fa (.v 2) 0 }, { o := .ld (.l 0) 1 false }, { o := .ln (.l 0) }, { o := .bin .eql (.l 3) (.l 0) }, { o := .mv (.l 0) }, { o := .fa (.v 3) 0, g := some (0, true) }, { o := .ld (.l 0) 1 false, g := some (1, true) }, { o := .ca N.lists_In 0 [] [.l 0, .i 0, .i 2147483648], g := some (2, true) }, { o := .pk (.l 3) (.l 0) (.b false) }, { o := .mv (.l 0) }, { o := .fa (.v 3) 1, g := some (0, true) }, { o := .ld (.l 0) 1 false, g := some (1, true) }, { o := .ca N.slices_ContainsFunc_int_int 0 [] [.l 0, .c (.fn N.places_shaped_1 [])], g := some (2, true) }, { o := .un .not (.l 0), g := some (3, true) }, { o := .pk (.l 4) (.l 0) (.b false) }, { o := .mv (.l 0), d := some 4 }] []) .ret)), res := [(4, none)] }
def slices_Equal_int_int_l1b : C := (.its  [{ o := .bin .lss (.v 5) (.v 4) }] [] 0 .skip (.exit 0) (.seq (.blk 1 (.seq (.reg [{ o := .mv (.v 5) }, { o := .mv (.l 0), d := some 3 }] []) (.ite [{ o := .mv (.v 0) }, { o := .mv (.v 3) }, { o := .ia (.l 1) (.l 0) 1 }, { o := .ld (.l 0) 1 false }, { o := .mv (.v 1) }, { o := .mv (.v 3) }, { o := .ia (.l 1) (.l 0) 1 }, { o := .ld (.l 0) 1 false }, { o := .bin .neq (.l 4) (.l 0) }] [] 0 (.seq (.reg [{ o := .mv (.b false), d := some 2 }] []) .ret) .skip))) (.reg [{ o := .bin .add (.v 5) (.i 1) }, { o := .mv (.l 0), d := some 5 }] [])))
def slices_Equal_int_int_l1 : C := .loop true [2, 3] K.slices_Equal_int_int_l1b
/-- slices.Equal[[]int,int] -/
def slices_Equal_int_int : Fn := { nargs := 2, vars := [0, 1, 4, 5, 12, 13], body := (.seq (.reg [{ o := .mv (.b false), d := some 2 }] []) (.seq (.ite [{ o := .mv (.v 0) }, { o := .ln (.l 0) }, { o := .mv (.v 1) }, { o := .ln (.l 0) }, { o := .bin .neq (.l 2) (.l 0) }] [] 0 (.seq (.reg [{ o := .mv (.b false), d := some 2 }] []) .ret) .skip) (.seq (.seq (.reg [{ o := .mv (.v 0) }, { o := .ln (.l 0), d := some 4 }, { o := .mv (.i 0), d := some 5 }] []) (.blk 0 K.slices_Equal_int_int_l1)) (.seq (.reg [{ o := .mv (.b true), d := some 2 }] []) .ret)))), res := [(2, none)] }
/-- /places.given -/
def places_given : Fn := { nargs := 5, vars := [0, 1, 2, 3, 4, 5, 6, 10], body := (.seq (.reg [{ o := .bx (.v 0) 2, d := some 5 }, { o := .bx (.v 1) 2, d := some 6 }, { o := .mv (.i 0), d := some 7 }] []) (.seq (.blk 0 (.ite [{ o := .ld (.v 5) 2 true }, { o := .ld (.v 6) 2 true }, { o := .ca N.places_Valid 0 [] [.l 1, .l 0] }, { o := .un .not (.l 0) }, { o := .mv (.l 0) }, { o := .mv (.v 2), g := some (0, false) }, { o := .ln (.l 0), g := some (1, false) }, { o := .bin .eql (.l 0) (.i 0), g := some (2, false) }, { o := .pk (.l 3) (.b true) (.l 0) }, { o := .mv (.l 0) }, { o := .mv (.v 2), g := some (0, false) }, { o := .fa (.v 5) 0, g := some (1, false) }, { o := .ld (.l 0) 1 false, g := some (2, false) }, { o := .ln (.l 0), g := some (3, false) }, { o := .bin .sub (.l 0) (.i 1), g := some (4, false) }, { o := .ca N.lists_Rising 0 [] [.l 4, .i 0, .l 0], g := some (5, false) }, { o := .un .not (.l 0), g := some (6, false) }, { o := .pk (.l 7) (.b true) (.l 0) }, { o := .mv (.l 0) }] [] 0 (.seq (.reg [{ o := .mv (.i 6), d := some 7 }] []) .ret) (.ite [{ o := .mv (.v 3) }, { o := .ca N.lists_In 0 [] [.l 0, .i 0, .i 2147483648] }, { o := .un .not (.l 0) }, { o := .mv (.l 0) }, { o := .mv (.v 4), g := some (0, false) }, { o := .ca N.lists_In 0 [] [.l 0, .i 0, .i 2147483648], g := some (1, false) }, { o := .un .not (.l 0), g := some (2, false) }, { o := .pk (.l 3) (.b true) (.l 0) }, { o := .mv (.l 0) }, { o := .mv (.v 3), g := some (0, false) }, { o := .mv (.v 4), g := some (1, false) }, { o := .bin .gtr (.l 1) (.l 0), g := some (2, false) }, { o := .pk (.l 3) (.b true) (.l 0) }, { o := .mv (.l 0) }] [] 0 (.seq (.reg [{ o := .mv (.i 8), d := some 7 }] []) .ret) .skip))) (.seq (.reg [{ o := .mv (.i 0), d := some 7 }] []) .ret))), res := [(7, none)] }
/-- slices.Clone[[]int,int] -/
def slices_Clone_int_int : Fn := { nargs := 1, vars := [0, 2], body := (.seq (.reg [{ o := .mv (.c (.nil)), d := some 1 }] []) (.itk  [{ o := .mv (.v 0) }, { o := .eqk (.sl) false (.l 0) (.c (.nil)) }] [] 0 (.seq (.reg [{ o := .nw 1, d := some 1 }] []) .ret) .skip (.seq (.reg [{ o := .bsr [] 1 }, { o := .mv (.v 0) }, { o := .app (.l 1) (.l 0) false 1 }, { o := .mv (.l 0), d := some 1 }] []) .ret))), res := [(1, none)] }
/-- /places.Absent.1 -/
def places_Absent_1 : Fn := { nargs := 2, vars := [0, 1, 3], body := (.seq (.reg [{ o := .mv (.b false), d := some 2 }] []) (.seq (.reg [{ o := .ld (.v 1) 1 false }, { o := .mv (.v 0) }, { o := .ca N.slices_Contains_int_int 0 [] [.l 1, .l 0] }, { o := .mv (.l 0), d := some 2 }] []) .ret)), res := [(2, none)] }
/-- /ref25.Renew -/
def ref25_Renew : Fn := { nargs := 3, vars := [0, 1, 2, 3, 4, 6, 7], body := (.seq (.reg [{ o := .bx (.v 0) 2, d := some 3 }, { o := .bx (.v 1) 2, d := some 4 }, { o := .al [.t (.int .i64 (0)), .nil] [], d := some 5 }, { o := .mv (.i 0), d := some 6 }] []) (.seq (.ite [{ o := .ld (.v 3) 2 true }, { o := .ca N.ref01_Check 0 [] [.l 0] }, { o := .bin .neq (.l 0) (.i 0) }, { o := .mv (.l 0) }, { o := .ld (.v 4) 2 true, g := some (0, false) }, { o := .fa (.v 3) 0, g := some (1, false) }, { o := .ld (.l 0) 1 false, g := some (2, false) }, { o := .ln (.l 0), g := some (3, false) }, { o := .ca N.ref25_Plain 0 [] [.l 3, .l 0], g := some (4, false) }, { o := .un .not (.l 0), g := some (5, false) }, { o := .pk (.l 6) (.b true) (.l 0) }] [] 0 (.seq (.reg [{ o := .ld (.v 4) 2 true }, { o := .ca N.ref25_Copy 0 [] [.l 0] }, { o := .st (.v 5) (.l 0) 2 [] }, { o := .mv (.i 6), d := some 6 }] []) .ret) .skip) (.seq (.ite [{ o := .mv (.v 2) }, { o := .fa (.v 4) 0 }, { o := .ld (.l 0) 1 false }, { o := .bin .lss (.l 2) (.l 0) }, { o := .mv (.l 0) }, { o := .mv (.v 2), g := some (0, false) }, { o := .bin .gtr (.l 0) (.i 2147483648), g := some (1, false) }, { o := .pk (.l 2) (.b true) (.l 0) }] [] 0 (.seq (.reg [{ o := .ld (.v 4) 2 true }, { o := .ca N.ref25_Copy 0 [] [.l 0] }, { o := .st (.v 5) (.l 0) 2 [] }, { o := .mv (.i 8), d := some 6 }] []) .ret) .skip) (.seq (.reg [{ o := .mv (.v 2) }, { o := .ld (.v 3) 2 true }, { o := .fa (.v 4) 1 }, { o := .ld (.l 0) 1 false }, { o := .mv (.v 2) }, { o := .ca N.ref25_Close 0 [] [.l 3, .l 1, .l 0] }, { o := .bd [.t (.int .i64 (0)), .nil] [(0, 1, .l 5), (1, 1, .l 0)] }, { o := .st (.v 5) (.l 0) 2 [] }, { o := .mv (.i 0), d := some 6 }] []) .ret)))), res := [(5, some (2, true)), (6, none)] }
/-- /places.Raise -/
def places_Raise : Fn := { nargs := 2, vars := [0, 1, 2, 4, 5], body := (.seq (.reg [{ o := .bx (.v 0) 2, d := some 2 }, { o := .al [.t (.int .i64 (0)), .nil] [], d := some 3 }, { o := .mv (.i 0), d := some 4 }] []) (.seq (.ite [{ o := .mv (.v 1) }, { o := .fa (.v 2) 0 }, { o := .ld (.l 0) 1 false }, { o := .bin .lss (.l 2) (.l 0) }, { o := .mv (.l 0) }, { o := .mv (.v 1), g := some (0, false) }, { o := .bin .gtr (.l 0) (.i 2147483648), g := some (1, false) }, { o := .pk (.l 2) (.b true) (.l 0) }] [] 0 (.seq (.reg [{ o := .ld (.v 2) 2 true }, { o := .st (.v 3) (.l 0) 2 [] }, { o := .mv (.i 8), d := some 4 }] []) .ret) .skip) (.seq (.reg [{ o := .mv (.v 1) }, { o := .fa (.v 2) 1 }, { o := .ld (.l 0) 1 false }, { o := .ca N.slices_Clone_int_int 0 [] [.l 0] }, { o := .bd [.t (.int .i64 (0)), .nil] [(0, 1, .l 3), (1, 1, .l 0)] }, { o := .st (.v 3) (.l 0) 2 [] }, { o := .mv (.i 0), d := some 4 }] []) .ret))), res := [(3, some (2, true)), (4, none)] }
def places_arrivals_l2b : C := (.its  [{ o := .bin .lss (.v 14) (.i 2) }] [] 0 .skip (.exit 2) (.seq (.blk 3 (.seq (.reg [{ o := .ix (.v 13) (.v 14) 2 1 false }, { o := .mv (.l 0), d := some 6 }] []) (.seq (.reg [{ o := .fa (.v 5) 0 }, { o := .ld (.l 0) 1 false }, { o := .fa (.v 5) 1 }, { o := .ld (.l 0) 1 false }, { o := .mv (.l 2), d := some 7 }, { o := .mv (.l 1), d := some 8 }] []) (.seq (.ite [{ o := .mv (.v 6) }] [] 0 (.reg [{ o := .mv (.v 8) }, { o := .mv (.v 7) }, { o := .mv (.l 1), d := some 7 }, { o := .mv (.l 1), d := some 8 }] []) .skip) (.seq (.reg [{ o := .ld (.v 3) 2 true }, { o := .mv (.v 4) }, { o := .mv (.v 6) }, { o := .ca N.walk_Time 0 [] [.l 2, .l 1, .l 0] }, { o := .mv (.l 0), d := some 9 }] []) (.ite [{ o := .mv (.v 9) }, { o := .bin .geq (.l 0) (.i 0) }, { o := .mv (.l 0) }, { o := .mv (.v 1), g := some (0, true) }, { o := .mv (.v 7), g := some (1, true) }, { o := .ia (.l 1) (.l 0) 1, g := some (2, true) }, { o := .ld (.l 0) 1 false, g := some (3, true) }, { o := .bin .lss (.l 0) (.i 1099511627776), g := some (4, true) }, { o := .pk (.l 5) (.l 0) (.b false) }] [] 0 (.reg [{ o := .mv (.v 2) }, { o := .mv (.v 7) }, { o := .mv (.v 8) }, { o := .mv (.v 1) }, { o := .mv (.v 7) }, { o := .ia (.l 1) (.l 0) 1 }, { o := .ld (.l 0) 1 false }, { o := .mv (.v 9) }, { o := .bin .add (.l 1) (.l 0) }, { o := .cw (.l 8) 0 [] [.l 7, .l 6, .l 0] }] []) .skip)))))) (.reg [{ o := .bin .add (.v 14) (.i 1) }, { o := .mv (.l 0), d := some 14 }] [])))
def places_arrivals_l2 : C := .loop true [0, 6, 7, 8, 9] K.places_arrivals_l2b
def places_arrivals_l1b : C := (.its  [{ o := .bin .lss (.v 12) (.v 11) }] [] 0 .skip (.exit 0) (.seq (.blk 1 (.seq (.reg [{ o := .mv (.v 12) }, { o := .ia (.v 10) (.v 12) 10 }, { o := .ld (.l 0) 10 true }, { o := .al [.t (.int .i64 (0)), .t (.int .i64 (0)), .t (.int .i64 (0)), .t (.int .i64 (0)), .t (.bool false), .t (.bool false), .t (.int .i64 (0)), .t (.int .i64 (0)), .t (.int .i64 (0)), .t (.int .i64 (0))] [], d := some 5 }, { o := .mv (.l 3), d := some 4 }, { o := .st (.l 1) (.l 2) 10 [] }] []) (.seq (.reg [{ o := .bd [.t (.bool false), .t (.bool false)] [(0, 1, .b false), (1, 1, .b true)], d := some 13 }, { o := .mv (.i 0), d := some 14 }] []) (.blk 2 K.places_arrivals_l2)))) (.reg [{ o := .bin .add (.v 12) (.i 1) }, { o := .mv (.l 0), d := some 12 }] [])))
def places_arrivals_l1 : C := .loop true [0, 4, 5, 6, 7, 8, 9, 13, 14] K.places_arrivals_l1b
/-- /places.arrivals -/
def places_arrivals : Fn := { nargs := 3, vars := [0, 1, 2, 3, 6, 7, 9, 10, 11, 12, 14, 15, 16, 21, 22], body := (.seq (.reg [{ o := .bx (.v 0) 2, d := some 3 }] []) (.seq (.reg [{ o := .fa (.v 3) 1 }, { o := .ld (.l 0) 1 false, d := some 10 }, { o := .ln (.l 0), d := some 11 }, { o := .mv (.i 0), d := some 12 }] []) (.blk 0 K.places_arrivals_l1))), res := [] }
/-- /places.lowered.1 -/
def places_lowered_1 : Fn := { nargs := 7, vars := [1, 2, 3, 4, 5, 6], body := (.seq (.reg [{ o := .mv (.v 1) }, { o := .ld (.v 2) 1 false }, { o := .mx [.l 1, .l 0] }, { o := .mv (.l 0), d := some 1 }] []) (.ite [{ o := .mv (.v 1) }, { o := .bin .leq (.l 0) (.i 2147483648) }, { o := .mv (.l 0) }, { o := .mv (.v 1), g := some (0, true) }, { o := .ld (.v 3) 1 false, g := some (1, true) }, { o := .mv (.v 0), g := some (2, true) }, { o := .ia (.l 1) (.l 0) 1, g := some (3, true) }, { o := .ld (.l 0) 1 false, g := some (4, true) }, { o := .bin .lss (.l 4) (.l 0), g := some (5, true) }, { o := .pk (.l 6) (.l 0) (.b false) }, { o := .mv (.l 0) }, { o := .ld (.v 4) 1 false, g := some (0, true) }, { o := .mv (.v 0), g := some (1, true) }, { o := .cw (.l 1) 0 [] [.l 0], g := some (2, true) }, { o := .pk (.l 3) (.l 0) (.b false) }] [] 0 (.reg [{ o := .ld (.v 3) 1 false }, { o := .mv (.v 0) }, { o := .mv (.v 1) }, { o := .ia (.l 2) (.l 1) 1 }, { o := .st (.l 0) (.l 1) 1 [] }, { o := .st (.v 5) (.b true) 1 [] }] []) .skip)), res := [] }
/-- /places.shaped.1 -/
def places_shaped_1 : Fn := { nargs := 1, vars := [0, 2], body := (.seq (.reg [{ o := .mv (.b false), d := some 1 }] []) (.seq (.reg [{ o := .mv (.v 0) }, { o := .bin .neq (.l 0) (.i 1099511627776) }, { o := .mv (.l 0) }, { o := .mv (.v 0), g := some (0, true) }, { o := .ca N.lists_In 0 [] [.l 0, .i 0, .i 2147483648], g := some (1, true) }, { o := .un .not (.l 0), g := some (2, true) }, { o := .pk (.l 3) (.l 0) (.b false) }, { o := .mv (.l 0), d := some 1 }] []) .ret)), res := [(1, none)] }
/-- /walk.Time -/
def walk_Time : Fn := { nargs := 3, vars := [0, 1, 2, 3, 6], body := (.seq (.reg [{ o := .bx (.v 0) 2, d := some 3 }, { o := .mv (.i 0), d := some 4 }] []) (.seq (.ite [{ o := .ld (.v 3) 2 true }, { o := .ca N.plan_Valid 0 [] [.l 0] }, { o := .un .not (.l 0) }, { o := .mv (.l 0) }, { o := .mv (.v 1), g := some (0, false) }, { o := .bin .lss (.l 0) (.i 0), g := some (1, false) }, { o := .pk (.l 2) (.b true) (.l 0) }, { o := .mv (.l 0) }, { o := .mv (.v 1), g := some (0, false) }, { o := .fa (.v 3) 1, g := some (1, false) }, { o := .ld (.l 0) 1 false, g := some (2, false) }, { o := .ln (.l 0), g := some (3, false) }, { o := .bin .geq (.l 3) (.l 0), g := some (4, false) }, { o := .pk (.l 5) (.b true) (.l 0) }] [] 0 (.seq (.reg [{ o := .mv (.i (-1)), d := some 4 }] []) .ret) .skip) (.seq (.reg [{ o := .ld (.v 3) 2 true }, { o := .mv (.v 1) }, { o := .mv (.v 2) }, { o := .ca N.walk_step 0 [] [.l 2, .l 1, .l 0] }, { o := .mv (.l 0), d := some 4 }] []) .ret))), res := [(4, none)] }
/-- /walk.step -/
def walk_step : Fn := { nargs := 3, vars := [0, 1, 2, 3, 6], body := (.seq (.reg [{ o := .bx (.v 0) 2, d := some 3 }, { o := .mv (.i 0), d := some 4 }] []) (.seq (.reg [{ o := .ld (.v 3) 2 true }, { o := .mv (.v 1) }, { o := .mv (.v 2) }, { o := .ca N.walk_quick 0 [] [] }, { o := .ca N.walk_with 0 [] [.l 3, .l 2, .l 1, .l 0] }, { o := .mv (.l 0), d := some 4 }] [(0, 4)]) .ret)), res := [(4, none)] }
/-- /walk.with -/
def walk_with : Fn := { nargs := 4, vars := [0, 1, 2, 3, 4, 7, 8, 9, 10, 11], body := (.seq (.reg [{ o := .bx (.v 0) 2, d := some 4 }, { o := .bx (.v 3) 3, d := some 5 }, { o := .mv (.i 0), d := some 6 }] []) (.seq (.reg [{ o := .fa (.v 4) 1 }, { o := .ld (.l 0) 1 false }, { o := .mv (.v 1) }, { o := .ia (.l 1) (.l 0) 10 }, { o := .ld (.l 0) 10 true }, { o := .al [.t (.int .i64 (0)), .t (.int .i64 (0)), .t (.int .i64 (0)), .t (.int .i64 (0)), .t (.bool false), .t (.bool false), .t (.int .i64 (0)), .t (.int .i64 (0)), .t (.int .i64 (0)), .t (.int .i64 (0))] [], d := some 7 }, { o := .st (.l 0) (.l 1) 10 [] }] []) (.seq (.ite [{ o := .fa (.v 7) 5 }, { o := .ld (.l 0) 1 false }, { o := .mv (.l 0) }, { o := .fa (.v 7) 4, g := some (0, false) }, { o := .ld (.l 0) 1 false, g := some (1, false) }, { o := .un .not (.l 0), g := some (2, false) }, { o := .pk (.l 3) (.b true) (.l 0) }] [] 0 (.seq (.reg [{ o := .mv (.i (-1)), d := some 6 }] []) .ret) .skip) (.seq (.reg [{ o := .fa (.v 4) 0 }, { o := .ld (.l 0) 1 false }, { o := .fa (.v 7) 1 }, { o := .ld (.l 0) 1 false }, { o := .ia (.l 2) (.l 0) 2 }, { o := .fa (.l 0) 0 }, { o := .ld (.l 0) 1 false }, { o := .fa (.v 4) 0 }, { o := .ld (.l 0) 1 false }, { o := .fa (.v 7) 0 }, { o := .ld (.l 0) 1 false }, { o := .ia (.l 2) (.l 0) 2 }, { o := .fa (.l 0) 0 }, { o := .ld (.l 0) 1 false }, { o := .bin .sub (.l 7) (.l 0) }, { o := .mv (.l 0), d := some 8 }] []) (.seq (.ite [{ o := .mv (.v 2) }] [] 0 (.reg [{ o := .mv (.v 8) }, { o := .un .neg (.l 0) }, { o := .mv (.l 0), d := some 8 }] []) .skip) (.seq (.reg [{ o := .fa (.v 5) 2 }, { o := .ld (.l 0) 1 false }, { o := .mv (.l 0), d := some 9 }] []) (.seq (.blk 0 (.ite [{ o := .mv (.v 8) }, { o := .bin .mul (.i 10) (.l 0) }, { o := .fa (.v 7) 2 }, { o := .ld (.l 0) 1 false }, { o := .bin .gtr (.l 2) (.l 0) }, { o := .mv (.l 0) }] [] 0 (.reg [{ o := .fa (.v 5) 0 }, { o := .ld (.l 0) 1 false }, { o := .mv (.l 0), d := some 9 }] []) (.ite [{ o := .mv (.v 8) }, { o := .bin .mul (.i (-10)) (.l 0) }, { o := .fa (.v 7) 2 }, { o := .ld (.l 0) 1 false }, { o := .bin .gtr (.l 2) (.l 0) }, { o := .mv (.l 0) }] [] 0 (.reg [{ o := .fa (.v 5) 1 }, { o := .ld (.l 0) 1 false }, { o := .mv (.l 0), d := some 9 }] []) .skip))) (.seq (.reg [{ o := .fa (.v 7) 2 }, { o := .ld (.l 0) 1 false }, { o := .bin .mul (.i 10) (.l 0) }, { o := .mv (.v 9) }, { o := .bin .add (.l 1) (.l 0) }, { o := .bin .sub (.l 0) (.i 1) }, { o := .mv (.v 9) }, { o := .bin .quo (.l 1) (.l 0) }, { o := .mv (.l 0), d := some 6 }] []) .ret)))))))), res := [(6, none)] }
/-- /walk.quick -/
def walk_quick : Fn := { nargs := 0, vars := [0], body := (.seq (.reg [{ o := .al [.t (.int .i64 (0)), .t (.int .i64 (0)), .t (.int .i64 (0))] [], d := some 0 }] []) (.seq (.reg [{ o := .bd [.t (.int .i64 (0)), .t (.int .i64 (0)), .t (.int .i64 (0))] [(0, 1, .i 6), (1, 1, .i 9), (2, 1, .i 12)] }, { o := .st (.v 0) (.l 0) 3 [] }] []) .ret)), res := [(0, some (3, true))] }
end Go.Ev.K
namespace Go.Ev
class Has9 [Lib] : Prop where
  t_places_Absent : Lib.fs N.places_Absent = some K.places_Absent
  t_places_Renew : Lib.fs N.places_Renew = some K.places_Renew
  t_law25_agree : Lib.fs N.law25_agree = some K.law25_agree
  t_ref25_Same : Lib.fs N.ref25_Same = some K.ref25_Same
  t_law25_row : Lib.fs N.law25_row = some K.law25_row
  t_places_nowhere : Lib.fs N.places_nowhere = some K.places_nowhere
  t_places_lowered : Lib.fs N.places_lowered = some K.places_lowered
  t_places_all : Lib.fs N.places_all = some K.places_all
  t_places_shaped : Lib.fs N.places_shaped = some K.places_shaped
  t_slices_Equal_int_int : Lib.fs N.slices_Equal_int_int = some K.slices_Equal_int_int
  t_places_given : Lib.fs N.places_given = some K.places_given
  t_slices_Clone_int_int : Lib.fs N.slices_Clone_int_int = some K.slices_Clone_int_int
  t_places_Absent_1 : Lib.fs N.places_Absent_1 = some K.places_Absent_1
  t_ref25_Renew : Lib.fs N.ref25_Renew = some K.ref25_Renew
  t_places_Raise : Lib.fs N.places_Raise = some K.places_Raise
  t_places_arrivals : Lib.fs N.places_arrivals = some K.places_arrivals
  t_places_lowered_1 : Lib.fs N.places_lowered_1 = some K.places_lowered_1
  t_places_shaped_1 : Lib.fs N.places_shaped_1 = some K.places_shaped_1
  t_walk_Time : Lib.fs N.walk_Time = some K.walk_Time
  t_walk_step : Lib.fs N.walk_step = some K.walk_step
  t_walk_with : Lib.fs N.walk_with = some K.walk_with
  t_walk_quick : Lib.fs N.walk_quick = some K.walk_quick
namespace K
variable [Lib] [Has9]
theorem t_places_Absent : Lib.fs N.places_Absent = some K.places_Absent := Has9.t_places_Absent
theorem t_places_Renew : Lib.fs N.places_Renew = some K.places_Renew := Has9.t_places_Renew
theorem t_law25_agree : Lib.fs N.law25_agree = some K.law25_agree := Has9.t_law25_agree
theorem t_ref25_Same : Lib.fs N.ref25_Same = some K.ref25_Same := Has9.t_ref25_Same
theorem t_law25_row : Lib.fs N.law25_row = some K.law25_row := Has9.t_law25_row
theorem t_places_nowhere : Lib.fs N.places_nowhere = some K.places_nowhere := Has9.t_places_nowhere
theorem t_places_lowered : Lib.fs N.places_lowered = some K.places_lowered := Has9.t_places_lowered
theorem t_places_all : Lib.fs N.places_all = some K.places_all := Has9.t_places_all
theorem t_places_shaped : Lib.fs N.places_shaped = some K.places_shaped := Has9.t_places_shaped
theorem t_slices_Equal_int_int : Lib.fs N.slices_Equal_int_int = some K.slices_Equal_int_int := Has9.t_slices_Equal_int_int
theorem t_places_given : Lib.fs N.places_given = some K.places_given := Has9.t_places_given
theorem t_slices_Clone_int_int : Lib.fs N.slices_Clone_int_int = some K.slices_Clone_int_int := Has9.t_slices_Clone_int_int
theorem t_places_Absent_1 : Lib.fs N.places_Absent_1 = some K.places_Absent_1 := Has9.t_places_Absent_1
theorem t_ref25_Renew : Lib.fs N.ref25_Renew = some K.ref25_Renew := Has9.t_ref25_Renew
theorem t_places_Raise : Lib.fs N.places_Raise = some K.places_Raise := Has9.t_places_Raise
theorem t_places_arrivals : Lib.fs N.places_arrivals = some K.places_arrivals := Has9.t_places_arrivals
theorem t_places_lowered_1 : Lib.fs N.places_lowered_1 = some K.places_lowered_1 := Has9.t_places_lowered_1
theorem t_places_shaped_1 : Lib.fs N.places_shaped_1 = some K.places_shaped_1 := Has9.t_places_shaped_1
theorem t_walk_Time : Lib.fs N.walk_Time = some K.walk_Time := Has9.t_walk_Time
theorem t_walk_step : Lib.fs N.walk_step = some K.walk_step := Has9.t_walk_step
theorem t_walk_with : Lib.fs N.walk_with = some K.walk_with := Has9.t_walk_with
theorem t_walk_quick : Lib.fs N.walk_quick = some K.walk_quick := Has9.t_walk_quick
end K
end Go.Ev

/- The program: walking times; slices.Clone and slices.Equal; small functions of places. -/
namespace Go.Ev
open Go
variable [Lib] [Has1] [Has2] [Has6] [Has7] [Has8] [Has9]

abbrev arr1 (l : List Int) : Obj := .arr 1 false 0 ((l.map (T.int .i64)).map .t)
theorem clone0_ok (l : List Int) (hl : l.length ≤ 1000000) : CALL 0 N.slices_Clone_int_int [.t (tL l)] [] = some (.t (tL l), []) := by
  refine CALL_of K.t_slices_Clone_int_int rfl ?_
  by_cases h0 : l = []
  · subst h0
    simp only [tL, List.map_nil]
    simp (disch := omega) only [go_sem, K.slices_Clone_int_int, ↓reduceIte, List.map_nil, Nat.reduceAdd, Nat.reduceSub]
  · have e := fun H => opEqk_sl H (l.map (T.int .i64)) (by simpa using h0)
    simp (disch := omega) only [go_sem, K.slices_Clone_int_int, ↓reduceIte, e, Nat.reduceAdd, Nat.reduceSub]
theorem clone1_ok (l : List Int) (hl : l.length ≤ 1000000) : CALL 1 N.slices_Clone_int_int [.t (tL l)] [] = some (.ref 0 0 l.length, [arr1 l]) := by
  refine CALL_of K.t_slices_Clone_int_int rfl ?_
  by_cases h0 : l = []
  · subst h0
    simp only [tL, List.map_nil]
    simp (disch := omega) only [go_sem, K.slices_Clone_int_int, ↓reduceIte, List.map_nil, List.length_nil, Nat.reduceAdd, Nat.reduceSub]
    rfl
  · have e := fun H => opEqk_sl H (l.map (T.int .i64)) (by simpa using h0)
    simp (disch := omega) only [go_sem, K.slices_Clone_int_int, ↓reduceIte, e, Nat.reduceAdd, Nat.reduceSub]
/- walking times -/
/- places -/
end Go.Ev

/- MADE BY PROGRAM (lib.py): the compact code of functions. -/
namespace Go.Ev.K
open Go.Ev
def law27_HeadsMore_l1b : C := (.seq (.ite [{ o := .mv (.v 9) }, { o := .fa (.v 3) 0 }, { o := .ld (.l 0) 1 false }, { o := .ln (.l 0) }, { o := .bin .lss (.l 3) (.l 0) }] [] 0 .skip (.exit 0)) (.seq (.blk 1 (.seq (.reg [{ o := .mv (.v 7) }, { o := .mv (.v 9) }, { o := .bs [.l 0] 1 }, { o := .app (.l 2) (.l 0) true 1 }, { o := .mv (.l 0), d := some 7 }] []) (.ite [{ o := .mv (.v 6) }, { o := .mv (.v 9) }, { o := .ca N.ref23_Has 0 [] [.l 1, .l 0] }, { o := .mv (.l 0) }, { o := .mv (.v 2), g := some (0, false) }, { o := .ca N.made_Dice_One 0 [] [.l 0, .i 2], g := some (1, false) }, { o := .pk (.l 2) (.b true) (.l 0) }] [] 0 (.reg [{ o := .mv (.v 8) }, { o := .mv (.v 9) }, { o := .bs [.l 0] 1 }, { o := .app (.l 2) (.l 0) true 1 }, { o := .mv (.l 0), d := some 8 }] []) .skip))) (.reg [{ o := .mv (.v 9) }, { o := .bin .add (.l 0) (.i 1) }, { o := .mv (.l 0), d := some 9 }] [])))
def law27_HeadsMore_l1 : C := .loop true [0, 1, 10, 11, 12, 13, 14, 15] K.law27_HeadsMore_l1b
def law27_HeadsMore_l3b : C := (.seq (.ite [{ o := .mv (.v 11) }, { o := .fa (.v 4) 0 }, { o := .ld (.l 0) 1 false }, { o := .mv (.v 10) }, { o := .ia (.l 1) (.l 0) 2 }, { o := .fa (.l 0) 1 }, { o := .ld (.l 0) 1 false }, { o := .ln (.l 0) }, { o := .bin .lss (.l 7) (.l 0) }] [] 0 .skip (.exit 4)) (.seq (.blk 5 (.ite [{ o := .fa (.v 4) 0 }, { o := .ld (.l 0) 1 false }, { o := .mv (.v 10) }, { o := .ia (.l 1) (.l 0) 2 }, { o := .fa (.l 0) 1 }, { o := .ld (.l 0) 1 false }, { o := .mv (.v 11) }, { o := .ia (.l 1) (.l 0) 2 }, { o := .ld (.l 0) 2 true }, { o := .mv (.v 5) }, { o := .ca N.ref25_Possible 0 [] [.l 1, .l 0] }, { o := .ln (.l 0) }, { o := .bin .eql (.l 0) (.i 0) }] [] 0 (.seq (.reg [{ o := .ca N.law27_awake 0 [] [] }, { o := .mv (.l 0), d := some 1 }] []) .ret) .skip)) (.reg [{ o := .mv (.v 11) }, { o := .bin .add (.l 0) (.i 1) }, { o := .mv (.l 0), d := some 11 }] [])))
def law27_HeadsMore_l3 : C := .loop true [0, 1, 2, 3, 9, 12, 13, 14, 15] K.law27_HeadsMore_l3b
def law27_HeadsMore_l2b : C := (.seq (.ite [{ o := .mv (.v 10) }, { o := .fa (.v 4) 0 }, { o := .ld (.l 0) 1 false }, { o := .ln (.l 0) }, { o := .bin .lss (.l 3) (.l 0) }] [] 0 .skip (.exit 2)) (.seq (.blk 3 (.seq (.reg [{ o := .mv (.i 0), d := some 11 }] []) (.blk 4 K.law27_HeadsMore_l3))) (.reg [{ o := .mv (.v 10) }, { o := .bin .add (.l 0) (.i 1) }, { o := .mv (.l 0), d := some 10 }] [])))
def law27_HeadsMore_l2 : C := .loop true [0, 1, 2, 3, 9, 11, 12, 13, 14, 15] K.law27_HeadsMore_l2b
/-- /law27.HeadsMore -/
def law27_HeadsMore : Fn := { nargs := 1, vars := [0, 2, 3, 4, 5, 6, 7, 8, 9, 10, 11, 12, 13, 14, 15, 16], body := (.seq (.reg [{ o := .mv (.b false), d := some 1 }] []) (.seq (.ite [{ o := .mv (.v 0) }, { o := .ca N.made_Light 0 [] [.l 0] }, { o := .un .not (.l 0) }] [] 0 (.seq (.reg [{ o := .ca N.law27_awake 0 [] [] }, { o := .mv (.l 0), d := some 1 }] []) .ret) .skip) (.seq (.reg [{ o := .mv (.v 0) }, { o := .ca N.made_Roll 0 [] [.l 0] }, { o := .mv (.l 0), d := some 2 }] []) (.seq (.reg [{ o := .mv (.v 2) }, { o := .ca N.made_Dice_Mine 0 [] [.l 0] }, { o := .al [.nil, .nil] [], d := some 3 }, { o := .st (.l 0) (.l 1) 2 [] }] []) (.seq (.reg [{ o := .mv (.v 2) }, { o := .ld (.v 3) 2 true }, { o := .ca N.made_Dice_Belief 0 [] [.l 1, .l 0] }, { o := .al [.nil] [], d := some 4 }, { o := .st (.l 0) (.l 1) 1 [] }] []) (.seq (.reg [{ o := .ld (.v 4) 1 true }, { o := .ca N.made_Last 0 [] [.l 0] }, { o := .mv (.v 2) }, { o := .ca N.made_Dice_Next 0 [] [.l 0, .i 100] }, { o := .bin .add (.l 2) (.l 0) }, { o := .mv (.l 0), d := some 5 }] []) (.seq (.reg [{ o := .mv (.v 2) }, { o := .fa (.v 3) 0 }, { o := .ld (.l 0) 1 false }, { o := .ln (.l 0) }, { o := .ca N.made_Dice_Some 0 [] [.l 3, .l 0] }, { o := .mv (.l 0), d := some 6 }] []) (.seq (.reg [{ o := .nw 1, d := some 7 }, { o := .nw 1, d := some 8 }] []) (.seq (.seq (.reg [{ o := .mv (.i 0), d := some 9 }] []) (.blk 0 K.law27_HeadsMore_l1)) (.seq (.seq (.reg [{ o := .mv (.i 0), d := some 10 }] []) (.blk 2 K.law27_HeadsMore_l2)) (.seq (.reg [{ o := .al [.t (.int .i64 (0)), .t (.int .i64 (0))] [], d := some 12 }, { o := .al [.t (.int .i64 (0)), .t (.int .i64 (0))] [], d := some 13 }, { o := .al [.t (.int .i64 (0)), .t (.int .i64 (0))] [], d := some 14 }, { o := .ld (.v 4) 1 true }, { o := .mv (.v 6) }, { o := .mv (.v 5) }, { o := .ca N.heads_Count 0 [] [.l 2, .l 1, .l 0] }, { o := .ld (.v 4) 1 true }, { o := .mv (.v 8) }, { o := .mv (.v 5) }, { o := .ca N.heads_Count 0 [] [.l 2, .l 1, .l 0] }, { o := .ld (.v 4) 1 true }, { o := .mv (.v 7) }, { o := .mv (.v 5) }, { o := .ca N.heads_Count 0 [] [.l 2, .l 1, .l 0] }, { o := .st (.l 14) (.l 8) 2 [] }, { o := .st (.l 14) (.l 5) 2 [] }, { o := .st (.l 14) (.l 2) 2 [] }] [(0, 7), (0, 11), (0, 15), (1, 7), (1, 11), (1, 15), (2, 7), (2, 11), (2, 15), (7, 3), (11, 3), (11, 7)]) (.seq (.reg [{ o := .fa (.v 4) 0 }, { o := .ld (.l 0) 1 false }, { o := .ia (.l 0) (.i 0) 2 }, { o := .fa (.l 0) 0 }, { o := .ld (.l 0) 1 false }, { o := .ln (.l 0) }, { o := .mv (.l 0), d := some 15 }] []) (.seq (.reg [{ o := .ca N.law27_awake 0 [] [] }, { o := .mv (.l 0) }, { o := .fa (.v 12) 0, g := some (0, true) }, { o := .ld (.l 0) 1 false, g := some (1, true) }, { o := .fa (.v 13) 0, g := some (2, true) }, { o := .ld (.l 0) 1 false, g := some (3, true) }, { o := .bin .leq (.l 2) (.l 0), g := some (4, true) }, { o := .pk (.l 5) (.l 0) (.b false) }, { o := .mv (.l 0) }, { o := .fa (.v 12) 1, g := some (0, true) }, { o := .ld (.l 0) 1 false, g := some (1, true) }, { o := .fa (.v 13) 1, g := some (2, true) }, { o := .ld (.l 0) 1 false, g := some (3, true) }, { o := .bin .leq (.l 2) (.l 0), g := some (4, true) }, { o := .pk (.l 5) (.l 0) (.b false) }, { o := .mv (.l 0) }, { o := .fa (.v 14) 0, g := some (0, true) }, { o := .ld (.l 0) 1 false, g := some (1, true) }, { o := .mv (.v 15), g := some (2, true) }, { o := .bin .eql (.l 1) (.l 0), g := some (3, true) }, { o := .pk (.l 4) (.l 0) (.b false) }, { o := .mv (.l 0) }, { o := .fa (.v 14) 1, g := some (0, true) }, { o := .ld (.l 0) 1 false, g := some (1, true) }, { o := .mv (.v 15), g := some (2, true) }, { o := .bin .eql (.l 1) (.l 0), g := some (3, true) }, { o := .pk (.l 4) (.l 0) (.b false) }, { o := .mv (.l 0), d := some 1 }] []) .ret))))))))))))), res := [(1, none)] }
def law27_HeadsSplit_l1b : C := (.seq (.ite [{ o := .mv (.v 9) }, { o := .fa (.v 3) 0 }, { o := .ld (.l 0) 1 false }, { o := .ln (.l 0) }, { o := .bin .lss (.l 3) (.l 0) }] [] 0 .skip (.exit 0)) (.seq (.blk 1 (.seq (.reg [{ o := .mv (.v 2) }, { o := .ca N.made_Dice_Next 0 [] [.l 0, .i 3], d := some 13 }] []) (.blk 2 (.ite [{ o := .bin .eql (.v 13) (.i 0) }, { o := .mv (.l 0) }] [] 0 (.reg [{ o := .mv (.v 6) }, { o := .mv (.v 9) }, { o := .bs [.l 0] 1 }, { o := .app (.l 2) (.l 0) true 1 }, { o := .mv (.v 8) }, { o := .mv (.v 9) }, { o := .bs [.l 0] 1 }, { o := .app (.l 2) (.l 0) true 1 }, { o := .mv (.l 4), d := some 6 }, { o := .mv (.l 1), d := some 8 }] []) (.ite [{ o := .bin .eql (.v 13) (.i 1) }, { o := .mv (.l 0) }] [] 0 (.reg [{ o := .mv (.v 7) }, { o := .mv (.v 9) }, { o := .bs [.l 0] 1 }, { o := .app (.l 2) (.l 0) true 1 }, { o := .mv (.v 8) }, { o := .mv (.v 9) }, { o := .bs [.l 0] 1 }, { o := .app (.l 2) (.l 0) true 1 }, { o := .mv (.l 4), d := some 7 }, { o := .mv (.l 1), d := some 8 }] []) .skip))))) (.reg [{ o := .mv (.v 9) }, { o := .bin .add (.l 0) (.i 1) }, { o := .mv (.l 0), d := some 9 }] [])))
def law27_HeadsSplit_l1 : C := .loop true [0, 1, 10, 11, 12, 13] K.law27_HeadsSplit_l1b
/-- /law27.HeadsSplit -/
def law27_HeadsSplit : Fn := { nargs := 1, vars := [0, 2, 3, 4, 5, 6, 7, 8, 9, 10, 11, 12, 13, 38], body := (.seq (.reg [{ o := .mv (.b false), d := some 1 }] []) (.seq (.ite [{ o := .mv (.v 0) }, { o := .ca N.made_Light 0 [] [.l 0] }, { o := .un .not (.l 0) }] [] 0 (.seq (.reg [{ o := .ca N.law27_awake 0 [] [] }, { o := .mv (.l 0), d := some 1 }] []) .ret) .skip) (.seq (.reg [{ o := .mv (.v 0) }, { o := .ca N.made_Roll 0 [] [.l 0] }, { o := .mv (.l 0), d := some 2 }] []) (.seq (.reg [{ o := .mv (.v 2) }, { o := .ca N.made_Dice_Mine 0 [] [.l 0] }, { o := .al [.nil, .nil] [], d := some 3 }, { o := .st (.l 0) (.l 1) 2 [] }] []) (.seq (.reg [{ o := .mv (.v 2) }, { o := .ld (.v 3) 2 true }, { o := .ca N.made_Dice_Belief 0 [] [.l 1, .l 0] }, { o := .al [.nil] [], d := some 4 }, { o := .st (.l 0) (.l 1) 1 [] }] []) (.seq (.reg [{ o := .ld (.v 4) 1 true }, { o := .ca N.made_Last 0 [] [.l 0] }, { o := .mv (.v 2) }, { o := .ca N.made_Dice_Next 0 [] [.l 0, .i 100] }, { o := .bin .add (.l 2) (.l 0) }, { o := .mv (.l 0), d := some 5 }] []) (.seq (.reg [{ o := .nw 1, d := some 6 }, { o := .nw 1, d := some 7 }, { o := .nw 1, d := some 8 }] []) (.seq (.seq (.reg [{ o := .mv (.i 0), d := some 9 }] []) (.blk 0 K.law27_HeadsSplit_l1)) (.seq (.reg [{ o := .al [.t (.int .i64 (0)), .t (.int .i64 (0))] [], d := some 10 }, { o := .al [.t (.int .i64 (0)), .t (.int .i64 (0))] [], d := some 11 }, { o := .al [.t (.int .i64 (0)), .t (.int .i64 (0))] [], d := some 12 }, { o := .ld (.v 4) 1 true }, { o := .mv (.v 6) }, { o := .mv (.v 5) }, { o := .ca N.heads_Count 0 [] [.l 2, .l 1, .l 0] }, { o := .ld (.v 4) 1 true }, { o := .mv (.v 7) }, { o := .mv (.v 5) }, { o := .ca N.heads_Count 0 [] [.l 2, .l 1, .l 0] }, { o := .ld (.v 4) 1 true }, { o := .mv (.v 8) }, { o := .mv (.v 5) }, { o := .ca N.heads_Count 0 [] [.l 2, .l 1, .l 0] }, { o := .st (.l 14) (.l 8) 2 [] }, { o := .st (.l 14) (.l 5) 2 [] }, { o := .st (.l 14) (.l 2) 2 [] }] [(0, 7), (0, 11), (0, 15), (1, 7), (1, 11), (1, 15), (2, 7), (2, 11), (2, 15), (7, 3), (11, 3), (11, 7)]) (.seq (.reg [{ o := .ca N.law27_awake 0 [] [] }, { o := .mv (.l 0) }, { o := .fa (.v 12) 0, g := some (0, true) }, { o := .ld (.l 0) 1 false, g := some (1, true) }, { o := .fa (.v 10) 0, g := some (2, true) }, { o := .ld (.l 0) 1 false, g := some (3, true) }, { o := .fa (.v 11) 0, g := some (4, true) }, { o := .ld (.l 0) 1 false, g := some (5, true) }, { o := .bin .add (.l 2) (.l 0), g := some (6, true) }, { o := .bin .geq (.l 5) (.l 0), g := some (7, true) }, { o := .pk (.l 8) (.l 0) (.b false) }, { o := .mv (.l 0) }, { o := .fa (.v 12) 1, g := some (0, true) }, { o := .ld (.l 0) 1 false, g := some (1, true) }, { o := .fa (.v 10) 1, g := some (2, true) }, { o := .ld (.l 0) 1 false, g := some (3, true) }, { o := .fa (.v 11) 1, g := some (4, true) }, { o := .ld (.l 0) 1 false, g := some (5, true) }, { o := .bin .add (.l 2) (.l 0), g := some (6, true) }, { o := .bin .leq (.l 5) (.l 0), g := some (7, true) }, { o := .pk (.l 8) (.l 0) (.b false) }, { o := .mv (.l 0) }, { o := .fa (.v 12) 0, g := some (0, true) }, { o := .ld (.l 0) 1 false, g := some (1, true) }, { o := .fa (.v 12) 1, g := some (2, true) }, { o := .ld (.l 0) 1 false, g := some (3, true) }, { o := .bin .leq (.l 2) (.l 0), g := some (4, true) }, { o := .pk (.l 5) (.l 0) (.b false) }, { o := .mv (.l 0), d := some 1 }] []) .ret)))))))))), res := [(1, none)] }
def law27_HeadsAll_l2b : C := (.its  [{ o := .bin .lss (.v 16) (.v 15) }] [] 0 .skip (.exit 2) (.seq (.blk 3 (.seq (.reg [{ o := .ia (.v 14) (.v 16) 1 }, { o := .ld (.l 0) 1 false }, { o := .mv (.l 0), d := some 10 }] []) (.ite [{ o := .ld (.v 7) 1 true }, { o := .mv (.v 9) }, { o := .mv (.v 10) }, { o := .ca N.heads_Count 0 [] [.l 2, .l 1, .l 0] }, { o := .ld (.v 7) 1 true }, { o := .mv (.v 9) }, { o := .mv (.v 10) }, { o := .ca N.ref27_Count 0 [] [.l 2, .l 1, .l 0] }, { o := .eqk (.ints 2) true (.l 4) (.l 0) }, { o := .mv (.l 0) }, { o := .ld (.v 7) 1 true, g := some (0, false) }, { o := .mv (.v 9), g := some (1, false) }, { o := .mv (.v 10), g := some (2, false) }, { o := .ca N.heads_Sure 0 [] [.l 2, .l 1, .l 0], g := some (3, false) }, { o := .ld (.v 7) 1 true, g := some (4, false) }, { o := .mv (.v 9), g := some (5, false) }, { o := .mv (.v 10), g := some (6, false) }, { o := .ca N.ref27_Sure 0 [] [.l 2, .l 1, .l 0], g := some (7, false) }, { o := .ca N.ref23_SameInts 0 [] [.l 4, .l 0], g := some (8, false) }, { o := .un .not (.l 0), g := some (9, false) }, { o := .pk (.l 10) (.b true) (.l 0) }, { o := .mv (.l 0) }, { o := .ld (.v 7) 1 true, g := some (0, false) }, { o := .mv (.v 9), g := some (1, false) }, { o := .mv (.v 10), g := some (2, false) }, { o := .ca N.heads_Maybe 0 [] [.l 2, .l 1, .l 0], g := some (3, false) }, { o := .ld (.v 7) 1 true, g := some (4, false) }, { o := .mv (.v 9), g := some (5, false) }, { o := .mv (.v 10), g := some (6, false) }, { o := .ca N.ref27_Maybe 0 [] [.l 2, .l 1, .l 0], g := some (7, false) }, { o := .ca N.ref23_SameInts 0 [] [.l 4, .l 0], g := some (8, false) }, { o := .un .not (.l 0), g := some (9, false) }, { o := .pk (.l 10) (.b true) (.l 0) }] [(4, 0), (14, 8), (26, 19)] 0 (.seq (.reg [{ o := .mv (.b false), d := some 4 }] []) .ret) .skip))) (.reg [{ o := .bin .add (.v 16) (.i 1) }, { o := .mv (.l 0), d := some 16 }] [])))
def law27_HeadsAll_l2 : C := .loop true [0, 1, 2, 4, 5, 6, 10] K.law27_HeadsAll_l2b
def law27_HeadsAll_l1b : C := (.its  [{ o := .bin .lss (.v 13) (.v 12) }] [] 0 .skip (.exit 0) (.seq (.blk 1 (.seq (.reg [{ o := .ia (.v 11) (.v 13) 1 }, { o := .ld (.l 0) 1 false }, { o := .mv (.l 0), d := some 9 }] []) (.seq (.reg [{ o := .mv (.v 8) }, { o := .iaa (.v 3) (.i 0) 2 1 }, { o := .ld (.l 0) 1 false }, { o := .bs [.l 2, .l 0] 1, d := some 14 }, { o := .ln (.l 0), d := some 15 }, { o := .mv (.i 0), d := some 16 }] []) (.blk 2 K.law27_HeadsAll_l2)))) (.reg [{ o := .bin .add (.v 13) (.i 1) }, { o := .mv (.l 0), d := some 13 }] [])))
def law27_HeadsAll_l1 : C := .loop true [0, 1, 2, 4, 5, 6, 9, 10, 14, 15, 16] K.law27_HeadsAll_l1b
/-- /law27.HeadsAll -/
def law27_HeadsAll : Fn := { nargs := 3, vars := [0, 1, 2, 5, 6, 7, 8, 9, 10, 12, 14, 44, 45, 46, 53, 54, 55], body := (.seq (.reg [{ o := .bx (.v 2) 2, d := some 3 }, { o := .mv (.b false), d := some 4 }] []) (.seq (.ite [{ o := .mv (.v 0) }, { o := .ca N.made_Light 0 [] [.l 0] }, { o := .un .not (.l 0) }, { o := .mv (.l 0) }, { o := .mv (.v 1), g := some (0, false) }, { o := .ln (.l 0), g := some (1, false) }, { o := .bin .gtr (.l 0) (.i 100), g := some (2, false) }, { o := .pk (.l 3) (.b true) (.l 0) }] [] 0 (.seq (.reg [{ o := .ca N.law27_awake 0 [] [] }, { o := .mv (.l 0), d := some 4 }] []) .ret) .skip) (.seq (.reg [{ o := .mv (.v 0) }, { o := .ca N.made_Roll 0 [] [.l 0] }, { o := .mv (.l 0), d := some 5 }] []) (.seq (.reg [{ o := .mv (.v 5) }, { o := .ca N.made_Dice_Mine 0 [] [.l 0] }, { o := .al [.nil, .nil] [], d := some 6 }, { o := .st (.l 0) (.l 1) 2 [] }] []) (.seq (.reg [{ o := .mv (.v 5) }, { o := .ld (.v 6) 2 true }, { o := .ca N.made_Dice_Belief 0 [] [.l 1, .l 0] }, { o := .al [.nil] [], d := some 7 }, { o := .st (.l 0) (.l 1) 1 [] }] []) (.seq (.reg [{ o := .ld (.v 7) 1 true }, { o := .ca N.made_Last 0 [] [.l 0] }, { o := .iaa (.v 3) (.i 0) 2 1 }, { o := .ld (.l 0) 1 false }, { o := .ca N.made_Mod 0 [] [.l 0, .i 200] }, { o := .bin .add (.l 3) (.l 0) }, { o := .bin .sub (.l 0) (.i 20) }, { o := .mv (.l 0), d := some 8 }] [(3, 0)]) (.seq (.seq (.reg [{ o := .mv (.v 1) }, { o := .mv (.v 5) }, { o := .fa (.v 6) 0 }, { o := .ld (.l 0) 1 false }, { o := .ln (.l 0) }, { o := .ca N.made_Dice_Some 0 [] [.l 3, .l 0] }, { o := .bs [.l 5, .l 0, .c (.nil)] 1, d := some 11 }, { o := .ln (.l 0), d := some 12 }, { o := .mv (.i 0), d := some 13 }] []) (.blk 0 K.law27_HeadsAll_l1)) (.seq (.reg [{ o := .ca N.law27_awake 0 [] [] }, { o := .mv (.l 0) }, { o := .ld (.v 7) 1 true, g := some (0, true) }, { o := .mv (.v 8), g := some (1, true) }, { o := .iaa (.v 3) (.i 1) 2 1, g := some (2, true) }, { o := .ld (.l 0) 1 false, g := some (3, true) }, { o := .ca N.made_Mod 0 [] [.l 0, .i 5], g := some (4, true) }, { o := .ca N.heads_Missing 0 [] [.l 4, .l 3, .l 0], g := some (5, true) }, { o := .ld (.v 7) 1 true, g := some (6, true) }, { o := .mv (.v 8), g := some (7, true) }, { o := .iaa (.v 3) (.i 1) 2 1, g := some (8, true) }, { o := .ld (.l 0) 1 false, g := some (9, true) }, { o := .ca N.made_Mod 0 [] [.l 0, .i 5], g := some (10, true) }, { o := .ca N.ref27_Missing 0 [] [.l 4, .l 3, .l 0], g := some (11, true) }, { o := .ca N.ref23_SameInts 0 [] [.l 6, .l 0], g := some (12, true) }, { o := .pk (.l 13) (.l 0) (.b false) }, { o := .mv (.l 0) }, { o := .ld (.v 7) 1 true, g := some (0, true) }, { o := .iaa (.v 3) (.i 0) 2 1, g := some (1, true) }, { o := .ld (.l 0) 1 false, g := some (2, true) }, { o := .iaa (.v 3) (.i 1) 2 1, g := some (3, true) }, { o := .ld (.l 0) 1 false, g := some (4, true) }, { o := .ca N.heads_Missing 0 [] [.l 4, .l 2, .l 0], g := some (5, true) }, { o := .ld (.v 7) 1 true, g := some (6, true) }, { o := .iaa (.v 3) (.i 0) 2 1, g := some (7, true) }, { o := .ld (.l 0) 1 false, g := some (8, true) }, { o := .iaa (.v 3) (.i 1) 2 1, g := some (9, true) }, { o := .ld (.l 0) 1 false, g := some (10, true) }, { o := .ca N.ref27_Missing 0 [] [.l 4, .l 2, .l 0], g := some (11, true) }, { o := .ca N.ref23_SameInts 0 [] [.l 6, .l 0], g := some (12, true) }, { o := .pk (.l 13) (.l 0) (.b false) }, { o := .mv (.l 0), d := some 4 }] [(2, 7), (8, 1), (8, 7), (8, 13), (11, 1), (11, 7), (23, 15), (25, 15), (27, 15)]) .ret)))))))), res := [(4, none)] }
def law27_HeadsTrue_l1b : C := (.seq (.ite [{ o := .mv (.v 9) }, { o := .fa (.v 7) 1 }, { o := .ld (.l 0) 1 false }, { o := .ln (.l 0) }, { o := .bin .lss (.l 3) (.l 0) }] [] 0 .skip (.exit 0)) (.seq (.blk 1 (.seq (.reg [{ o := .fa (.v 7) 1 }, { o := .ld (.l 0) 1 false }, { o := .mv (.v 9) }, { o := .ia (.l 1) (.l 0) 2 }, { o := .ld (.l 0) 2 true }, { o := .mv (.v 5) }, { o := .ca N.ref25_Possible 0 [] [.l 1, .l 0] }, { o := .mv (.l 0), d := some 10 }] []) (.seq (.ite [{ o := .mv (.v 10) }, { o := .ln (.l 0) }, { o := .bin .eql (.l 0) (.i 0) }] [] 0 (.seq (.reg [{ o := .ca N.law27_awake 0 [] [] }, { o := .mv (.l 0), d := some 1 }] []) .ret) .skip) (.seq (.reg [{ o := .mv (.v 6) }, { o := .mv (.v 10) }, { o := .mv (.v 2) }, { o := .mv (.v 10) }, { o := .ln (.l 0) }, { o := .ca N.made_Dice_Next 0 [] [.l 2, .l 0] }, { o := .ia (.l 4) (.l 0) 1 }, { o := .ld (.l 0) 1 false }, { o := .ca N.ref23_Has 0 [] [.l 7, .l 0] }, { o := .mv (.l 0), d := some 11 }] []) (.seq (.ite [{ o := .mv (.v 11) }] [] 0 (.reg [{ o := .mv (.v 8) }, { o := .bin .add (.l 0) (.i 1) }, { o := .mv (.l 0), d := some 8 }] []) .skip) (.ite [{ o := .mv (.v 11) }, { o := .un .not (.l 0) }, { o := .mv (.l 0) }, { o := .ld (.v 4) 1 true, g := some (0, true) }, { o := .mv (.v 6), g := some (1, true) }, { o := .mv (.v 5), g := some (2, true) }, { o := .ca N.heads_Sure 0 [] [.l 2, .l 1, .l 0], g := some (3, true) }, { o := .mv (.v 9), g := some (4, true) }, { o := .ca N.ref23_Has 0 [] [.l 1, .l 0], g := some (5, true) }, { o := .pk (.l 6) (.l 0) (.b false) }, { o := .mv (.l 0) }, { o := .mv (.v 11), g := some (0, false) }, { o := .mv (.l 0), g := some (1, false) }, { o := .ld (.v 4) 1 true, g := some (0, true) }, { o := .mv (.v 6), g := some (1, true) }, { o := .mv (.v 5), g := some (2, true) }, { o := .ca N.heads_Maybe 0 [] [.l 2, .l 1, .l 0], g := some (3, true) }, { o := .mv (.v 9), g := some (4, true) }, { o := .ca N.ref23_Has 0 [] [.l 1, .l 0], g := some (5, true) }, { o := .un .not (.l 0), g := some (6, true) }, { o := .pk (.l 7) (.l 0) (.b false), g := some (9, false) }, { o := .pk (.l 10) (.b true) (.l 0) }] [] 0 (.seq (.reg [{ o := .mv (.b false), d := some 1 }] []) .ret) .skip)))))) (.reg [{ o := .mv (.v 9) }, { o := .bin .add (.l 0) (.i 1) }, { o := .mv (.l 0), d := some 9 }] [])))
def law27_HeadsTrue_l1 : C := .loop true [0, 1, 3, 10, 11, 12] K.law27_HeadsTrue_l1b
/-- /law27.HeadsTrue -/
def law27_HeadsTrue : Fn := { nargs := 1, vars := [0, 2, 3, 4, 5, 6, 7, 8, 9, 10, 11, 12, 13], body := (.seq (.reg [{ o := .mv (.b false), d := some 1 }] []) (.seq (.ite [{ o := .mv (.v 0) }, { o := .ca N.made_Light 0 [] [.l 0] }, { o := .un .not (.l 0) }] [] 0 (.seq (.reg [{ o := .ca N.law27_awake 0 [] [] }, { o := .mv (.l 0), d := some 1 }] []) .ret) .skip) (.seq (.reg [{ o := .mv (.v 0) }, { o := .ca N.made_Roll 0 [] [.l 0] }, { o := .mv (.l 0), d := some 2 }] []) (.seq (.reg [{ o := .mv (.v 2) }, { o := .ca N.made_Dice_Mine 0 [] [.l 0] }, { o := .al [.nil, .nil] [], d := some 3 }, { o := .st (.l 0) (.l 1) 2 [] }] []) (.seq (.reg [{ o := .mv (.v 2) }, { o := .ld (.v 3) 2 true }, { o := .ca N.made_Dice_Belief 0 [] [.l 1, .l 0] }, { o := .al [.nil] [], d := some 4 }, { o := .st (.l 0) (.l 1) 1 [] }] []) (.seq (.reg [{ o := .ld (.v 4) 1 true }, { o := .ca N.made_Last 0 [] [.l 0] }, { o := .mv (.v 2) }, { o := .ca N.made_Dice_Next 0 [] [.l 0, .i 100] }, { o := .bin .add (.l 2) (.l 0) }, { o := .mv (.l 0), d := some 5 }] []) (.seq (.reg [{ o := .mv (.v 2) }, { o := .fa (.v 3) 0 }, { o := .ld (.l 0) 1 false }, { o := .ln (.l 0) }, { o := .ca N.made_Dice_Some 0 [] [.l 3, .l 0] }, { o := .mv (.l 0), d := some 6 }] []) (.seq (.reg [{ o := .al [.nil, .nil] [], d := some 7 }, { o := .fa (.v 4) 0 }, { o := .ld (.l 0) 1 false }, { o := .mv (.v 2) }, { o := .fa (.v 4) 0 }, { o := .ld (.l 0) 1 false }, { o := .ln (.l 0) }, { o := .ca N.made_Dice_Next 0 [] [.l 3, .l 0] }, { o := .ia (.l 5) (.l 0) 2 }, { o := .ld (.l 0) 2 true }, { o := .st (.l 9) (.l 0) 2 [] }] [(0, 8), (2, 8)]) (.seq (.reg [{ o := .mv (.i 0), d := some 8 }] []) (.seq (.seq (.reg [{ o := .mv (.i 0), d := some 9 }] []) (.blk 0 K.law27_HeadsTrue_l1)) (.seq (.reg [{ o := .ld (.v 4) 1 true }, { o := .mv (.v 6) }, { o := .mv (.v 5) }, { o := .ca N.heads_Count 0 [] [.l 2, .l 1, .l 0] }, { o := .al [.t (.int .i64 (0)), .t (.int .i64 (0))] [], d := some 12 }, { o := .st (.l 0) (.l 1) 2 [] }] []) (.seq (.reg [{ o := .ca N.law27_awake 0 [] [] }, { o := .mv (.l 0) }, { o := .fa (.v 12) 0, g := some (0, true) }, { o := .ld (.l 0) 1 false, g := some (1, true) }, { o := .mv (.v 8), g := some (2, true) }, { o := .bin .leq (.l 1) (.l 0), g := some (3, true) }, { o := .pk (.l 4) (.l 0) (.b false) }, { o := .mv (.l 0) }, { o := .mv (.v 8), g := some (0, true) }, { o := .fa (.v 12) 1, g := some (1, true) }, { o := .ld (.l 0) 1 false, g := some (2, true) }, { o := .bin .leq (.l 2) (.l 0), g := some (3, true) }, { o := .pk (.l 4) (.l 0) (.b false) }, { o := .mv (.l 0), d := some 1 }] []) .ret)))))))))))), res := [(1, none)] }
/-- /law27.awake -/
def law27_awake : Fn := { nargs := 0, vars := [0, 1, 2, 3], body := (.seq (.reg [{ o := .mv (.b false), d := some 0 }] []) (.seq (.reg [{ o := .bs [.i 1, .i 2] 1 }, { o := .bs [.i 0, .i 1099511627776] 1 }, { o := .bd [.t (.int .i64 (0)), .nil] [(1, 1, .l 0)] }, { o := .bs [.i 0, .i 0] 1 }, { o := .bd [.t (.int .i64 (0)), .nil] [(1, 1, .l 0)] }, { o := .bs [.l 2, .l 0] 2 }, { o := .bd [.nil, .nil] [(0, 1, .l 5), (1, 1, .l 0)] }, { o := .bs [.l 0] 2 }, { o := .bd [.nil] [(0, 1, .l 0)] }, { o := .al [.nil] [], d := some 1 }, { o := .st (.l 0) (.l 1) 1 [] }] []) (.seq (.reg [{ o := .ld (.v 1) 1 true }, { o := .bs [.i 0] 1 }, { o := .ca N.heads_Count 0 [] [.l 1, .l 0, .i 5] }, { o := .al [.t (.int .i64 (0)), .t (.int .i64 (0))] [], d := some 2 }, { o := .st (.l 0) (.l 1) 2 [] }] []) (.seq (.reg [{ o := .ld (.v 1) 1 true }, { o := .bs [.i 0] 1 }, { o := .ca N.heads_Sure 0 [] [.l 1, .l 0, .i 5] }, { o := .mv (.l 0), d := some 3 }] []) (.seq (.reg [{ o := .fa (.v 2) 0 }, { o := .ld (.l 0) 1 false }, { o := .bin .eql (.l 0) (.i 1) }, { o := .mv (.l 0) }, { o := .fa (.v 2) 1, g := some (0, true) }, { o := .ld (.l 0) 1 false, g := some (1, true) }, { o := .bin .eql (.l 0) (.i 2), g := some (2, true) }, { o := .pk (.l 3) (.l 0) (.b false) }, { o := .mv (.l 0) }, { o := .mv (.v 3), g := some (0, true) }, { o := .ln (.l 0), g := some (1, true) }, { o := .bin .eql (.l 0) (.i 1), g := some (2, true) }, { o := .pk (.l 3) (.l 0) (.b false) }, { o := .mv (.l 0) }, { o := .ld (.v 1) 1 true, g := some (0, true) }, { o := .ca N.heads_Missing 0 [] [.l 0, .i 5, .i 1], g := some (1, true) }, { o := .ln (.l 0), g := some (2, true) }, { o := .bin .eql (.l 0) (.i 1), g := some (3, true) }, { o := .pk (.l 4) (.l 0) (.b false) }, { o := .mv (.l 0), d := some 0 }] []) .ret))))), res := [(0, none)] }
def heads_Count_l2b : C := (.its  [{ o := .bin .lss (.v 17) (.v 16) }] [] 0 .skip (.exit 2) (.seq (.blk 3 (.seq (.reg [{ o := .mv (.v 17) }, { o := .mv (.l 0), d := some 10 }] []) (.seq (.reg [{ o := .ld (.v 7) 2 true }, { o := .mv (.v 10) }, { o := .mv (.v 1) }, { o := .mv (.v 2) }, { o := .ca N.heads_look 0 [] [.l 3, .l 2, .l 1, .l 0] }, { o := .mv (.l 0) }, { o := .ex (.l 0) 0 }, { o := .ex (.l 1) 1 }, { o := .mv (.l 1), d := some 11 }, { o := .mv (.l 1), d := some 12 }] []) (.seq (.ite [{ o := .mv (.v 11) }] [] 0 (.reg [{ o := .mv (.v 8) }, { o := .bin .add (.l 0) (.i 1) }, { o := .mv (.l 0), d := some 8 }] []) .skip) (.ite [{ o := .mv (.v 12) }] [] 0 (.reg [{ o := .mv (.v 9) }, { o := .bin .add (.l 0) (.i 1) }, { o := .mv (.l 0), d := some 9 }] []) .skip))))) (.reg [{ o := .bin .add (.v 17) (.i 1) }, { o := .mv (.l 0), d := some 17 }] [])))
def heads_Count_l2 : C := .loop true [0, 3, 10, 11, 12] K.heads_Count_l2b
def heads_Count_l1b : C := (.its  [{ o := .bin .lss (.v 15) (.v 14) }] [] 0 .skip (.exit 0) (.seq (.blk 1 (.seq (.reg [{ o := .mv (.v 15) }, { o := .ia (.v 13) (.v 15) 2 }, { o := .ld (.l 0) 2 true }, { o := .al [.nil, .nil] [], d := some 7 }, { o := .mv (.l 3), d := some 6 }, { o := .st (.l 1) (.l 2) 2 [] }] []) (.seq (.reg [{ o := .mv (.i 0), d := some 8 }, { o := .mv (.i 0), d := some 9 }] []) (.seq (.seq (.reg [{ o := .fa (.v 7) 1 }, { o := .ld (.l 0) 1 false }, { o := .ln (.l 0), d := some 16 }, { o := .mv (.i 0), d := some 17 }] []) (.blk 2 K.heads_Count_l2)) (.seq (.ite [{ o := .mv (.v 6) }, { o := .bin .eql (.l 0) (.i 0) }] [] 0 (.reg [{ o := .mv (.v 8) }, { o := .mv (.v 9) }, { o := .bd [.t (.int .i64 (0)), .t (.int .i64 (0))] [(0, 1, .l 1), (1, 1, .l 0)] }, { o := .st (.v 5) (.l 0) 2 [] }] []) .skip) (.reg [{ o := .fa (.v 5) 0 }, { o := .ld (.l 0) 1 false }, { o := .mv (.v 8) }, { o := .mn [.l 1, .l 0] }, { o := .fa (.v 5) 1 }, { o := .ld (.l 0) 1 false }, { o := .mv (.v 9) }, { o := .mx [.l 1, .l 0] }, { o := .bd [.t (.int .i64 (0)), .t (.int .i64 (0))] [(0, 1, .l 4), (1, 1, .l 0)] }, { o := .st (.v 5) (.l 0) 2 [] }] [])))))) (.reg [{ o := .bin .add (.v 15) (.i 1) }, { o := .mv (.l 0), d := some 15 }] [])))
def heads_Count_l1 : C := .loop true [0, 3, 6, 7, 8, 9, 10, 11, 12, 16, 17] K.heads_Count_l1b
/-- /heads.Count -/
def heads_Count : Fn := { nargs := 3, vars := [0, 1, 2, 3, 6, 7, 8, 9, 10, 11, 12, 13, 14, 16, 17, 18, 25, 26], body := (.seq (.reg [{ o := .bx (.v 0) 1, d := some 3 }, { o := .al [.t (.int .i64 (0)), .t (.int .i64 (0))] [], d := some 4 }] []) (.seq (.reg [{ o := .al [.t (.int .i64 (0)), .t (.int .i64 (0))] [], d := some 5 }] []) (.seq (.seq (.reg [{ o := .fa (.v 3) 0 }, { o := .ld (.l 0) 1 false, d := some 13 }, { o := .ln (.l 0), d := some 14 }, { o := .mv (.i 0), d := some 15 }] []) (.blk 0 K.heads_Count_l1)) (.seq (.reg [{ o := .ld (.v 5) 2 true }, { o := .st (.v 4) (.l 0) 2 [] }] []) .ret)))), res := [(4, some (2, true))] }
def ref27_Count_l2b : C := (.seq (.ite [{ o := .mv (.v 9) }, { o := .fa (.v 3) 0 }, { o := .ld (.l 0) 1 false }, { o := .mv (.v 6) }, { o := .ia (.l 1) (.l 0) 2 }, { o := .fa (.l 0) 1 }, { o := .ld (.l 0) 1 false }, { o := .ln (.l 0) }, { o := .bin .lss (.l 7) (.l 0) }] [] 0 .skip (.exit 2)) (.seq (.blk 3 (.seq (.reg [{ o := .fa (.v 3) 0 }, { o := .ld (.l 0) 1 false }, { o := .mv (.v 6) }, { o := .ia (.l 1) (.l 0) 2 }, { o := .fa (.l 0) 1 }, { o := .ld (.l 0) 1 false }, { o := .mv (.v 9) }, { o := .ia (.l 1) (.l 0) 2 }, { o := .ld (.l 0) 2 true }, { o := .mv (.v 1) }, { o := .mv (.v 2) }, { o := .ca N.ref27_state 0 [] [.l 2, .l 1, .l 0] }, { o := .mv (.l 0), d := some 10 }] []) (.seq (.ite [{ o := .mv (.v 10) }, { o := .bin .eql (.l 0) (.i 2) }] [] 0 (.reg [{ o := .mv (.v 7) }, { o := .bin .add (.l 0) (.i 1) }, { o := .mv (.l 0), d := some 7 }] []) .skip) (.ite [{ o := .mv (.v 10) }, { o := .bin .gtr (.l 0) (.i 0) }] [] 0 (.reg [{ o := .mv (.v 8) }, { o := .bin .add (.l 0) (.i 1) }, { o := .mv (.l 0), d := some 8 }] []) .skip)))) (.reg [{ o := .mv (.v 9) }, { o := .bin .add (.l 0) (.i 1) }, { o := .mv (.l 0), d := some 9 }] [])))
def ref27_Count_l2 : C := .loop true [0, 10] K.ref27_Count_l2b
def ref27_Count_l1b : C := (.seq (.ite [{ o := .mv (.v 6) }, { o := .fa (.v 3) 0 }, { o := .ld (.l 0) 1 false }, { o := .ln (.l 0) }, { o := .bin .lss (.l 3) (.l 0) }] [] 0 .skip (.exit 0)) (.seq (.blk 1 (.seq (.reg [{ o := .mv (.i 0), d := some 7 }, { o := .mv (.i 0), d := some 8 }] []) (.seq (.seq (.reg [{ o := .mv (.i 0), d := some 9 }] []) (.blk 2 K.ref27_Count_l2)) (.seq (.ite [{ o := .mv (.v 6) }, { o := .bin .eql (.l 0) (.i 0) }, { o := .mv (.l 0) }, { o := .mv (.v 7), g := some (0, false) }, { o := .fa (.v 5) 0, g := some (1, false) }, { o := .ld (.l 0) 1 false, g := some (2, false) }, { o := .bin .lss (.l 2) (.l 0), g := some (3, false) }, { o := .pk (.l 4) (.b true) (.l 0) }] [] 0 (.reg [{ o := .mv (.v 7) }, { o := .fa (.v 5) 0 }, { o := .st (.l 0) (.l 1) 1 [] }] []) .skip) (.reg [{ o := .fa (.v 5) 1 }, { o := .ld (.l 0) 1 false }, { o := .mv (.v 8) }, { o := .mx [.l 1, .l 0] }, { o := .fa (.v 5) 1 }, { o := .st (.l 0) (.l 1) 1 [] }] []))))) (.reg [{ o := .mv (.v 6) }, { o := .bin .add (.l 0) (.i 1) }, { o := .mv (.l 0), d := some 6 }] [])))
def ref27_Count_l1 : C := .loop true [0, 7, 8, 9, 10] K.ref27_Count_l1b
/-- /ref27.Count -/
def ref27_Count : Fn := { nargs := 3, vars := [0, 1, 2, 3, 6, 7, 8, 9, 10, 11, 12], body := (.seq (.reg [{ o := .bx (.v 0) 1, d := some 3 }, { o := .al [.t (.int .i64 (0)), .t (.int .i64 (0))] [], d := some 4 }] []) (.seq (.reg [{ o := .al [.t (.int .i64 (0)), .t (.int .i64 (0))] [], d := some 5 }] []) (.seq (.seq (.reg [{ o := .mv (.i 0), d := some 6 }] []) (.blk 0 K.ref27_Count_l1)) (.seq (.reg [{ o := .ld (.v 5) 2 true }, { o := .st (.v 4) (.l 0) 2 [] }] []) .ret)))), res := [(4, some (2, true))] }
/-- /heads.Sure -/
def heads_Sure : Fn := { nargs := 3, vars := [0, 1, 2, 3, 4, 5, 6], body := (.seq (.reg [{ o := .bx (.v 0) 1, d := some 3 }, { o := .bx (.v 1) 1, d := some 4 }, { o := .bx (.v 2) 1, d := some 5 }, { o := .mv (.c (.nil)), d := some 6 }] []) (.seq (.reg [{ o := .ld (.v 3) 1 true }, { o := .ca N.heads_persons 0 [] [.l 0] }, { o := .mf N.heads_Sure_1 [.v 3, .v 4, .v 5] }, { o := .ca N.lists_Where 0 [] [.l 1, .l 0] }, { o := .mv (.l 0), d := some 6 }] []) .ret)), res := [(6, none)] }
def ref27_Sure_l2b : C := (.seq (.ite [{ o := .mv (.v 8) }, { o := .fa (.v 3) 0 }, { o := .ld (.l 0) 1 false }, { o := .ln (.l 0) }, { o := .bin .lss (.l 3) (.l 0) }] [] 0 .skip (.exit 2)) (.seq (.blk 3 (.reg [{ o := .mv (.v 7) }, { o := .mv (.l 0) }, { o := .fa (.v 3) 0, g := some (0, true) }, { o := .ld (.l 0) 1 false, g := some (1, true) }, { o := .mv (.v 8), g := some (2, true) }, { o := .ia (.l 1) (.l 0) 2, g := some (3, true) }, { o := .fa (.l 0) 1, g := some (4, true) }, { o := .ld (.l 0) 1 false, g := some (5, true) }, { o := .mv (.v 6), g := some (6, true) }, { o := .ia (.l 1) (.l 0) 2, g := some (7, true) }, { o := .ld (.l 0) 2 true, g := some (8, true) }, { o := .mv (.v 1), g := some (9, true) }, { o := .mv (.v 2), g := some (10, true) }, { o := .ca N.ref27_state 0 [] [.l 2, .l 1, .l 0], g := some (11, true) }, { o := .bin .eql (.l 0) (.i 2), g := some (12, true) }, { o := .pk (.l 13) (.l 0) (.b false) }, { o := .mv (.l 0), d := some 7 }] [])) (.reg [{ o := .mv (.v 8) }, { o := .bin .add (.l 0) (.i 1) }, { o := .mv (.l 0), d := some 8 }] [])))
def ref27_Sure_l2 : C := .loop true [0, 4] K.ref27_Sure_l2b
def ref27_Sure_l1b : C := (.seq (.ite [{ o := .mv (.v 6) }, { o := .ld (.v 3) 1 true }, { o := .ca N.ref27_people 0 [] [.l 0] }, { o := .bin .lss (.l 2) (.l 0) }] [] 0 .skip (.exit 0)) (.seq (.blk 1 (.seq (.reg [{ o := .mv (.b true), d := some 7 }] []) (.seq (.seq (.reg [{ o := .mv (.i 0), d := some 8 }] []) (.blk 2 K.ref27_Sure_l2)) (.ite [{ o := .mv (.v 7) }] [] 0 (.reg [{ o := .mv (.v 5) }, { o := .mv (.v 6) }, { o := .bs [.l 0] 1 }, { o := .app (.l 2) (.l 0) true 1 }, { o := .mv (.l 0), d := some 5 }] []) .skip)))) (.reg [{ o := .mv (.v 6) }, { o := .bin .add (.l 0) (.i 1) }, { o := .mv (.l 0), d := some 6 }] [])))
def ref27_Sure_l1 : C := .loop true [0, 4, 7, 8] K.ref27_Sure_l1b
/-- /ref27.Sure -/
def ref27_Sure : Fn := { nargs := 3, vars := [0, 1, 2, 3, 6, 7, 8, 9, 10], body := (.seq (.reg [{ o := .bx (.v 0) 1, d := some 3 }, { o := .mv (.c (.nil)), d := some 4 }] []) (.seq (.reg [{ o := .nw 1, d := some 5 }] []) (.seq (.seq (.reg [{ o := .mv (.i 0), d := some 6 }] []) (.blk 0 K.ref27_Sure_l1)) (.seq (.reg [{ o := .mv (.v 5) }, { o := .mv (.l 0), d := some 4 }] []) .ret)))), res := [(4, none)] }
/-- /heads.Maybe -/
def heads_Maybe : Fn := { nargs := 3, vars := [0, 1, 2, 3, 4, 5, 6], body := (.seq (.reg [{ o := .bx (.v 0) 1, d := some 3 }, { o := .bx (.v 1) 1, d := some 4 }, { o := .bx (.v 2) 1, d := some 5 }, { o := .mv (.c (.nil)), d := some 6 }] []) (.seq (.reg [{ o := .ld (.v 3) 1 true }, { o := .ca N.heads_persons 0 [] [.l 0] }, { o := .mf N.heads_Maybe_1 [.v 3, .v 4, .v 5] }, { o := .ca N.lists_Where 0 [] [.l 1, .l 0] }, { o := .mv (.l 0), d := some 6 }] []) .ret)), res := [(6, none)] }
def ref27_Maybe_l2b : C := (.seq (.ite [{ o := .mv (.v 8) }, { o := .fa (.v 3) 0 }, { o := .ld (.l 0) 1 false }, { o := .ln (.l 0) }, { o := .bin .lss (.l 3) (.l 0) }] [] 0 .skip (.exit 2)) (.seq (.blk 3 (.reg [{ o := .mv (.v 7) }, { o := .mv (.l 0) }, { o := .fa (.v 3) 0, g := some (0, false) }, { o := .ld (.l 0) 1 false, g := some (1, false) }, { o := .mv (.v 8), g := some (2, false) }, { o := .ia (.l 1) (.l 0) 2, g := some (3, false) }, { o := .fa (.l 0) 1, g := some (4, false) }, { o := .ld (.l 0) 1 false, g := some (5, false) }, { o := .mv (.v 6), g := some (6, false) }, { o := .ia (.l 1) (.l 0) 2, g := some (7, false) }, { o := .ld (.l 0) 2 true, g := some (8, false) }, { o := .mv (.v 1), g := some (9, false) }, { o := .mv (.v 2), g := some (10, false) }, { o := .ca N.ref27_state 0 [] [.l 2, .l 1, .l 0], g := some (11, false) }, { o := .bin .gtr (.l 0) (.i 0), g := some (12, false) }, { o := .pk (.l 13) (.b true) (.l 0) }, { o := .mv (.l 0), d := some 7 }] [])) (.reg [{ o := .mv (.v 8) }, { o := .bin .add (.l 0) (.i 1) }, { o := .mv (.l 0), d := some 8 }] [])))
def ref27_Maybe_l2 : C := .loop true [0, 4] K.ref27_Maybe_l2b
def ref27_Maybe_l1b : C := (.seq (.ite [{ o := .mv (.v 6) }, { o := .ld (.v 3) 1 true }, { o := .ca N.ref27_people 0 [] [.l 0] }, { o := .bin .lss (.l 2) (.l 0) }] [] 0 .skip (.exit 0)) (.seq (.blk 1 (.seq (.reg [{ o := .mv (.b false), d := some 7 }] []) (.seq (.seq (.reg [{ o := .mv (.i 0), d := some 8 }] []) (.blk 2 K.ref27_Maybe_l2)) (.ite [{ o := .mv (.v 7) }] [] 0 (.reg [{ o := .mv (.v 5) }, { o := .mv (.v 6) }, { o := .bs [.l 0] 1 }, { o := .app (.l 2) (.l 0) true 1 }, { o := .mv (.l 0), d := some 5 }] []) .skip)))) (.reg [{ o := .mv (.v 6) }, { o := .bin .add (.l 0) (.i 1) }, { o := .mv (.l 0), d := some 6 }] [])))
def ref27_Maybe_l1 : C := .loop true [0, 4, 7, 8] K.ref27_Maybe_l1b
/-- /ref27.Maybe -/
def ref27_Maybe : Fn := { nargs := 3, vars := [0, 1, 2, 3, 6, 7, 8, 9, 10], body := (.seq (.reg [{ o := .bx (.v 0) 1, d := some 3 }, { o := .mv (.c (.nil)), d := some 4 }] []) (.seq (.reg [{ o := .nw 1, d := some 5 }] []) (.seq (.seq (.reg [{ o := .mv (.i 0), d := some 6 }] []) (.blk 0 K.ref27_Maybe_l1)) (.seq (.reg [{ o := .mv (.v 5) }, { o := .mv (.l 0), d := some 4 }] []) .ret)))), res := [(4, none)] }
/-- /heads.Missing -/
def heads_Missing : Fn := { nargs := 3, vars := [0, 1, 2, 3, 4, 5, 6], body := (.seq (.reg [{ o := .bx (.v 0) 1, d := some 3 }, { o := .bx (.v 1) 1, d := some 4 }, { o := .bx (.v 2) 1, d := some 5 }, { o := .mv (.c (.nil)), d := some 6 }] []) (.seq (.reg [{ o := .ld (.v 3) 1 true }, { o := .ca N.heads_persons 0 [] [.l 0] }, { o := .mf N.heads_Missing_1 [.v 3, .v 4, .v 5] }, { o := .ca N.lists_Where 0 [] [.l 1, .l 0] }, { o := .mv (.l 0), d := some 6 }] []) .ret)), res := [(6, none)] }
def ref27_Missing_l1b : C := (.seq (.ite [{ o := .mv (.v 6) }, { o := .ld (.v 3) 1 true }, { o := .ca N.ref27_people 0 [] [.l 0] }, { o := .bin .lss (.l 2) (.l 0) }] [] 0 .skip (.exit 0)) (.seq (.blk 1 (.ite [{ o := .ld (.v 3) 1 true }, { o := .mv (.v 6) }, { o := .mv (.v 1) }, { o := .ca N.ref26_Possible 0 [] [.l 2, .l 1, .l 0] }, { o := .ln (.l 0) }, { o := .mv (.v 2) }, { o := .bin .gtr (.l 1) (.l 0) }] [] 0 (.reg [{ o := .mv (.v 5) }, { o := .mv (.v 6) }, { o := .bs [.l 0] 1 }, { o := .app (.l 2) (.l 0) true 1 }, { o := .mv (.l 0), d := some 5 }] []) .skip)) (.reg [{ o := .mv (.v 6) }, { o := .bin .add (.l 0) (.i 1) }, { o := .mv (.l 0), d := some 6 }] [])))
def ref27_Missing_l1 : C := .loop true [0, 4] K.ref27_Missing_l1b
/-- /ref27.Missing -/
def ref27_Missing : Fn := { nargs := 3, vars := [0, 1, 2, 3, 6, 7, 8], body := (.seq (.reg [{ o := .bx (.v 0) 1, d := some 3 }, { o := .mv (.c (.nil)), d := some 4 }] []) (.seq (.reg [{ o := .nw 1, d := some 5 }] []) (.seq (.seq (.reg [{ o := .mv (.i 0), d := some 6 }] []) (.blk 0 K.ref27_Missing_l1)) (.seq (.reg [{ o := .mv (.v 5) }, { o := .mv (.l 0), d := some 4 }] []) .ret)))), res := [(4, none)] }
/-- /heads.look -/
def heads_look : Fn := { nargs := 4, vars := [0, 1, 2, 3, 4, 6, 8, 9, 10, 11], body := (.seq (.reg [{ o := .bx (.v 0) 2, d := some 4 }, { o := .bx (.v 2) 1, d := some 5 }, { o := .mv (.b false), d := some 6 }, { o := .mv (.b false), d := some 7 }] []) (.seq (.ite [{ o := .mv (.v 1) }, { o := .fa (.v 4) 1 }, { o := .ld (.l 0) 1 false }, { o := .ln (.l 0) }, { o := .bin .geq (.l 3) (.l 0) }] [] 0 (.seq (.reg [{ o := .mv (.b false), d := some 6 }, { o := .mv (.b false), d := some 7 }] []) .ret) .skip) (.seq (.reg [{ o := .fa (.v 4) 1 }, { o := .ld (.l 0) 1 false }, { o := .mv (.v 1) }, { o := .ia (.l 1) (.l 0) 2 }, { o := .ld (.l 0) 2 true }, { o := .mv (.v 3) }, { o := .ca N.places_Possible 0 [] [.l 1, .l 0] }, { o := .mv (.l 0), d := some 8 }] []) (.seq (.reg [{ o := .mf N.heads_look_1 [.v 5] }, { o := .al [.und] [], d := some 9 }, { o := .st (.l 0) (.l 1) 1 [] }] []) (.seq (.reg [{ o := .mv (.v 8) }, { o := .ld (.v 9) 1 false }, { o := .ca N.slices_ContainsFunc_int_int 0 [] [.l 1, .l 0] }, { o := .mv (.l 0), d := some 7 }] []) (.seq (.reg [{ o := .mv (.v 7) }, { o := .mv (.l 0) }, { o := .mv (.v 8), g := some (0, true) }, { o := .mf N.heads_look_2 [.v 9], g := some (1, true) }, { o := .ca N.slices_ContainsFunc_int_int 0 [] [.l 1, .l 0], g := some (2, true) }, { o := .un .not (.l 0), g := some (3, true) }, { o := .pk (.l 4) (.l 0) (.b false) }, { o := .mv (.v 7) }, { o := .mv (.l 1), d := some 6 }, { o := .mv (.l 1), d := some 7 }] []) .ret)))))), res := [(6, none), (7, none)] }
def ref27_state_l1b : C := (.seq (.ite [{ o := .mv (.v 8) }, { o := .mv (.v 5) }, { o := .ln (.l 0) }, { o := .bin .lss (.l 2) (.l 0) }] [] 0 .skip (.exit 0)) (.seq (.blk 1 (.ite [{ o := .mv (.v 1) }, { o := .mv (.v 5) }, { o := .mv (.v 8) }, { o := .ia (.l 1) (.l 0) 1 }, { o := .ld (.l 0) 1 false }, { o := .ca N.ref23_Has 0 [] [.l 4, .l 0] }] [] 0 (.reg [{ o := .mv (.b true), d := some 6 }] []) (.reg [{ o := .mv (.b false), d := some 7 }] []))) (.reg [{ o := .mv (.v 8) }, { o := .bin .add (.l 0) (.i 1) }, { o := .mv (.l 0), d := some 8 }] [])))
def ref27_state_l1 : C := .loop true [0, 2, 3, 4] K.ref27_state_l1b
/-- /ref27.state -/
def ref27_state : Fn := { nargs := 3, vars := [0, 1, 2, 3, 6, 7, 8, 9, 10], body := (.seq (.reg [{ o := .bx (.v 0) 2, d := some 3 }, { o := .mv (.i 0), d := some 4 }] []) (.seq (.reg [{ o := .ld (.v 3) 2 true }, { o := .mv (.v 2) }, { o := .ca N.ref25_Possible 0 [] [.l 1, .l 0] }, { o := .mv (.l 0), d := some 5 }] []) (.seq (.reg [{ o := .mv (.b false), d := some 6 }, { o := .mv (.b true), d := some 7 }] []) (.seq (.seq (.reg [{ o := .mv (.i 0), d := some 8 }] []) (.blk 0 K.ref27_state_l1)) (.seq (.ite [{ o := .mv (.v 6) }, { o := .mv (.l 0) }, { o := .mv (.v 7), g := some (0, true) }, { o := .pk (.l 1) (.l 0) (.b false) }] [] 0 (.seq (.reg [{ o := .mv (.i 2), d := some 4 }] []) .ret) .skip) (.seq (.ite [{ o := .mv (.v 6) }] [] 0 (.seq (.reg [{ o := .mv (.i 1), d := some 4 }] []) .ret) .skip) (.seq (.reg [{ o := .mv (.i 0), d := some 4 }] []) .ret))))))), res := [(4, none)] }
/-- /heads.persons -/
def heads_persons : Fn := { nargs := 1, vars := [0, 1, 2], body := (.seq (.reg [{ o := .bx (.v 0) 1, d := some 1 }, { o := .mv (.i 0), d := some 2 }] []) (.seq (.ite [{ o := .fa (.v 1) 0 }, { o := .ld (.l 0) 1 false }, { o := .ln (.l 0) }, { o := .bin .eql (.l 0) (.i 0) }] [] 0 (.seq (.reg [{ o := .mv (.i 0), d := some 2 }] []) .ret) .skip) (.seq (.reg [{ o := .fa (.v 1) 0 }, { o := .ld (.l 0) 1 false }, { o := .ia (.l 0) (.i 0) 2 }, { o := .fa (.l 0) 1 }, { o := .ld (.l 0) 1 false }, { o := .ln (.l 0) }, { o := .mv (.l 0), d := some 2 }] []) .ret))), res := [(2, none)] }
/-- /heads.Sure.1 -/
def heads_Sure_1 : Fn := { nargs := 4, vars := [0, 1, 2, 3, 4, 5], body := (.seq (.reg [{ o := .bx (.v 0) 1, d := some 4 }, { o := .mv (.b false), d := some 5 }] []) (.seq (.reg [{ o := .fa (.v 1) 0 }, { o := .ld (.l 0) 1 false }, { o := .mf N.heads_Sure_1_1 [.v 4, .v 2, .v 3] }, { o := .ca N.slices_ContainsFunc_api_World_api_World 0 [] [.l 1, .l 0] }, { o := .un .not (.l 0) }, { o := .mv (.l 0), d := some 5 }] []) .ret)), res := [(5, none)] }
/-- /heads.Sure.1.1 -/
def heads_Sure_1_1 : Fn := { nargs := 4, vars := [0, 1, 2, 3, 4, 5, 6], body := (.seq (.reg [{ o := .bx (.v 0) 2, d := some 4 }, { o := .mv (.b false), d := some 5 }] []) (.seq (.reg [{ o := .ld (.v 4) 2 true }, { o := .ld (.v 1) 1 false }, { o := .ld (.v 2) 1 false }, { o := .ld (.v 3) 1 false }, { o := .ca N.heads_look 0 [] [.l 3, .l 2, .l 1, .l 0] }, { o := .mv (.l 0) }, { o := .ex (.l 0) 0 }, { o := .ex (.l 1) 1 }, { o := .mv (.l 1), d := some 6 }, { o := .mv (.l 1) }] []) (.seq (.reg [{ o := .mv (.v 6) }, { o := .un .not (.l 0) }, { o := .mv (.l 0), d := some 5 }] []) .ret))), res := [(5, none)] }
/-- /ref27.people -/
def ref27_people : Fn := { nargs := 1, vars := [0, 1, 2], body := (.seq (.reg [{ o := .bx (.v 0) 1, d := some 1 }, { o := .mv (.i 0), d := some 2 }] []) (.seq (.ite [{ o := .fa (.v 1) 0 }, { o := .ld (.l 0) 1 false }, { o := .ln (.l 0) }, { o := .bin .eql (.l 0) (.i 0) }] [] 0 (.seq (.reg [{ o := .mv (.i 0), d := some 2 }] []) .ret) .skip) (.seq (.reg [{ o := .fa (.v 1) 0 }, { o := .ld (.l 0) 1 false }, { o := .ia (.l 0) (.i 0) 2 }, { o := .fa (.l 0) 1 }, { o := .ld (.l 0) 1 false }, { o := .ln (.l 0) }, { o := .mv (.l 0), d := some 2 }] []) .ret))), res := [(2, none)] }
/-- /heads.Maybe.1 -/
def heads_Maybe_1 : Fn := { nargs := 4, vars := [0, 1, 2, 3, 4, 5], body := (.seq (.reg [{ o := .bx (.v 0) 1, d := some 4 }, { o := .mv (.b false), d := some 5 }] []) (.seq (.reg [{ o := .fa (.v 1) 0 }, { o := .ld (.l 0) 1 false }, { o := .mf N.heads_Maybe_1_1 [.v 4, .v 2, .v 3] }, { o := .ca N.slices_ContainsFunc_api_World_api_World 0 [] [.l 1, .l 0] }, { o := .mv (.l 0), d := some 5 }] []) .ret)), res := [(5, none)] }
/-- /heads.Maybe.1.1 -/
def heads_Maybe_1_1 : Fn := { nargs := 4, vars := [0, 1, 2, 3, 4, 5, 7], body := (.seq (.reg [{ o := .bx (.v 0) 2, d := some 4 }, { o := .mv (.b false), d := some 5 }] []) (.seq (.reg [{ o := .ld (.v 4) 2 true }, { o := .ld (.v 1) 1 false }, { o := .ld (.v 2) 1 false }, { o := .ld (.v 3) 1 false }, { o := .ca N.heads_look 0 [] [.l 3, .l 2, .l 1, .l 0] }, { o := .mv (.l 0) }, { o := .ex (.l 0) 0 }, { o := .ex (.l 1) 1 }, { o := .mv (.l 1) }, { o := .mv (.l 1), d := some 6 }] []) (.seq (.reg [{ o := .mv (.v 6) }, { o := .mv (.l 0), d := some 5 }] []) .ret))), res := [(5, none)] }
/-- /heads.Missing.1 -/
def heads_Missing_1 : Fn := { nargs := 4, vars := [0, 1, 2, 3, 5], body := (.seq (.reg [{ o := .mv (.b false), d := some 4 }] []) (.seq (.reg [{ o := .ld (.v 1) 1 true }, { o := .mv (.v 0) }, { o := .ld (.v 2) 1 false }, { o := .ca N.swaps_Possible 0 [] [.l 2, .l 1, .l 0] }, { o := .ln (.l 0) }, { o := .ld (.v 3) 1 false }, { o := .bin .gtr (.l 1) (.l 0) }, { o := .mv (.l 0), d := some 4 }] [(5, 0)]) .ret)), res := [(4, none)] }
/-- /places.Possible -/
def places_Possible : Fn := { nargs := 2, vars := [0, 1, 2, 3, 4], body := (.seq (.reg [{ o := .bx (.v 0) 2, d := some 2 }, { o := .bx (.v 1) 1, d := some 3 }, { o := .mv (.c (.nil)), d := some 4 }] []) (.seq (.reg [{ o := .fa (.v 2) 1 }, { o := .ld (.l 0) 1 false }, { o := .ln (.l 0) }, { o := .mf N.places_Possible_1 [.v 2, .v 3] }, { o := .ca N.lists_Where 0 [] [.l 1, .l 0] }, { o := .mv (.l 0), d := some 4 }] []) .ret)), res := [(4, none)] }
/-- /heads.look.1 -/
def heads_look_1 : Fn := { nargs := 2, vars := [0, 1, 3], body := (.seq (.reg [{ o := .mv (.b false), d := some 2 }] []) (.seq (.reg [{ o := .ld (.v 1) 1 false }, { o := .mv (.v 0) }, { o := .ca N.slices_Contains_int_int 0 [] [.l 1, .l 0] }, { o := .mv (.l 0), d := some 2 }] []) .ret)), res := [(2, none)] }
/-- /heads.look.2 -/
def heads_look_2 : Fn := { nargs := 2, vars := [0, 1, 3], body := (.seq (.reg [{ o := .mv (.b false), d := some 2 }] []) (.seq (.reg [{ o := .ld (.v 1) 1 false }, { o := .mv (.v 0) }, { o := .cw (.l 1) 0 [] [.l 0] }, { o := .un .not (.l 0) }, { o := .mv (.l 0), d := some 2 }] []) .ret)), res := [(2, none)] }
/-- /places.Possible.1 -/
def places_Possible_1 : Fn := { nargs := 3, vars := [0, 1, 2, 4], body := (.seq (.reg [{ o := .mv (.b false), d := some 3 }] []) (.seq (.reg [{ o := .fa (.v 1) 1 }, { o := .ld (.l 0) 1 false }, { o := .mv (.v 0) }, { o := .ia (.l 1) (.l 0) 1 }, { o := .ld (.l 0) 1 false }, { o := .ld (.v 2) 1 false }, { o := .bin .leq (.l 1) (.l 0) }, { o := .mv (.l 0), d := some 3 }] []) .ret)), res := [(3, none)] }
end Go.Ev.K
namespace Go.Ev
class Has5 [Lib] : Prop where
  t_law27_HeadsMore : Lib.fs N.law27_HeadsMore = some K.law27_HeadsMore
  t_law27_HeadsSplit : Lib.fs N.law27_HeadsSplit = some K.law27_HeadsSplit
  t_law27_HeadsAll : Lib.fs N.law27_HeadsAll = some K.law27_HeadsAll
  t_law27_HeadsTrue : Lib.fs N.law27_HeadsTrue = some K.law27_HeadsTrue
  t_law27_awake : Lib.fs N.law27_awake = some K.law27_awake
  t_heads_Count : Lib.fs N.heads_Count = some K.heads_Count
  t_ref27_Count : Lib.fs N.ref27_Count = some K.ref27_Count
  t_heads_Sure : Lib.fs N.heads_Sure = some K.heads_Sure
  t_ref27_Sure : Lib.fs N.ref27_Sure = some K.ref27_Sure
  t_heads_Maybe : Lib.fs N.heads_Maybe = some K.heads_Maybe
  t_ref27_Maybe : Lib.fs N.ref27_Maybe = some K.ref27_Maybe
  t_heads_Missing : Lib.fs N.heads_Missing = some K.heads_Missing
  t_ref27_Missing : Lib.fs N.ref27_Missing = some K.ref27_Missing
  t_heads_look : Lib.fs N.heads_look = some K.heads_look
  t_ref27_state : Lib.fs N.ref27_state = some K.ref27_state
  t_heads_persons : Lib.fs N.heads_persons = some K.heads_persons
  t_heads_Sure_1 : Lib.fs N.heads_Sure_1 = some K.heads_Sure_1
  t_heads_Sure_1_1 : Lib.fs N.heads_Sure_1_1 = some K.heads_Sure_1_1
  t_ref27_people : Lib.fs N.ref27_people = some K.ref27_people
  t_heads_Maybe_1 : Lib.fs N.heads_Maybe_1 = some K.heads_Maybe_1
  t_heads_Maybe_1_1 : Lib.fs N.heads_Maybe_1_1 = some K.heads_Maybe_1_1
  t_heads_Missing_1 : Lib.fs N.heads_Missing_1 = some K.heads_Missing_1
  t_places_Possible : Lib.fs N.places_Possible = some K.places_Possible
  t_heads_look_1 : Lib.fs N.heads_look_1 = some K.heads_look_1
  t_heads_look_2 : Lib.fs N.heads_look_2 = some K.heads_look_2
  t_places_Possible_1 : Lib.fs N.places_Possible_1 = some K.places_Possible_1
namespace K
variable [Lib] [Has5]
theorem t_law27_HeadsMore : Lib.fs N.law27_HeadsMore = some K.law27_HeadsMore := Has5.t_law27_HeadsMore
theorem t_law27_HeadsSplit : Lib.fs N.law27_HeadsSplit = some K.law27_HeadsSplit := Has5.t_law27_HeadsSplit
theorem t_law27_HeadsAll : Lib.fs N.law27_HeadsAll = some K.law27_HeadsAll := Has5.t_law27_HeadsAll
theorem t_law27_HeadsTrue : Lib.fs N.law27_HeadsTrue = some K.law27_HeadsTrue := Has5.t_law27_HeadsTrue
theorem t_law27_awake : Lib.fs N.law27_awake = some K.law27_awake := Has5.t_law27_awake
theorem t_heads_Count : Lib.fs N.heads_Count = some K.heads_Count := Has5.t_heads_Count
theorem t_ref27_Count : Lib.fs N.ref27_Count = some K.ref27_Count := Has5.t_ref27_Count
theorem t_heads_Sure : Lib.fs N.heads_Sure = some K.heads_Sure := Has5.t_heads_Sure
theorem t_ref27_Sure : Lib.fs N.ref27_Sure = some K.ref27_Sure := Has5.t_ref27_Sure
theorem t_heads_Maybe : Lib.fs N.heads_Maybe = some K.heads_Maybe := Has5.t_heads_Maybe
theorem t_ref27_Maybe : Lib.fs N.ref27_Maybe = some K.ref27_Maybe := Has5.t_ref27_Maybe
theorem t_heads_Missing : Lib.fs N.heads_Missing = some K.heads_Missing := Has5.t_heads_Missing
theorem t_ref27_Missing : Lib.fs N.ref27_Missing = some K.ref27_Missing := Has5.t_ref27_Missing
theorem t_heads_look : Lib.fs N.heads_look = some K.heads_look := Has5.t_heads_look
theorem t_ref27_state : Lib.fs N.ref27_state = some K.ref27_state := Has5.t_ref27_state
theorem t_heads_persons : Lib.fs N.heads_persons = some K.heads_persons := Has5.t_heads_persons
theorem t_heads_Sure_1 : Lib.fs N.heads_Sure_1 = some K.heads_Sure_1 := Has5.t_heads_Sure_1
theorem t_heads_Sure_1_1 : Lib.fs N.heads_Sure_1_1 = some K.heads_Sure_1_1 := Has5.t_heads_Sure_1_1
theorem t_ref27_people : Lib.fs N.ref27_people = some K.ref27_people := Has5.t_ref27_people
theorem t_heads_Maybe_1 : Lib.fs N.heads_Maybe_1 = some K.heads_Maybe_1 := Has5.t_heads_Maybe_1
theorem t_heads_Maybe_1_1 : Lib.fs N.heads_Maybe_1_1 = some K.heads_Maybe_1_1 := Has5.t_heads_Maybe_1_1
theorem t_heads_Missing_1 : Lib.fs N.heads_Missing_1 = some K.heads_Missing_1 := Has5.t_heads_Missing_1
theorem t_places_Possible : Lib.fs N.places_Possible = some K.places_Possible := Has5.t_places_Possible
theorem t_heads_look_1 : Lib.fs N.heads_look_1 = some K.heads_look_1 := Has5.t_heads_look_1
theorem t_heads_look_2 : Lib.fs N.heads_look_2 = some K.heads_look_2 := Has5.t_heads_look_2
theorem t_places_Possible_1 : Lib.fs N.places_Possible_1 = some K.places_Possible_1 := Has5.t_places_Possible_1
end K
end Go.Ev

/- MADE BY PROGRAM (lib.py): the numbers of functions. -/
namespace Go.Ev.N
def law33_KeysMade : Nat := 215
def law33_KeysSafe : Nat := 216
def law33_KeysBack : Nat := 217
def law33_awake : Nat := 218
def ref33_Start : Nat := 219
def law33_agree : Nat := 220
def law33_step : Nat := 221
def ref33_Copy : Nat := 222
def keys_Start : Nat := 223
def keys_Lock : Nat := 224
def keys_Insert : Nat := 225
def keys_Remove : Nat := 226
def keys_Unlock : Nat := 227
def keys_Draw : Nat := 228
def keys_Return : Nat := 229
def keys_Locked : Nat := 230
def ref33_Same : Nat := 231
def ref33_Locked : Nat := 232
def ref33_Lock : Nat := 233
def ref33_Insert : Nat := 234
def ref33_Remove : Nat := 235
def ref33_Unlock : Nat := 236
def ref33_Draw : Nat := 237
def ref33_Return : Nat := 238
def keys_move : Nat := 239
def keys_turn : Nat := 240
def slices_Sort_int_int : Nat := 241
def ref33_move : Nat := 242
def keys_copied : Nat := 243
def keys_copied_v1 : Nat := 244
end Go.Ev.N

/- MADE BY PROGRAM (lib.py): the compact code of functions. -/
namespace Go.Ev.K
open Go.Ev
def law33_KeysMade_l1b : C := (.seq (.ite [{ o := .mv (.v 4) }, { o := .bin .gtr (.l 0) (.i 0) }] [] 0 .skip (.exit 0)) (.seq (.blk 1 (.reg [{ o := .mv (.v 3) }, { o := .mv (.v 3) }, { o := .ln (.l 0) }, { o := .bin .mul (.l 0) (.i 3) }, { o := .bs [.l 0] 1 }, { o := .app (.l 4) (.l 0) true 1 }, { o := .mv (.l 0), d := some 3 }] [])) (.reg [{ o := .mv (.v 4) }, { o := .bin .sub (.l 0) (.i 1) }, { o := .mv (.l 0), d := some 4 }] [])))
def law33_KeysMade_l1 : C := .loop true [0, 1, 5, 6, 7, 8, 9] K.law33_KeysMade_l1b
def law33_KeysMade_l2b : C := (.seq (.ite [{ o := .mv (.v 6) }, { o := .bin .gtr (.l 0) (.i 0) }] [] 0 .skip (.exit 2)) (.seq (.blk 3 (.seq (.reg [{ o := .mv (.v 2) }, { o := .mv (.v 3) }, { o := .ln (.l 0) }, { o := .bin .add (.l 0) (.i 1) }, { o := .ca N.made_Dice_Next 0 [] [.l 3, .l 0] }, { o := .mv (.v 2) }, { o := .ca N.made_Dice_Next 0 [] [.l 0, .i 2] }, { o := .bin .sub (.l 2) (.l 0) }, { o := .mv (.l 0), d := some 7 }] []) (.seq (.ite [{ o := .ld (.v 5) 3 true }, { o := .mv (.v 7) }, { o := .ca N.law33_agree 0 [] [.l 1, .l 0] }, { o := .un .not (.l 0) }] [] 0 (.seq (.reg [{ o := .mv (.b false), d := some 1 }] []) .ret) .skip) (.reg [{ o := .ld (.v 5) 3 true }, { o := .mv (.v 2) }, { o := .ca N.made_Dice_Next 0 [] [.l 0, .i 6] }, { o := .mv (.v 7) }, { o := .ca N.law33_step 0 [] [.l 3, .l 1, .l 0] }, { o := .mv (.l 0) }, { o := .ex (.l 0) 0 }, { o := .ex (.l 1) 1 }, { o := .ex (.l 2) 2 }, { o := .ex (.l 3) 3 }, { o := .st (.v 5) (.l 1) 3 [] }] [(0, 3)])))) (.reg [{ o := .mv (.v 6) }, { o := .bin .sub (.l 0) (.i 1) }, { o := .mv (.l 0), d := some 6 }] [])))
def law33_KeysMade_l2 : C := .loop true [0, 1, 4, 7, 8, 9] K.law33_KeysMade_l2b
/-- /law33.KeysMade -/
def law33_KeysMade : Fn := { nargs := 1, vars := [0, 2, 3, 4, 5, 6, 8, 9, 10, 66], body := (.seq (.reg [{ o := .mv (.b false), d := some 1 }] []) (.seq (.ite [{ o := .mv (.v 0) }, { o := .ca N.made_Light 0 [] [.l 0] }, { o := .un .not (.l 0) }] [] 0 (.seq (.reg [{ o := .ca N.law33_awake 0 [] [] }, { o := .mv (.l 0), d := some 1 }] []) .ret) .skip) (.seq (.reg [{ o := .mv (.v 0) }, { o := .ca N.made_Roll 0 [] [.l 0] }, { o := .mv (.l 0), d := some 2 }] []) (.seq (.reg [{ o := .nw 1, d := some 3 }] []) (.seq (.seq (.reg [{ o := .mv (.v 2) }, { o := .ca N.made_Dice_Next 0 [] [.l 0, .i 4] }, { o := .bin .add (.i 1) (.l 0) }, { o := .mv (.l 0), d := some 4 }] []) (.blk 0 K.law33_KeysMade_l1)) (.seq (.reg [{ o := .mv (.v 3) }, { o := .ca N.ref33_Start 0 [] [.l 0] }, { o := .mv (.l 0) }, { o := .ex (.l 0) 0 }, { o := .ex (.l 1) 1 }, { o := .al [.nil, .nil, .t (.bool false)] [], d := some 5 }, { o := .st (.l 0) (.l 2) 3 [] }, { o := .mv (.l 2) }] []) (.seq (.seq (.reg [{ o := .mv (.v 2) }, { o := .ca N.made_Dice_Next 0 [] [.l 0, .i 25] }, { o := .mv (.l 0), d := some 6 }] []) (.blk 2 K.law33_KeysMade_l2)) (.seq (.reg [{ o := .ld (.v 5) 3 true }, { o := .ca N.ref33_Copy 1 [] [.l 0] }, { o := .al [.nil, .nil, .t (.bool false)] [], d := some 8 }, { o := .st (.l 0) (.l 1) 3 [] }] []) (.seq (.seq (.reg [{ o := .mv (.v 2) }, { o := .ca N.made_Dice_Next 0 [] [.l 0, .i 4], d := some 9 }] []) (.blk 4 (.ite [{ o := .bin .eql (.v 9) (.i 0) }, { o := .mv (.l 0) }] [] 0 (.reg [{ o := .fa (.v 8) 1 }, { o := .ld (.l 0) 1 false }, { o := .mv (.v 2) }, { o := .bs [.i (-1), .i 3] 1 }, { o := .ca N.made_Dice_Of 0 [] [.l 1, .l 0] }, { o := .ia (.l 3) (.i 0) 1 }, { o := .st (.l 0) (.l 1) 1 [] }] [(1, 4), (1, 5)]) (.ite [{ o := .bin .eql (.v 9) (.i 1) }, { o := .mv (.l 0) }] [] 0 (.reg [{ o := .fa (.v 8) 2 }, { o := .st (.l 0) (.b true) 1 [] }] []) (.ite [{ o := .bin .eql (.v 9) (.i 2) }, { o := .mv (.l 0) }] [] 0 (.reg [{ o := .fa (.v 8) 1 }, { o := .ld (.l 0) 1 false }, { o := .sc (.l 0) (some (.i 1)) none 1 }, { o := .fa (.v 8) 1 }, { o := .st (.l 0) (.l 1) 1 [] }] []) (.reg [{ o := .bsr [.i 200] 1 }, { o := .fa (.v 8) 0 }, { o := .ld (.l 0) 1 false }, { o := .sc (.l 0) (some (.i 1)) none 1 }, { o := .app (.l 3) (.l 0) true 1 }, { o := .fa (.v 8) 0 }, { o := .st (.l 0) (.l 1) 1 [] }] [])))))) (.seq (.reg [{ o := .ca N.law33_awake 0 [] [] }, { o := .mv (.l 0) }, { o := .ld (.v 8) 3 true, g := some (0, true) }, { o := .ca N.law33_agree 0 [] [.l 0, .i 0], g := some (1, true) }, { o := .pk (.l 2) (.l 0) (.b false) }, { o := .mv (.l 0), d := some 1 }] []) .ret)))))))))), res := [(1, none)] }
def law33_KeysSafe_l1b : C := (.seq (.ite [{ o := .mv (.v 5) }, { o := .bin .gtr (.l 0) (.i 0) }, { o := .mv (.l 0) }, { o := .mv (.v 4), g := some (0, true) }, { o := .bin .eql (.l 0) (.i 0), g := some (1, true) }, { o := .pk (.l 2) (.l 0) (.b false) }] [] 0 .skip (.exit 0)) (.seq (.blk 1 (.seq (.reg [{ o := .mv (.v 2) }, { o := .ca N.made_Dice_Next 0 [] [.l 0, .i 6] }, { o := .mv (.v 2) }, { o := .ca N.made_Dice_Next 0 [] [.l 0, .i 3] }, { o := .mv (.l 2), d := some 6 }, { o := .mv (.l 1), d := some 7 }] []) (.seq (.reg [{ o := .al [.nil, .nil, .t (.bool false)] [], d := some 8 }] []) (.seq (.reg [{ o := .mv (.i 0), d := some 9 }] []) (.seq (.seq (.reg [{ o := .mv (.v 6), d := some 10 }] []) (.blk 2 (.ite [{ o := .bin .eql (.v 10) (.i 0) }, { o := .mv (.l 0) }] [] 0 (.reg [{ o := .ld (.v 3) 3 true }, { o := .mv (.v 7) }, { o := .ca N.keys_Lock 0 [] [.l 1, .l 0] }, { o := .mv (.l 0) }, { o := .ex (.l 0) 0 }, { o := .ex (.l 1) 1 }, { o := .st (.v 8) (.l 1) 3 [] }, { o := .mv (.l 1), d := some 9 }] []) (.ite [{ o := .bin .eql (.v 10) (.i 1) }, { o := .mv (.l 0) }] [] 0 (.reg [{ o := .ld (.v 3) 3 true }, { o := .mv (.v 7) }, { o := .ca N.keys_Insert 0 [] [.l 1, .l 0] }, { o := .mv (.l 0) }, { o := .ex (.l 0) 0 }, { o := .ex (.l 1) 1 }, { o := .st (.v 8) (.l 1) 3 [] }, { o := .mv (.l 1), d := some 9 }] []) (.ite [{ o := .bin .eql (.v 10) (.i 2) }, { o := .mv (.l 0) }] [] 0 (.reg [{ o := .ld (.v 3) 3 true }, { o := .mv (.v 7) }, { o := .ca N.keys_Remove 0 [] [.l 1, .l 0] }, { o := .mv (.l 0) }, { o := .ex (.l 0) 0 }, { o := .ex (.l 1) 1 }, { o := .st (.v 8) (.l 1) 3 [] }, { o := .mv (.l 1), d := some 9 }] []) (.ite [{ o := .bin .eql (.v 10) (.i 3) }, { o := .mv (.l 0) }] [] 0 (.reg [{ o := .ld (.v 3) 3 true }, { o := .mv (.v 7) }, { o := .ca N.keys_Unlock 0 [] [.l 1, .l 0] }, { o := .mv (.l 0) }, { o := .ex (.l 0) 0 }, { o := .ex (.l 1) 1 }, { o := .st (.v 8) (.l 1) 3 [] }, { o := .mv (.l 1), d := some 9 }] []) (.ite [{ o := .bin .eql (.v 10) (.i 4) }, { o := .mv (.l 0) }] [] 0 (.reg [{ o := .ld (.v 3) 3 true }, { o := .ca N.keys_Draw 0 [] [.l 0] }, { o := .mv (.l 0) }, { o := .ex (.l 0) 0 }, { o := .ex (.l 1) 1 }, { o := .st (.v 8) (.l 1) 3 [] }, { o := .mv (.l 1), d := some 9 }] []) (.reg [{ o := .ld (.v 3) 3 true }, { o := .ca N.keys_Return 0 [] [.l 0] }, { o := .mv (.l 0) }, { o := .ex (.l 0) 0 }, { o := .ex (.l 1) 1 }, { o := .st (.v 8) (.l 1) 3 [] }, { o := .mv (.l 1), d := some 9 }] [])))))))) (.seq (.ite [{ o := .ld (.v 8) 3 true }, { o := .ca N.keys_Valid 0 [] [.l 0] }, { o := .un .not (.l 0) }, { o := .mv (.l 0) }, { o := .fa (.v 3) 2, g := some (0, false) }, { o := .ld (.l 0) 1 false, g := some (1, false) }, { o := .mv (.l 0), g := some (2, false) }, { o := .mv (.v 6), g := some (0, true) }, { o := .bin .neq (.l 0) (.i 5), g := some (1, true) }, { o := .pk (.l 2) (.l 0) (.b false), g := some (5, false) }, { o := .mv (.l 0), g := some (6, false) }, { o := .mv (.v 9), g := some (0, true) }, { o := .bin .eql (.l 0) (.i 0), g := some (1, true) }, { o := .pk (.l 2) (.l 0) (.b false), g := some (9, false) }, { o := .pk (.l 10) (.b true) (.l 0) }, { o := .mv (.l 0) }, { o := .fa (.v 8) 2, g := some (0, false) }, { o := .ld (.l 0) 1 false, g := some (1, false) }, { o := .mv (.l 0), g := some (2, false) }, { o := .ld (.v 8) 3 true, g := some (0, true) }, { o := .ca N.keys_Locked 0 [] [.l 0], g := some (1, true) }, { o := .ln (.l 0), g := some (2, true) }, { o := .fa (.v 8) 0, g := some (3, true) }, { o := .ld (.l 0) 1 false, g := some (4, true) }, { o := .ln (.l 0), g := some (5, true) }, { o := .bin .neq (.l 3) (.l 0), g := some (6, true) }, { o := .pk (.l 7) (.l 0) (.b false), g := some (10, false) }, { o := .pk (.l 11) (.b true) (.l 0) }, { o := .mv (.l 0) }, { o := .mv (.v 9), g := some (0, false) }, { o := .bin .neq (.l 0) (.i 0), g := some (1, false) }, { o := .mv (.l 0), g := some (2, false) }, { o := .ld (.v 8) 3 true, g := some (0, true) }, { o := .ld (.v 3) 3 true, g := some (1, true) }, { o := .ca N.ref33_Same 0 [] [.l 1, .l 0], g := some (2, true) }, { o := .un .not (.l 0), g := some (3, true) }, { o := .pk (.l 4) (.l 0) (.b false), g := some (7, false) }, { o := .pk (.l 8) (.b true) (.l 0) }] [(23, 2)] 0 (.seq (.reg [{ o := .mv (.b false), d := some 1 }] []) .ret) .skip) (.reg [{ o := .ld (.v 8) 3 true }, { o := .st (.v 3) (.l 0) 3 [] }] []))))))) (.reg [{ o := .mv (.v 5) }, { o := .bin .sub (.l 0) (.i 1) }, { o := .mv (.l 0), d := some 5 }] [])))
def law33_KeysSafe_l1 : C := .loop true [0, 1, 6, 7, 8, 9, 10] K.law33_KeysSafe_l1b
/-- /law33.KeysSafe -/
def law33_KeysSafe : Fn := { nargs := 1, vars := [0, 2, 3, 4, 5, 6, 7, 8, 9, 10, 40], body := (.seq (.reg [{ o := .mv (.b false), d := some 1 }] []) (.seq (.ite [{ o := .mv (.v 0) }, { o := .ca N.made_Light 0 [] [.l 0] }, { o := .un .not (.l 0) }] [] 0 (.seq (.reg [{ o := .ca N.law33_awake 0 [] [] }, { o := .mv (.l 0), d := some 1 }] []) .ret) .skip) (.seq (.reg [{ o := .mv (.v 0) }, { o := .ca N.made_Roll 0 [] [.l 0] }, { o := .mv (.l 0), d := some 2 }] []) (.seq (.reg [{ o := .bs [.i 2, .i 5, .i 9] 1 }, { o := .mv (.v 2) }, { o := .ca N.made_Dice_Next 0 [] [.l 0, .i 3] }, { o := .bin .add (.i 1) (.l 0) }, { o := .sc (.l 3) none (some (.l 0)) 1 }, { o := .ca N.keys_Start 0 [] [.l 0] }, { o := .mv (.l 0) }, { o := .ex (.l 0) 0 }, { o := .ex (.l 1) 1 }, { o := .al [.nil, .nil, .t (.bool false)] [], d := some 3 }, { o := .st (.l 0) (.l 2) 3 [] }, { o := .mv (.l 2), d := some 4 }] []) (.seq (.seq (.reg [{ o := .mv (.v 2) }, { o := .ca N.made_Dice_Next 0 [] [.l 0, .i 40] }, { o := .mv (.l 0), d := some 5 }] []) (.blk 0 K.law33_KeysSafe_l1)) (.seq (.reg [{ o := .ca N.law33_awake 0 [] [] }, { o := .mv (.l 0) }, { o := .mv (.v 4), g := some (0, true) }, { o := .bin .eql (.l 0) (.i 0), g := some (1, true) }, { o := .pk (.l 2) (.l 0) (.b false) }, { o := .mv (.l 0), d := some 1 }] []) .ret)))))), res := [(1, none)] }
def law33_KeysBack_l1b : C := (.seq (.ite [{ o := .mv (.v 4) }, { o := .bin .gtr (.l 0) (.i 0) }] [] 0 .skip (.exit 0)) (.seq (.blk 1 (.reg [{ o := .ld (.v 3) 3 true }, { o := .mv (.v 2) }, { o := .bs [.i 0, .i 0, .i 1, .i 1, .i 4, .i 2, .i 3, .i 5] 1 }, { o := .ca N.made_Dice_Of 0 [] [.l 1, .l 0] }, { o := .mv (.v 2) }, { o := .ca N.made_Dice_Next 0 [] [.l 0, .i 3] }, { o := .ca N.law33_step 0 [] [.l 5, .l 2, .l 0] }, { o := .mv (.l 0) }, { o := .ex (.l 0) 0 }, { o := .ex (.l 1) 1 }, { o := .ex (.l 2) 2 }, { o := .ex (.l 3) 3 }, { o := .st (.v 3) (.l 1) 3 [] }] [(0, 3), (0, 4), (0, 6)])) (.reg [{ o := .mv (.v 4) }, { o := .bin .sub (.l 0) (.i 1) }, { o := .mv (.l 0), d := some 4 }] [])))
def law33_KeysBack_l1 : C := .loop true [0, 1, 5, 6, 7, 8, 9, 10, 11, 12, 13, 14, 15, 16, 17] K.law33_KeysBack_l1b
/-- /law33.KeysBack -/
def law33_KeysBack : Fn := { nargs := 1, vars := [0, 2, 3, 4, 6, 7, 8, 9, 10, 11, 12, 13, 14, 15, 16, 17, 18, 19], body := (.seq (.reg [{ o := .mv (.b false), d := some 1 }] []) (.seq (.ite [{ o := .mv (.v 0) }, { o := .ca N.made_Light 0 [] [.l 0] }, { o := .un .not (.l 0) }] [] 0 (.seq (.reg [{ o := .ca N.law33_awake 0 [] [] }, { o := .mv (.l 0), d := some 1 }] []) .ret) .skip) (.seq (.reg [{ o := .mv (.v 0) }, { o := .ca N.made_Roll 0 [] [.l 0] }, { o := .mv (.l 0), d := some 2 }] []) (.seq (.reg [{ o := .bs [.i 1, .i 4, .i 6] 1 }, { o := .mv (.v 2) }, { o := .ca N.made_Dice_Next 0 [] [.l 0, .i 3] }, { o := .bin .add (.i 1) (.l 0) }, { o := .sc (.l 3) none (some (.l 0)) 1 }, { o := .ca N.ref33_Start 0 [] [.l 0] }, { o := .mv (.l 0) }, { o := .ex (.l 0) 0 }, { o := .ex (.l 1) 1 }, { o := .al [.nil, .nil, .t (.bool false)] [], d := some 3 }, { o := .st (.l 0) (.l 2) 3 [] }, { o := .mv (.l 2) }] []) (.seq (.seq (.reg [{ o := .mv (.v 2) }, { o := .ca N.made_Dice_Next 0 [] [.l 0, .i 12] }, { o := .mv (.l 0), d := some 4 }] []) (.blk 0 K.law33_KeysBack_l1)) (.seq (.reg [{ o := .mv (.v 2) }, { o := .ca N.made_Dice_Next 0 [] [.l 0, .i 3] }, { o := .mv (.l 0), d := some 5 }] []) (.seq (.seq (.reg [{ o := .ld (.v 3) 3 true }, { o := .mv (.v 5) }, { o := .ca N.keys_Lock 0 [] [.l 1, .l 0] }, { o := .mv (.l 0) }, { o := .ex (.l 0) 0 }, { o := .ex (.l 1) 1 }, { o := .al [.nil, .nil, .t (.bool false)] [], d := some 6 }, { o := .st (.l 0) (.l 2) 3 [] }, { o := .mv (.l 2), d := some 7 }] []) (.ite [{ o := .mv (.v 7) }, { o := .bin .eql (.l 0) (.i 0) }] [] 0 (.seq (.reg [{ o := .ld (.v 6) 3 true }, { o := .mv (.v 5) }, { o := .ca N.keys_Unlock 0 [] [.l 1, .l 0] }, { o := .mv (.l 0) }, { o := .ex (.l 0) 0 }, { o := .ex (.l 1) 1 }, { o := .al [.nil, .nil, .t (.bool false)] [], d := some 8 }, { o := .st (.l 0) (.l 2) 3 [] }, { o := .mv (.l 2), d := some 9 }] []) (.ite [{ o := .mv (.v 9) }, { o := .bin .neq (.l 0) (.i 0) }, { o := .mv (.l 0) }, { o := .ld (.v 8) 3 true, g := some (0, false) }, { o := .ld (.v 3) 3 true, g := some (1, false) }, { o := .ca N.ref33_Same 0 [] [.l 1, .l 0], g := some (2, false) }, { o := .un .not (.l 0), g := some (3, false) }, { o := .pk (.l 4) (.b true) (.l 0) }] [] 0 (.seq (.reg [{ o := .mv (.b false), d := some 1 }] []) .ret) .skip)) .skip)) (.seq (.seq (.reg [{ o := .ld (.v 3) 3 true }, { o := .mv (.v 5) }, { o := .ca N.keys_Insert 0 [] [.l 1, .l 0] }, { o := .mv (.l 0) }, { o := .ex (.l 0) 0 }, { o := .ex (.l 1) 1 }, { o := .al [.nil, .nil, .t (.bool false)] [], d := some 10 }, { o := .st (.l 0) (.l 2) 3 [] }, { o := .mv (.l 2), d := some 11 }] []) (.ite [{ o := .mv (.v 11) }, { o := .bin .eql (.l 0) (.i 0) }] [] 0 (.seq (.reg [{ o := .ld (.v 10) 3 true }, { o := .mv (.v 5) }, { o := .ca N.keys_Remove 0 [] [.l 1, .l 0] }, { o := .mv (.l 0) }, { o := .ex (.l 0) 0 }, { o := .ex (.l 1) 1 }, { o := .al [.nil, .nil, .t (.bool false)] [], d := some 12 }, { o := .st (.l 0) (.l 2) 3 [] }, { o := .mv (.l 2), d := some 13 }] []) (.ite [{ o := .mv (.v 13) }, { o := .bin .neq (.l 0) (.i 0) }, { o := .mv (.l 0) }, { o := .ld (.v 12) 3 true, g := some (0, false) }, { o := .ld (.v 3) 3 true, g := some (1, false) }, { o := .ca N.ref33_Same 0 [] [.l 1, .l 0], g := some (2, false) }, { o := .un .not (.l 0), g := some (3, false) }, { o := .pk (.l 4) (.b true) (.l 0) }] [] 0 (.seq (.reg [{ o := .mv (.b false), d := some 1 }] []) .ret) .skip)) .skip)) (.seq (.seq (.reg [{ o := .ld (.v 3) 3 true }, { o := .ca N.keys_Draw 0 [] [.l 0] }, { o := .mv (.l 0) }, { o := .ex (.l 0) 0 }, { o := .ex (.l 1) 1 }, { o := .al [.nil, .nil, .t (.bool false)] [], d := some 14 }, { o := .st (.l 0) (.l 2) 3 [] }, { o := .mv (.l 2), d := some 15 }] []) (.ite [{ o := .mv (.v 15) }, { o := .bin .eql (.l 0) (.i 0) }] [] 0 (.seq (.reg [{ o := .ld (.v 14) 3 true }, { o := .ca N.keys_Return 0 [] [.l 0] }, { o := .mv (.l 0) }, { o := .ex (.l 0) 0 }, { o := .ex (.l 1) 1 }, { o := .al [.nil, .nil, .t (.bool false)] [], d := some 16 }, { o := .st (.l 0) (.l 2) 3 [] }, { o := .mv (.l 2), d := some 17 }] []) (.ite [{ o := .mv (.v 17) }, { o := .bin .neq (.l 0) (.i 0) }, { o := .mv (.l 0) }, { o := .ld (.v 16) 3 true, g := some (0, false) }, { o := .ld (.v 3) 3 true, g := some (1, false) }, { o := .ca N.ref33_Same 0 [] [.l 1, .l 0], g := some (2, false) }, { o := .un .not (.l 0), g := some (3, false) }, { o := .pk (.l 4) (.b true) (.l 0) }] [] 0 (.seq (.reg [{ o := .mv (.b false), d := some 1 }] []) .ret) .skip)) .skip)) (.seq (.reg [{ o := .ca N.law33_awake 0 [] [] }, { o := .mv (.l 0), d := some 1 }] []) .ret)))))))))), res := [(1, none)] }
/-- /law33.awake -/
def law33_awake : Fn := { nargs := 0, vars := [0, 1, 2, 3, 4, 5, 6, 8, 9], body := (.seq (.reg [{ o := .mv (.b false), d := some 0 }] []) (.seq (.reg [{ o := .bs [.i 3, .i 7] 1 }, { o := .ca N.keys_Start 0 [] [.l 0] }, { o := .mv (.l 0) }, { o := .ex (.l 0) 0 }, { o := .ex (.l 1) 1 }, { o := .al [.nil, .nil, .t (.bool false)] [], d := some 1 }, { o := .st (.l 0) (.l 2) 3 [] }, { o := .mv (.l 2), d := some 2 }] []) (.seq (.reg [{ o := .ld (.v 1) 3 true }, { o := .ca N.keys_Lock 0 [] [.l 0, .i 0] }, { o := .mv (.l 0) }, { o := .ex (.l 0) 0 }, { o := .ex (.l 1) 1 }, { o := .al [.nil, .nil, .t (.bool false)] [], d := some 3 }, { o := .st (.l 0) (.l 2) 3 [] }, { o := .mv (.l 2), d := some 4 }] []) (.seq (.reg [{ o := .ld (.v 3) 3 true }, { o := .ca N.keys_Insert 0 [] [.l 0, .i 0] }, { o := .mv (.l 0) }, { o := .ex (.l 0) 0 }, { o := .ex (.l 1) 1 }, { o := .al [.nil, .nil, .t (.bool false)] [], d := some 5 }, { o := .st (.l 0) (.l 2) 3 [] }, { o := .mv (.l 2), d := some 6 }] []) (.seq (.reg [{ o := .ld (.v 5) 3 true }, { o := .ca N.keys_Draw 0 [] [.l 0] }, { o := .mv (.l 0) }, { o := .ex (.l 0) 0 }, { o := .ex (.l 1) 1 }, { o := .al [.nil, .nil, .t (.bool false)] [] }, { o := .st (.l 0) (.l 2) 3 [] }, { o := .mv (.l 2), d := some 7 }] []) (.seq (.reg [{ o := .ld (.v 5) 3 true }, { o := .ca N.keys_Locked 0 [] [.l 0] }, { o := .mv (.l 0), d := some 8 }] []) (.seq (.reg [{ o := .mv (.v 2) }, { o := .bin .eql (.l 0) (.i 0) }, { o := .mv (.l 0) }, { o := .mv (.v 4), g := some (0, true) }, { o := .bin .eql (.l 0) (.i 0), g := some (1, true) }, { o := .pk (.l 2) (.l 0) (.b false) }, { o := .mv (.l 0) }, { o := .mv (.v 6), g := some (0, true) }, { o := .bin .eql (.l 0) (.i 0), g := some (1, true) }, { o := .pk (.l 2) (.l 0) (.b false) }, { o := .mv (.l 0) }, { o := .mv (.v 7), g := some (0, true) }, { o := .bin .eql (.l 0) (.i 48), g := some (1, true) }, { o := .pk (.l 2) (.l 0) (.b false) }, { o := .mv (.l 0) }, { o := .mv (.v 8), g := some (0, true) }, { o := .ln (.l 0), g := some (1, true) }, { o := .bin .eql (.l 0) (.i 1), g := some (2, true) }, { o := .pk (.l 3) (.l 0) (.b false) }, { o := .mv (.l 0) }, { o := .mv (.v 8), g := some (0, true) }, { o := .ia (.l 0) (.i 0) 1, g := some (1, true) }, { o := .ld (.l 0) 1 false, g := some (2, true) }, { o := .bin .eql (.l 0) (.i 3), g := some (3, true) }, { o := .pk (.l 4) (.l 0) (.b false) }, { o := .mv (.l 0) }, { o := .ld (.v 5) 3 true, g := some (0, true) }, { o := .ca N.keys_Valid 0 [] [.l 0], g := some (1, true) }, { o := .pk (.l 2) (.l 0) (.b false) }, { o := .mv (.l 0), d := some 0 }] []) .ret))))))), res := [(0, none)] }
/-- /ref33.Start -/
def ref33_Start : Fn := { nargs := 1, vars := [0, 2, 3, 4], body := (.seq (.reg [{ o := .al [.nil, .nil, .t (.bool false)] [], d := some 1 }, { o := .mv (.i 0), d := some 2 }] []) (.seq (.reg [{ o := .al [.nil, .nil, .t (.bool false)] [], d := some 3 }, { o := .mv (.v 0) }, { o := .app (.c (.nil)) (.l 0) true 1 }, { o := .mv (.v 0) }, { o := .ln (.l 0) }, { o := .mkt (.l 0) (.int .i64 (0)) 1 }, { o := .bd [.nil, .nil, .t (.bool false)] [(0, 1, .l 3), (1, 1, .l 0)] }, { o := .st (.l 6) (.l 0) 3 [] }] [(0, 3), (5, 1)]) (.seq (.ite [{ o := .ld (.v 3) 3 true }, { o := .ca N.ref33_Valid 0 [] [.l 0] }, { o := .un .not (.l 0) }] [] 0 (.seq (.reg [{ o := .bd [.nil, .nil, .t (.bool false)] [] }, { o := .st (.v 1) (.l 0) 3 [] }, { o := .mv (.i 6), d := some 2 }] []) .ret) .skip) (.seq (.reg [{ o := .ld (.v 3) 3 true }, { o := .st (.v 1) (.l 0) 3 [] }, { o := .mv (.i 0), d := some 2 }] []) .ret)))), res := [(1, some (3, true)), (2, none)] }
def law33_agree_l1b : C := (.seq (.ite [{ o := .mv (.v 4) }, { o := .bin .lss (.l 0) (.i 6) }] [] 0 .skip (.exit 0)) (.seq (.blk 1 (.seq (.reg [{ o := .ld (.v 2) 3 true }, { o := .mv (.v 4) }, { o := .mv (.v 1) }, { o := .ca N.law33_step 0 [] [.l 2, .l 1, .l 0] }, { o := .mv (.l 0) }, { o := .ex (.l 0) 0 }, { o := .ex (.l 1) 1 }, { o := .ex (.l 2) 2 }, { o := .ex (.l 3) 3 }, { o := .al [.nil, .nil, .t (.bool false)] [], d := some 5 }, { o := .al [.nil, .nil, .t (.bool false)] [], d := some 7 }, { o := .st (.l 1) (.l 5) 3 [] }, { o := .mv (.l 5), d := some 6 }, { o := .st (.l 2) (.l 5) 3 [] }, { o := .mv (.l 5), d := some 8 }] []) (.ite [{ o := .mv (.v 6) }, { o := .mv (.v 8) }, { o := .bin .neq (.l 1) (.l 0) }, { o := .mv (.l 0) }, { o := .ld (.v 5) 3 true, g := some (0, false) }, { o := .ld (.v 7) 3 true, g := some (1, false) }, { o := .ca N.ref33_Same 0 [] [.l 1, .l 0], g := some (2, false) }, { o := .un .not (.l 0), g := some (3, false) }, { o := .pk (.l 4) (.b true) (.l 0) }] [] 0 (.seq (.reg [{ o := .mv (.b false), d := some 3 }] []) .ret) .skip))) (.reg [{ o := .mv (.v 4) }, { o := .bin .add (.l 0) (.i 1) }, { o := .mv (.l 0), d := some 4 }] [])))
def law33_agree_l1 : C := .loop true [0, 3, 5, 6, 7, 8, 9, 10, 11] K.law33_agree_l1b
def law33_agree_l2b : C := (.seq (.ite [{ o := .mv (.v 11) }, { o := .mv (.v 9) }, { o := .ln (.l 0) }, { o := .bin .lss (.l 2) (.l 0) }] [] 0 .skip (.exit 2)) (.seq (.blk 3 (.ite [{ o := .mv (.v 9) }, { o := .ln (.l 0) }, { o := .mv (.v 10) }, { o := .ln (.l 0) }, { o := .bin .neq (.l 2) (.l 0) }, { o := .mv (.l 0) }, { o := .mv (.v 9), g := some (0, false) }, { o := .mv (.v 11), g := some (1, false) }, { o := .ia (.l 1) (.l 0) 1, g := some (2, false) }, { o := .ld (.l 0) 1 false, g := some (3, false) }, { o := .mv (.v 10), g := some (4, false) }, { o := .mv (.v 11), g := some (5, false) }, { o := .ia (.l 1) (.l 0) 1, g := some (6, false) }, { o := .ld (.l 0) 1 false, g := some (7, false) }, { o := .bin .neq (.l 4) (.l 0), g := some (8, false) }, { o := .pk (.l 9) (.b true) (.l 0) }] [] 0 (.seq (.reg [{ o := .mv (.b false), d := some 3 }] []) .ret) .skip)) (.reg [{ o := .mv (.v 11) }, { o := .bin .add (.l 0) (.i 1) }, { o := .mv (.l 0), d := some 11 }] [])))
def law33_agree_l2 : C := .loop true [0, 1, 3, 4, 5, 6, 7, 8] K.law33_agree_l2b
/-- /law33.agree -/
def law33_agree : Fn := { nargs := 2, vars := [0, 1, 2, 4, 5, 6, 7, 8, 9, 10, 11, 12], body := (.seq (.reg [{ o := .bx (.v 0) 3, d := some 2 }, { o := .mv (.b false), d := some 3 }] []) (.seq (.seq (.reg [{ o := .mv (.i 0), d := some 4 }] []) (.blk 0 K.law33_agree_l1)) (.seq (.reg [{ o := .ld (.v 2) 3 true }, { o := .ca N.keys_Locked 0 [] [.l 0] }, { o := .ld (.v 2) 3 true }, { o := .ca N.ref33_Locked 0 [] [.l 0] }, { o := .mv (.l 2), d := some 9 }, { o := .mv (.l 1), d := some 10 }] [(2, 0)]) (.seq (.seq (.reg [{ o := .mv (.i 0), d := some 11 }] []) (.blk 2 K.law33_agree_l2)) (.seq (.reg [{ o := .mv (.v 9) }, { o := .ln (.l 0) }, { o := .mv (.v 10) }, { o := .ln (.l 0) }, { o := .bin .eql (.l 2) (.l 0) }, { o := .mv (.l 0) }, { o := .ld (.v 2) 3 true, g := some (0, true) }, { o := .ca N.keys_Valid 0 [] [.l 0], g := some (1, true) }, { o := .ld (.v 2) 3 true, g := some (2, true) }, { o := .ca N.ref33_Valid 0 [] [.l 0], g := some (3, true) }, { o := .eqk (.bool) false (.l 2) (.l 0), g := some (4, true) }, { o := .pk (.l 5) (.l 0) (.b false) }, { o := .mv (.l 0), d := some 3 }] [(8, 0)]) .ret))))), res := [(3, none)] }
/-- /law33.step -/
def law33_step : Fn := { nargs := 3, vars := [0, 1, 2, 3, 6, 7, 8, 9, 10, 11, 12, 13, 14, 15, 16, 17, 18, 19, 20, 21, 22, 23, 24, 25, 26, 27, 28, 29, 30, 31, 32, 33, 34], body := (.seq (.reg [{ o := .bx (.v 0) 3, d := some 3 }, { o := .al [.nil, .nil, .t (.bool false)] [], d := some 4 }, { o := .mv (.i 0), d := some 5 }, { o := .al [.nil, .nil, .t (.bool false)] [], d := some 6 }, { o := .mv (.i 0), d := some 7 }] []) (.seq (.seq (.reg [{ o := .mv (.v 1), d := some 32 }] []) (.blk 0 (.ite [{ o := .bin .eql (.v 32) (.i 0) }, { o := .mv (.l 0) }] [] 0 (.seq (.reg [{ o := .ld (.v 3) 3 true }, { o := .mv (.v 2) }, { o := .ca N.keys_Lock 0 [] [.l 1, .l 0] }, { o := .mv (.l 0) }, { o := .ex (.l 0) 0 }, { o := .ex (.l 1) 1 }, { o := .al [.nil, .nil, .t (.bool false)] [], d := some 8 }, { o := .st (.l 0) (.l 2) 3 [] }, { o := .mv (.l 2), d := some 9 }] []) (.seq (.reg [{ o := .ld (.v 3) 3 true }, { o := .mv (.v 2) }, { o := .ca N.ref33_Lock 0 [] [.l 1, .l 0] }, { o := .mv (.l 0) }, { o := .ex (.l 0) 0 }, { o := .ex (.l 1) 1 }, { o := .al [.nil, .nil, .t (.bool false)] [], d := some 10 }, { o := .st (.l 0) (.l 2) 3 [] }, { o := .mv (.l 2), d := some 11 }] []) (.seq (.reg [{ o := .ld (.v 8) 3 true }, { o := .mv (.v 9) }, { o := .ld (.v 10) 3 true }, { o := .mv (.v 11) }, { o := .st (.v 4) (.l 3) 3 [] }, { o := .mv (.l 3), d := some 5 }, { o := .st (.v 6) (.l 3) 3 [] }, { o := .mv (.l 3), d := some 7 }] [(2, 5)]) .ret))) (.ite [{ o := .bin .eql (.v 32) (.i 1) }, { o := .mv (.l 0) }] [] 0 (.seq (.reg [{ o := .ld (.v 3) 3 true }, { o := .mv (.v 2) }, { o := .ca N.keys_Insert 0 [] [.l 1, .l 0] }, { o := .mv (.l 0) }, { o := .ex (.l 0) 0 }, { o := .ex (.l 1) 1 }, { o := .al [.nil, .nil, .t (.bool false)] [], d := some 12 }, { o := .st (.l 0) (.l 2) 3 [] }, { o := .mv (.l 2), d := some 13 }] []) (.seq (.reg [{ o := .ld (.v 3) 3 true }, { o := .mv (.v 2) }, { o := .ca N.ref33_Insert 0 [] [.l 1, .l 0] }, { o := .mv (.l 0) }, { o := .ex (.l 0) 0 }, { o := .ex (.l 1) 1 }, { o := .al [.nil, .nil, .t (.bool false)] [], d := some 14 }, { o := .st (.l 0) (.l 2) 3 [] }, { o := .mv (.l 2), d := some 15 }] []) (.seq (.reg [{ o := .ld (.v 12) 3 true }, { o := .mv (.v 13) }, { o := .ld (.v 14) 3 true }, { o := .mv (.v 15) }, { o := .st (.v 4) (.l 3) 3 [] }, { o := .mv (.l 3), d := some 5 }, { o := .st (.v 6) (.l 3) 3 [] }, { o := .mv (.l 3), d := some 7 }] [(2, 5)]) .ret))) (.ite [{ o := .bin .eql (.v 32) (.i 2) }, { o := .mv (.l 0) }] [] 0 (.seq (.reg [{ o := .ld (.v 3) 3 true }, { o := .mv (.v 2) }, { o := .ca N.keys_Remove 0 [] [.l 1, .l 0] }, { o := .mv (.l 0) }, { o := .ex (.l 0) 0 }, { o := .ex (.l 1) 1 }, { o := .al [.nil, .nil, .t (.bool false)] [], d := some 16 }, { o := .st (.l 0) (.l 2) 3 [] }, { o := .mv (.l 2), d := some 17 }] []) (.seq (.reg [{ o := .ld (.v 3) 3 true }, { o := .mv (.v 2) }, { o := .ca N.ref33_Remove 0 [] [.l 1, .l 0] }, { o := .mv (.l 0) }, { o := .ex (.l 0) 0 }, { o := .ex (.l 1) 1 }, { o := .al [.nil, .nil, .t (.bool false)] [], d := some 18 }, { o := .st (.l 0) (.l 2) 3 [] }, { o := .mv (.l 2), d := some 19 }] []) (.seq (.reg [{ o := .ld (.v 16) 3 true }, { o := .mv (.v 17) }, { o := .ld (.v 18) 3 true }, { o := .mv (.v 19) }, { o := .st (.v 4) (.l 3) 3 [] }, { o := .mv (.l 3), d := some 5 }, { o := .st (.v 6) (.l 3) 3 [] }, { o := .mv (.l 3), d := some 7 }] [(2, 5)]) .ret))) (.ite [{ o := .bin .eql (.v 32) (.i 3) }, { o := .mv (.l 0) }] [] 0 (.seq (.reg [{ o := .ld (.v 3) 3 true }, { o := .mv (.v 2) }, { o := .ca N.keys_Unlock 0 [] [.l 1, .l 0] }, { o := .mv (.l 0) }, { o := .ex (.l 0) 0 }, { o := .ex (.l 1) 1 }, { o := .al [.nil, .nil, .t (.bool false)] [], d := some 20 }, { o := .st (.l 0) (.l 2) 3 [] }, { o := .mv (.l 2), d := some 21 }] []) (.seq (.reg [{ o := .ld (.v 3) 3 true }, { o := .mv (.v 2) }, { o := .ca N.ref33_Unlock 0 [] [.l 1, .l 0] }, { o := .mv (.l 0) }, { o := .ex (.l 0) 0 }, { o := .ex (.l 1) 1 }, { o := .al [.nil, .nil, .t (.bool false)] [], d := some 22 }, { o := .st (.l 0) (.l 2) 3 [] }, { o := .mv (.l 2), d := some 23 }] []) (.seq (.reg [{ o := .ld (.v 20) 3 true }, { o := .mv (.v 21) }, { o := .ld (.v 22) 3 true }, { o := .mv (.v 23) }, { o := .st (.v 4) (.l 3) 3 [] }, { o := .mv (.l 3), d := some 5 }, { o := .st (.v 6) (.l 3) 3 [] }, { o := .mv (.l 3), d := some 7 }] [(2, 5)]) .ret))) (.ite [{ o := .bin .eql (.v 32) (.i 4) }, { o := .mv (.l 0) }] [] 0 (.seq (.reg [{ o := .ld (.v 3) 3 true }, { o := .ca N.keys_Draw 0 [] [.l 0] }, { o := .mv (.l 0) }, { o := .ex (.l 0) 0 }, { o := .ex (.l 1) 1 }, { o := .al [.nil, .nil, .t (.bool false)] [], d := some 24 }, { o := .st (.l 0) (.l 2) 3 [] }, { o := .mv (.l 2), d := some 25 }] []) (.seq (.reg [{ o := .ld (.v 3) 3 true }, { o := .ca N.ref33_Draw 0 [] [.l 0] }, { o := .mv (.l 0) }, { o := .ex (.l 0) 0 }, { o := .ex (.l 1) 1 }, { o := .al [.nil, .nil, .t (.bool false)] [], d := some 26 }, { o := .st (.l 0) (.l 2) 3 [] }, { o := .mv (.l 2), d := some 27 }] []) (.seq (.reg [{ o := .ld (.v 24) 3 true }, { o := .mv (.v 25) }, { o := .ld (.v 26) 3 true }, { o := .mv (.v 27) }, { o := .st (.v 4) (.l 3) 3 [] }, { o := .mv (.l 3), d := some 5 }, { o := .st (.v 6) (.l 3) 3 [] }, { o := .mv (.l 3), d := some 7 }] [(2, 5)]) .ret))) .skip))))))) (.seq (.reg [{ o := .ld (.v 3) 3 true }, { o := .ca N.keys_Return 0 [] [.l 0] }, { o := .mv (.l 0) }, { o := .ex (.l 0) 0 }, { o := .ex (.l 1) 1 }, { o := .al [.nil, .nil, .t (.bool false)] [], d := some 28 }, { o := .st (.l 0) (.l 2) 3 [] }, { o := .mv (.l 2), d := some 29 }] []) (.seq (.reg [{ o := .ld (.v 3) 3 true }, { o := .ca N.ref33_Return 0 [] [.l 0] }, { o := .mv (.l 0) }, { o := .ex (.l 0) 0 }, { o := .ex (.l 1) 1 }, { o := .al [.nil, .nil, .t (.bool false)] [], d := some 30 }, { o := .st (.l 0) (.l 2) 3 [] }, { o := .mv (.l 2), d := some 31 }] []) (.seq (.reg [{ o := .ld (.v 28) 3 true }, { o := .mv (.v 29) }, { o := .ld (.v 30) 3 true }, { o := .mv (.v 31) }, { o := .st (.v 4) (.l 3) 3 [] }, { o := .mv (.l 3), d := some 5 }, { o := .st (.v 6) (.l 3) 3 [] }, { o := .mv (.l 3), d := some 7 }] [(2, 5)]) .ret))))), res := [(4, some (3, true)), (5, none), (6, some (3, true)), (7, none)] }
/-- /ref33.Copy -/
def ref33_Copy : Fn := { nargs := 1, vars := [0, 1, 2], body := (.seq (.reg [{ o := .bx (.v 0) 3, d := some 1 }, { o := .al [.nil, .nil, .t (.bool false)] [], d := some 2 }] []) (.seq (.reg [{ o := .fa (.v 1) 0 }, { o := .ld (.l 0) 1 false }, { o := .app (.c (.nil)) (.l 0) true 1 }, { o := .fa (.v 1) 1 }, { o := .ld (.l 0) 1 false }, { o := .app (.c (.nil)) (.l 0) true 1 }, { o := .fa (.v 1) 2 }, { o := .ld (.l 0) 1 false }, { o := .bd [.nil, .nil, .t (.bool false)] [(0, 1, .l 5), (1, 1, .l 2), (2, 1, .l 0)] }, { o := .st (.v 2) (.l 0) 3 [] }] [(4, 0), (7, 0), (7, 3)]) .ret)), res := [(2, some (3, true))] }
/-- /keys.Start -/
def keys_Start : Fn := { nargs := 1, vars := [0, 2, 3], body := (.seq (.reg [{ o := .al [.nil, .nil, .t (.bool false)] [], d := some 1 }, { o := .mv (.i 0), d := some 2 }] []) (.seq (.ite [{ o := .mv (.v 0) }, { o := .ca N.keys_roads 0 [] [.l 0] }, { o := .un .not (.l 0) }] [] 0 (.seq (.reg [{ o := .bd [.nil, .nil, .t (.bool false)] [] }, { o := .st (.v 1) (.l 0) 3 [] }, { o := .mv (.i 6), d := some 2 }] []) .ret) .skip) (.seq (.reg [{ o := .mv (.v 0) }, { o := .ca N.slices_Clone_int_int 0 [] [.l 0] }, { o := .mv (.v 0) }, { o := .ln (.l 0) }, { o := .mkt (.l 0) (.int .i64 (0)) 1 }, { o := .bd [.nil, .nil, .t (.bool false)] [(0, 1, .l 3), (1, 1, .l 0)] }, { o := .st (.v 1) (.l 0) 3 [] }, { o := .mv (.i 0), d := some 2 }] [(4, 0)]) .ret))), res := [(1, some (3, true)), (2, none)] }
/-- /keys.Lock -/
def keys_Lock : Fn := { nargs := 2, vars := [0, 1, 2, 4, 5], body := (.seq (.reg [{ o := .bx (.v 0) 3, d := some 2 }, { o := .al [.nil, .nil, .t (.bool false)] [], d := some 3 }, { o := .mv (.i 0), d := some 4 }] []) (.seq (.reg [{ o := .ld (.v 2) 3 true }, { o := .mv (.v 1) }, { o := .ca N.keys_move 0 [] [.l 1, .l 0, .i 0, .i 1] }, { o := .ex (.l 0) 0 }, { o := .ex (.l 1) 1 }, { o := .st (.v 3) (.l 1) 3 [] }, { o := .mv (.l 1), d := some 4 }] []) .ret)), res := [(3, some (3, true)), (4, none)] }
/-- /keys.Insert -/
def keys_Insert : Fn := { nargs := 2, vars := [0, 1, 2, 4, 5], body := (.seq (.reg [{ o := .bx (.v 0) 3, d := some 2 }, { o := .al [.nil, .nil, .t (.bool false)] [], d := some 3 }, { o := .mv (.i 0), d := some 4 }] []) (.seq (.reg [{ o := .ld (.v 2) 3 true }, { o := .mv (.v 1) }, { o := .ca N.keys_move 0 [] [.l 1, .l 0, .i 1, .i 2] }, { o := .ex (.l 0) 0 }, { o := .ex (.l 1) 1 }, { o := .st (.v 3) (.l 1) 3 [] }, { o := .mv (.l 1), d := some 4 }] []) .ret)), res := [(3, some (3, true)), (4, none)] }
/-- /keys.Remove -/
def keys_Remove : Fn := { nargs := 2, vars := [0, 1, 2, 4, 5], body := (.seq (.reg [{ o := .bx (.v 0) 3, d := some 2 }, { o := .al [.nil, .nil, .t (.bool false)] [], d := some 3 }, { o := .mv (.i 0), d := some 4 }] []) (.seq (.reg [{ o := .ld (.v 2) 3 true }, { o := .mv (.v 1) }, { o := .ca N.keys_move 0 [] [.l 1, .l 0, .i 2, .i 1] }, { o := .ex (.l 0) 0 }, { o := .ex (.l 1) 1 }, { o := .st (.v 3) (.l 1) 3 [] }, { o := .mv (.l 1), d := some 4 }] []) .ret)), res := [(3, some (3, true)), (4, none)] }
/-- /keys.Unlock -/
def keys_Unlock : Fn := { nargs := 2, vars := [0, 1, 2, 4, 5], body := (.seq (.reg [{ o := .bx (.v 0) 3, d := some 2 }, { o := .al [.nil, .nil, .t (.bool false)] [], d := some 3 }, { o := .mv (.i 0), d := some 4 }] []) (.seq (.reg [{ o := .ld (.v 2) 3 true }, { o := .mv (.v 1) }, { o := .ca N.keys_move 0 [] [.l 1, .l 0, .i 1, .i 0] }, { o := .ex (.l 0) 0 }, { o := .ex (.l 1) 1 }, { o := .st (.v 3) (.l 1) 3 [] }, { o := .mv (.l 1), d := some 4 }] []) .ret)), res := [(3, some (3, true)), (4, none)] }
/-- /keys.Draw -/
def keys_Draw : Fn := { nargs := 1, vars := [0, 1, 2, 3], body := (.seq (.reg [{ o := .bx (.v 0) 3, d := some 1 }, { o := .al [.nil, .nil, .t (.bool false)] [], d := some 2 }, { o := .mv (.i 0), d := some 3 }] []) (.seq (.reg [{ o := .ld (.v 1) 3 true }, { o := .ca N.keys_turn 0 [] [.l 0, .b true] }, { o := .ex (.l 0) 0 }, { o := .ex (.l 1) 1 }, { o := .st (.v 2) (.l 1) 3 [] }, { o := .mv (.l 1), d := some 3 }] []) .ret)), res := [(2, some (3, true)), (3, none)] }
/-- /keys.Return -/
def keys_Return : Fn := { nargs := 1, vars := [0, 1, 2, 3], body := (.seq (.reg [{ o := .bx (.v 0) 3, d := some 1 }, { o := .al [.nil, .nil, .t (.bool false)] [], d := some 2 }, { o := .mv (.i 0), d := some 3 }] []) (.seq (.reg [{ o := .ld (.v 1) 3 true }, { o := .ca N.keys_turn 0 [] [.l 0, .b false] }, { o := .ex (.l 0) 0 }, { o := .ex (.l 1) 1 }, { o := .st (.v 2) (.l 1) 3 [] }, { o := .mv (.l 1), d := some 3 }] []) .ret)), res := [(2, some (3, true)), (3, none)] }
def keys_Locked_l1b : C := (.its  [{ o := .bin .lss (.v 8) (.v 7) }] [] 0 .skip (.exit 0) (.seq (.blk 1 (.seq (.reg [{ o := .mv (.v 8) }, { o := .ia (.v 6) (.v 8) 1 }, { o := .ld (.l 0) 1 false }, { o := .mv (.l 2), d := some 4 }, { o := .mv (.l 1), d := some 5 }] []) (.ite [{ o := .mv (.v 4) }, { o := .fa (.v 1) 1 }, { o := .ld (.l 0) 1 false }, { o := .ln (.l 0) }, { o := .bin .lss (.l 3) (.l 0) }, { o := .mv (.l 0) }, { o := .fa (.v 1) 1, g := some (0, true) }, { o := .ld (.l 0) 1 false, g := some (1, true) }, { o := .mv (.v 4), g := some (2, true) }, { o := .ia (.l 1) (.l 0) 1, g := some (3, true) }, { o := .ld (.l 0) 1 false, g := some (4, true) }, { o := .bin .neq (.l 0) (.i 0), g := some (5, true) }, { o := .pk (.l 6) (.l 0) (.b false) }] [] 0 (.reg [{ o := .mv (.v 3) }, { o := .mv (.v 5) }, { o := .bs [.l 0] 1 }, { o := .app (.l 2) (.l 0) true 1 }, { o := .mv (.l 0), d := some 3 }] []) .skip))) (.reg [{ o := .bin .add (.v 8) (.i 1) }, { o := .mv (.l 0), d := some 8 }] [])))
def keys_Locked_l1 : C := .loop true [0, 2, 4, 5] K.keys_Locked_l1b
/-- /keys.Locked -/
def keys_Locked : Fn := { nargs := 1, vars := [0, 1, 2, 3, 4, 5, 7, 8, 9], body := (.seq (.reg [{ o := .bx (.v 0) 3, d := some 1 }, { o := .mv (.c (.nil)), d := some 2 }] []) (.seq (.reg [{ o := .nw 1, d := some 3 }] []) (.seq (.seq (.reg [{ o := .fa (.v 1) 0 }, { o := .ld (.l 0) 1 false, d := some 6 }, { o := .ln (.l 0), d := some 7 }, { o := .mv (.i 0), d := some 8 }] []) (.blk 0 K.keys_Locked_l1)) (.seq (.reg [{ o := .mv (.v 3) }, { o := .ca N.slices_Sort_int_int 0 [0] [.l 0] }] []) (.seq (.reg [{ o := .mv (.v 3) }, { o := .mv (.l 0), d := some 2 }] []) .ret))))), res := [(2, none)] }
/-- /ref33.Same -/
def ref33_Same : Fn := { nargs := 2, vars := [0, 1, 2, 3, 4], body := (.seq (.reg [{ o := .bx (.v 0) 3, d := some 2 }, { o := .bx (.v 1) 3, d := some 3 }, { o := .mv (.b false), d := some 4 }] []) (.seq (.reg [{ o := .fa (.v 2) 0 }, { o := .ld (.l 0) 1 false }, { o := .fa (.v 3) 0 }, { o := .ld (.l 0) 1 false }, { o := .ca N.ref23_SameInts 0 [] [.l 2, .l 0] }, { o := .mv (.l 0) }, { o := .fa (.v 2) 1, g := some (0, true) }, { o := .ld (.l 0) 1 false, g := some (1, true) }, { o := .fa (.v 3) 1, g := some (2, true) }, { o := .ld (.l 0) 1 false, g := some (3, true) }, { o := .ca N.ref23_SameInts 0 [] [.l 2, .l 0], g := some (4, true) }, { o := .pk (.l 5) (.l 0) (.b false) }, { o := .mv (.l 0) }, { o := .fa (.v 2) 2, g := some (0, true) }, { o := .ld (.l 0) 1 false, g := some (1, true) }, { o := .fa (.v 3) 2, g := some (2, true) }, { o := .ld (.l 0) 1 false, g := some (3, true) }, { o := .eqk (.bool) false (.l 2) (.l 0), g := some (4, true) }, { o := .pk (.l 5) (.l 0) (.b false) }, { o := .mv (.l 0), d := some 4 }] []) .ret)), res := [(4, none)] }
def ref33_Locked_l2b : C := (.seq (.ite [{ o := .mv (.v 5) }, { o := .bin .gtr (.l 0) (.i 0) }, { o := .mv (.l 0) }, { o := .mv (.v 3), g := some (0, true) }, { o := .mv (.v 5), g := some (1, true) }, { o := .bin .sub (.l 0) (.i 1), g := some (2, true) }, { o := .ia (.l 2) (.l 0) 1, g := some (3, true) }, { o := .ld (.l 0) 1 false, g := some (4, true) }, { o := .fa (.v 1) 0, g := some (5, true) }, { o := .ld (.l 0) 1 false, g := some (6, true) }, { o := .mv (.v 4), g := some (7, true) }, { o := .ia (.l 1) (.l 0) 1, g := some (8, true) }, { o := .ld (.l 0) 1 false, g := some (9, true) }, { o := .bin .gtr (.l 5) (.l 0), g := some (10, true) }, { o := .pk (.l 11) (.l 0) (.b false) }] [] 0 .skip (.exit 2)) (.blk 3 (.reg [{ o := .mv (.v 5) }, { o := .bin .sub (.l 0) (.i 1) }, { o := .mv (.l 0), d := some 5 }] [])))
def ref33_Locked_l2 : C := .loop false [0, 2] K.ref33_Locked_l2b
def ref33_Locked_l1b : C := (.seq (.ite [{ o := .mv (.v 4) }, { o := .fa (.v 1) 0 }, { o := .ld (.l 0) 1 false }, { o := .ln (.l 0) }, { o := .bin .lss (.l 3) (.l 0) }, { o := .mv (.l 0) }, { o := .mv (.v 4), g := some (0, true) }, { o := .fa (.v 1) 1, g := some (1, true) }, { o := .ld (.l 0) 1 false, g := some (2, true) }, { o := .ln (.l 0), g := some (3, true) }, { o := .bin .lss (.l 3) (.l 0), g := some (4, true) }, { o := .pk (.l 5) (.l 0) (.b false) }] [] 0 .skip (.exit 0)) (.seq (.blk 1 (.seq (.ite [{ o := .fa (.v 1) 1 }, { o := .ld (.l 0) 1 false }, { o := .mv (.v 4) }, { o := .ia (.l 1) (.l 0) 1 }, { o := .ld (.l 0) 1 false }, { o := .bin .eql (.l 0) (.i 0) }] [] 0 (.exit 1) .skip) (.seq (.reg [{ o := .mv (.v 3) }, { o := .ln (.l 0) }, { o := .mv (.l 0), d := some 5 }] []) (.seq (.blk 2 K.ref33_Locked_l2) (.reg [{ o := .mv (.v 3) }, { o := .mv (.v 5) }, { o := .sc (.l 1) none (some (.l 0)) 1 }, { o := .app (.c (.nil)) (.l 0) true 1 }, { o := .fa (.v 1) 0 }, { o := .ld (.l 0) 1 false }, { o := .mv (.v 4) }, { o := .ia (.l 1) (.l 0) 1 }, { o := .ld (.l 0) 1 false }, { o := .bs [.l 0] 1 }, { o := .app (.l 6) (.l 0) true 1 }, { o := .mv (.v 3) }, { o := .mv (.v 5) }, { o := .sc (.l 1) (some (.l 0)) none 1 }, { o := .app (.l 3) (.l 0) true 1 }, { o := .mv (.l 0), d := some 3 }] [(5, 0), (7, 0), (8, 0), (9, 0), (13, 0), (13, 4)]))))) (.reg [{ o := .mv (.v 4) }, { o := .bin .add (.l 0) (.i 1) }, { o := .mv (.l 0), d := some 4 }] [])))
def ref33_Locked_l1 : C := .loop false [0, 2, 5] K.ref33_Locked_l1b
/-- /ref33.Locked -/
def ref33_Locked : Fn := { nargs := 1, vars := [0, 1, 2, 3, 4, 5], body := (.seq (.reg [{ o := .bx (.v 0) 3, d := some 1 }, { o := .mv (.c (.nil)), d := some 2 }] []) (.seq (.reg [{ o := .mv (.c (.nil)), d := some 3 }] []) (.seq (.seq (.reg [{ o := .mv (.i 0), d := some 4 }] []) (.blk 0 K.ref33_Locked_l1)) (.seq (.reg [{ o := .mv (.v 3) }, { o := .mv (.l 0), d := some 2 }] []) .ret)))), res := [(2, none)] }
/-- /ref33.Lock -/
def ref33_Lock : Fn := { nargs := 2, vars := [0, 1, 2, 4, 5], body := (.seq (.reg [{ o := .bx (.v 0) 3, d := some 2 }, { o := .al [.nil, .nil, .t (.bool false)] [], d := some 3 }, { o := .mv (.i 0), d := some 4 }] []) (.seq (.reg [{ o := .ld (.v 2) 3 true }, { o := .mv (.v 1) }, { o := .ca N.ref33_move 0 [] [.l 1, .l 0, .i 0, .i 1, .b true] }, { o := .ex (.l 0) 0 }, { o := .ex (.l 1) 1 }, { o := .st (.v 3) (.l 1) 3 [] }, { o := .mv (.l 1), d := some 4 }] []) .ret)), res := [(3, some (3, true)), (4, none)] }
/-- /ref33.Insert -/
def ref33_Insert : Fn := { nargs := 2, vars := [0, 1, 2, 4, 5], body := (.seq (.reg [{ o := .bx (.v 0) 3, d := some 2 }, { o := .al [.nil, .nil, .t (.bool false)] [], d := some 3 }, { o := .mv (.i 0), d := some 4 }] []) (.seq (.reg [{ o := .ld (.v 2) 3 true }, { o := .mv (.v 1) }, { o := .ca N.ref33_move 0 [] [.l 1, .l 0, .i 1, .i 2, .b true] }, { o := .ex (.l 0) 0 }, { o := .ex (.l 1) 1 }, { o := .st (.v 3) (.l 1) 3 [] }, { o := .mv (.l 1), d := some 4 }] []) .ret)), res := [(3, some (3, true)), (4, none)] }
/-- /ref33.Remove -/
def ref33_Remove : Fn := { nargs := 2, vars := [0, 1, 2, 4, 5], body := (.seq (.reg [{ o := .bx (.v 0) 3, d := some 2 }, { o := .al [.nil, .nil, .t (.bool false)] [], d := some 3 }, { o := .mv (.i 0), d := some 4 }] []) (.seq (.reg [{ o := .ld (.v 2) 3 true }, { o := .mv (.v 1) }, { o := .fa (.v 2) 2 }, { o := .ld (.l 0) 1 false }, { o := .un .not (.l 0) }, { o := .ca N.ref33_move 0 [] [.l 4, .l 3, .i 2, .i 1, .l 0] }, { o := .ex (.l 0) 0 }, { o := .ex (.l 1) 1 }, { o := .st (.v 3) (.l 1) 3 [] }, { o := .mv (.l 1), d := some 4 }] []) .ret)), res := [(3, some (3, true)), (4, none)] }
/-- /ref33.Unlock -/
def ref33_Unlock : Fn := { nargs := 2, vars := [0, 1, 2, 4, 5], body := (.seq (.reg [{ o := .bx (.v 0) 3, d := some 2 }, { o := .al [.nil, .nil, .t (.bool false)] [], d := some 3 }, { o := .mv (.i 0), d := some 4 }] []) (.seq (.reg [{ o := .ld (.v 2) 3 true }, { o := .mv (.v 1) }, { o := .ca N.ref33_move 0 [] [.l 1, .l 0, .i 1, .i 0, .b true] }, { o := .ex (.l 0) 0 }, { o := .ex (.l 1) 1 }, { o := .st (.v 3) (.l 1) 3 [] }, { o := .mv (.l 1), d := some 4 }] []) .ret)), res := [(3, some (3, true)), (4, none)] }
def ref33_Draw_l1b : C := (.seq (.ite [{ o := .mv (.v 4) }, { o := .fa (.v 1) 1 }, { o := .ld (.l 0) 1 false }, { o := .ln (.l 0) }, { o := .bin .lss (.l 3) (.l 0) }] [] 0 .skip (.exit 0)) (.seq (.blk 1 (.ite [{ o := .fa (.v 1) 1 }, { o := .ld (.l 0) 1 false }, { o := .mv (.v 4) }, { o := .ia (.l 1) (.l 0) 1 }, { o := .ld (.l 0) 1 false }, { o := .bin .neq (.l 0) (.i 2) }] [] 0 (.seq (.reg [{ o := .ld (.v 1) 3 true }, { o := .st (.v 2) (.l 0) 3 [] }, { o := .mv (.i 48), d := some 3 }] []) .ret) .skip)) (.reg [{ o := .mv (.v 4) }, { o := .bin .add (.l 0) (.i 1) }, { o := .mv (.l 0), d := some 4 }] [])))
def ref33_Draw_l1 : C := .loop true [0, 3] K.ref33_Draw_l1b
/-- /ref33.Draw -/
def ref33_Draw : Fn := { nargs := 1, vars := [0, 1, 2, 3, 4], body := (.seq (.reg [{ o := .bx (.v 0) 3, d := some 1 }, { o := .al [.nil, .nil, .t (.bool false)] [], d := some 2 }, { o := .mv (.i 0), d := some 3 }] []) (.seq (.reg [{ o := .ld (.v 1) 3 true }, { o := .ca N.ref33_Copy 0 [] [.l 0] }, { o := .st (.v 1) (.l 0) 3 [] }] []) (.seq (.ite [{ o := .ld (.v 1) 3 true }, { o := .ca N.ref33_Valid 0 [] [.l 0] }, { o := .un .not (.l 0) }] [] 0 (.seq (.reg [{ o := .ld (.v 1) 3 true }, { o := .st (.v 2) (.l 0) 3 [] }, { o := .mv (.i 6), d := some 3 }] []) .ret) .skip) (.seq (.seq (.reg [{ o := .mv (.i 0), d := some 4 }] []) (.blk 0 K.ref33_Draw_l1)) (.seq (.ite [{ o := .fa (.v 1) 2 }, { o := .ld (.l 0) 1 false }] [] 0 (.seq (.reg [{ o := .ld (.v 1) 3 true }, { o := .st (.v 2) (.l 0) 3 [] }, { o := .mv (.i 48), d := some 3 }] []) .ret) .skip) (.seq (.reg [{ o := .fa (.v 1) 2 }, { o := .st (.l 0) (.b true) 1 [] }] []) (.seq (.reg [{ o := .ld (.v 1) 3 true }, { o := .st (.v 2) (.l 0) 3 [] }, { o := .mv (.i 0), d := some 3 }] []) .ret))))))), res := [(2, some (3, true)), (3, none)] }
/-- /ref33.Return -/
def ref33_Return : Fn := { nargs := 1, vars := [0, 1, 2, 3], body := (.seq (.reg [{ o := .bx (.v 0) 3, d := some 1 }, { o := .al [.nil, .nil, .t (.bool false)] [], d := some 2 }, { o := .mv (.i 0), d := some 3 }] []) (.seq (.reg [{ o := .ld (.v 1) 3 true }, { o := .ca N.ref33_Copy 0 [] [.l 0] }, { o := .st (.v 1) (.l 0) 3 [] }] []) (.seq (.ite [{ o := .ld (.v 1) 3 true }, { o := .ca N.ref33_Valid 0 [] [.l 0] }, { o := .un .not (.l 0) }] [] 0 (.seq (.reg [{ o := .ld (.v 1) 3 true }, { o := .st (.v 2) (.l 0) 3 [] }, { o := .mv (.i 6), d := some 3 }] []) .ret) .skip) (.seq (.ite [{ o := .fa (.v 1) 2 }, { o := .ld (.l 0) 1 false }, { o := .un .not (.l 0) }] [] 0 (.seq (.reg [{ o := .ld (.v 1) 3 true }, { o := .st (.v 2) (.l 0) 3 [] }, { o := .mv (.i 48), d := some 3 }] []) .ret) .skip) (.seq (.reg [{ o := .fa (.v 1) 2 }, { o := .st (.l 0) (.b false) 1 [] }] []) (.seq (.reg [{ o := .ld (.v 1) 3 true }, { o := .st (.v 2) (.l 0) 3 [] }, { o := .mv (.i 0), d := some 3 }] []) .ret)))))), res := [(2, some (3, true)), (3, none)] }
/-- /keys.move -/
def keys_move : Fn := { nargs := 4, vars := [0, 1, 2, 3, 4, 8, 9, 10], body := (.seq (.reg [{ o := .bx (.v 0) 3, d := some 4 }, { o := .al [.nil, .nil, .t (.bool false)] [], d := some 5 }, { o := .mv (.i 0), d := some 6 }] []) (.seq (.blk 0 (.ite [{ o := .ld (.v 4) 3 true }, { o := .ca N.keys_Valid 0 [] [.l 0] }, { o := .un .not (.l 0) }, { o := .mv (.l 0) }] [] 0 (.seq (.reg [{ o := .ld (.v 4) 3 true }, { o := .st (.v 5) (.l 0) 3 [] }, { o := .mv (.i 6), d := some 6 }] []) .ret) (.ite [{ o := .mv (.v 1) }, { o := .fa (.v 4) 1 }, { o := .ld (.l 0) 1 false }, { o := .ln (.l 0) }, { o := .bin .sub (.l 0) (.i 1) }, { o := .ca N.lists_In 0 [] [.l 4, .i 0, .l 0] }, { o := .un .not (.l 0) }, { o := .mv (.l 0) }] [] 0 (.seq (.reg [{ o := .ld (.v 4) 3 true }, { o := .st (.v 5) (.l 0) 3 [] }, { o := .mv (.i 47), d := some 6 }] []) .ret) (.ite [{ o := .fa (.v 4) 1 }, { o := .ld (.l 0) 1 false }, { o := .mv (.v 1) }, { o := .ia (.l 1) (.l 0) 1 }, { o := .ld (.l 0) 1 false }, { o := .mv (.v 2) }, { o := .bin .neq (.l 1) (.l 0) }, { o := .mv (.l 0) }, { o := .fa (.v 4) 2, g := some (0, false) }, { o := .ld (.l 0) 1 false, g := some (1, false) }, { o := .pk (.l 2) (.b true) (.l 0) }, { o := .mv (.l 0) }] [] 0 (.seq (.reg [{ o := .ld (.v 4) 3 true }, { o := .st (.v 5) (.l 0) 3 [] }, { o := .mv (.i 48), d := some 6 }] []) .ret) .skip)))) (.seq (.reg [{ o := .ld (.v 4) 3 true }, { o := .ca N.keys_copied_v1 1 [] [.l 0] }, { o := .al [.nil, .nil, .t (.bool false)] [], d := some 7 }, { o := .st (.l 0) (.l 1) 3 [] }] []) (.seq (.reg [{ o := .fa (.v 7) 1 }, { o := .ld (.l 0) 1 false }, { o := .mv (.v 1) }, { o := .mv (.v 3) }, { o := .ia (.l 2) (.l 1) 1 }, { o := .st (.l 0) (.l 1) 1 [] }] []) (.seq (.reg [{ o := .ld (.v 7) 3 true }, { o := .st (.v 5) (.l 0) 3 [] }, { o := .mv (.i 0), d := some 6 }] []) .ret))))), res := [(5, some (3, true)), (6, none)] }
/-- /keys.turn -/
def keys_turn : Fn := { nargs := 2, vars := [0, 1, 2, 4, 5, 6], body := (.seq (.reg [{ o := .bx (.v 0) 3, d := some 2 }, { o := .al [.nil, .nil, .t (.bool false)] [], d := some 3 }, { o := .mv (.i 0), d := some 4 }] []) (.seq (.blk 0 (.ite [{ o := .ld (.v 2) 3 true }, { o := .ca N.keys_Valid 0 [] [.l 0] }, { o := .un .not (.l 0) }, { o := .mv (.l 0) }] [] 0 (.seq (.reg [{ o := .ld (.v 2) 3 true }, { o := .st (.v 3) (.l 0) 3 [] }, { o := .mv (.i 6), d := some 4 }] []) .ret) (.ite [{ o := .fa (.v 2) 2 }, { o := .ld (.l 0) 1 false }, { o := .mv (.v 1) }, { o := .eqk (.bool) false (.l 1) (.l 0) }, { o := .mv (.l 0) }, { o := .mv (.v 1), g := some (0, false) }, { o := .mv (.l 0), g := some (1, false) }, { o := .ld (.v 2) 3 true, g := some (0, true) }, { o := .ca N.keys_boxed 0 [] [.l 0], g := some (1, true) }, { o := .un .not (.l 0), g := some (2, true) }, { o := .pk (.l 3) (.l 0) (.b false), g := some (5, false) }, { o := .pk (.l 6) (.b true) (.l 0) }, { o := .mv (.l 0) }] [] 0 (.seq (.reg [{ o := .ld (.v 2) 3 true }, { o := .st (.v 3) (.l 0) 3 [] }, { o := .mv (.i 48), d := some 4 }] []) .ret) .skip))) (.seq (.reg [{ o := .ld (.v 2) 3 true }, { o := .ca N.keys_copied 0 [] [.l 0] }, { o := .al [.nil, .nil, .t (.bool false)] [], d := some 5 }, { o := .st (.l 0) (.l 1) 3 [] }] []) (.seq (.reg [{ o := .mv (.v 1) }, { o := .fa (.v 5) 2 }, { o := .st (.l 0) (.l 1) 1 [] }] []) (.seq (.reg [{ o := .ld (.v 5) 3 true }, { o := .st (.v 3) (.l 0) 3 [] }, { o := .mv (.i 0), d := some 4 }] []) .ret))))), res := [(3, some (3, true)), (4, none)] }
/-- slices.Sort[[]int,int] -/
def slices_Sort_int_int : Fn := { nargs := 1, vars := [], body := .fail, res := [], prim := [1] }
/-- /ref33.move -/
def ref33_move : Fn := { nargs := 5, vars := [0, 1, 2, 3, 4, 5, 10, 11], body := (.seq (.reg [{ o := .bx (.v 0) 3, d := some 5 }, { o := .al [.nil, .nil, .t (.bool false)] [], d := some 6 }, { o := .mv (.i 0), d := some 7 }] []) (.seq (.reg [{ o := .ld (.v 5) 3 true }, { o := .ca N.ref33_Copy 1 [] [.l 0] }, { o := .st (.v 5) (.l 0) 3 [] }] []) (.seq (.blk 0 (.ite [{ o := .ld (.v 5) 3 true }, { o := .ca N.ref33_Valid 0 [] [.l 0] }, { o := .un .not (.l 0) }, { o := .mv (.l 0) }] [] 0 (.seq (.reg [{ o := .ld (.v 5) 3 true }, { o := .st (.v 6) (.l 0) 3 [] }, { o := .mv (.i 6), d := some 7 }] []) .ret) (.ite [{ o := .mv (.v 1) }, { o := .bin .lss (.l 0) (.i 0) }, { o := .mv (.l 0) }, { o := .mv (.v 1), g := some (0, false) }, { o := .fa (.v 5) 1, g := some (1, false) }, { o := .ld (.l 0) 1 false, g := some (2, false) }, { o := .ln (.l 0), g := some (3, false) }, { o := .bin .geq (.l 3) (.l 0), g := some (4, false) }, { o := .pk (.l 5) (.b true) (.l 0) }, { o := .mv (.l 0) }] [] 0 (.seq (.reg [{ o := .ld (.v 5) 3 true }, { o := .st (.v 6) (.l 0) 3 [] }, { o := .mv (.i 47), d := some 7 }] []) .ret) (.ite [{ o := .fa (.v 5) 1 }, { o := .ld (.l 0) 1 false }, { o := .mv (.v 1) }, { o := .ia (.l 1) (.l 0) 1 }, { o := .ld (.l 0) 1 false }, { o := .mv (.v 2) }, { o := .bin .neq (.l 1) (.l 0) }, { o := .mv (.l 0) }, { o := .mv (.v 4), g := some (0, false) }, { o := .un .not (.l 0), g := some (1, false) }, { o := .pk (.l 2) (.b true) (.l 0) }, { o := .mv (.l 0) }] [] 0 (.seq (.reg [{ o := .ld (.v 5) 3 true }, { o := .st (.v 6) (.l 0) 3 [] }, { o := .mv (.i 48), d := some 7 }] []) .ret) .skip)))) (.seq (.reg [{ o := .fa (.v 5) 1 }, { o := .ld (.l 0) 1 false }, { o := .mv (.v 1) }, { o := .mv (.v 3) }, { o := .ia (.l 2) (.l 1) 1 }, { o := .st (.l 0) (.l 1) 1 [] }] []) (.seq (.reg [{ o := .ld (.v 5) 3 true }, { o := .st (.v 6) (.l 0) 3 [] }, { o := .mv (.i 0), d := some 7 }] []) .ret))))), res := [(6, some (3, true)), (7, none)] }
/-- /keys.copied -/
def keys_copied : Fn := { nargs := 1, vars := [0, 1, 2], body := (.seq (.reg [{ o := .bx (.v 0) 3, d := some 1 }, { o := .al [.nil, .nil, .t (.bool false)] [], d := some 2 }] []) (.seq (.reg [{ o := .fa (.v 1) 0 }, { o := .ld (.l 0) 1 false }, { o := .ca N.slices_Clone_int_int 0 [] [.l 0] }, { o := .fa (.v 1) 1 }, { o := .ld (.l 0) 1 false }, { o := .ca N.slices_Clone_int_int 0 [] [.l 0] }, { o := .fa (.v 1) 2 }, { o := .ld (.l 0) 1 false }, { o := .bd [.nil, .nil, .t (.bool false)] [(0, 1, .l 5), (1, 1, .l 2), (2, 1, .l 0)] }, { o := .st (.v 2) (.l 0) 3 [] }] [(4, 0), (7, 0), (7, 3)]) .ret)), res := [(2, some (3, true))] }
/-- /keys.copied -/
def keys_copied_v1 : Fn := { nargs := 1, vars := [0, 1, 2], body := (.seq (.reg [{ o := .bx (.v 0) 3, d := some 1 }, { o := .al [.nil, .nil, .t (.bool false)] [], d := some 2 }] []) (.seq (.reg [{ o := .fa (.v 1) 0 }, { o := .ld (.l 0) 1 false }, { o := .ca N.slices_Clone_int_int 1 [] [.l 0] }, { o := .fa (.v 1) 1 }, { o := .ld (.l 0) 1 false }, { o := .ca N.slices_Clone_int_int 1 [] [.l 0] }, { o := .fa (.v 1) 2 }, { o := .ld (.l 0) 1 false }, { o := .bd [.nil, .nil, .t (.bool false)] [(0, 1, .l 5), (1, 1, .l 2), (2, 1, .l 0)] }, { o := .st (.v 2) (.l 0) 3 [] }] [(4, 0), (7, 0), (7, 3)]) .ret)), res := [(2, some (3, true))] }
end Go.Ev.K
namespace Go.Ev
class Has10 [Lib] : Prop where
  t_law33_KeysMade : Lib.fs N.law33_KeysMade = some K.law33_KeysMade
  t_law33_KeysSafe : Lib.fs N.law33_KeysSafe = some K.law33_KeysSafe
  t_law33_KeysBack : Lib.fs N.law33_KeysBack = some K.law33_KeysBack
  t_law33_awake : Lib.fs N.law33_awake = some K.law33_awake
  t_ref33_Start : Lib.fs N.ref33_Start = some K.ref33_Start
  t_law33_agree : Lib.fs N.law33_agree = some K.law33_agree
  t_law33_step : Lib.fs N.law33_step = some K.law33_step
  t_ref33_Copy : Lib.fs N.ref33_Copy = some K.ref33_Copy
  t_keys_Start : Lib.fs N.keys_Start = some K.keys_Start
  t_keys_Lock : Lib.fs N.keys_Lock = some K.keys_Lock
  t_keys_Insert : Lib.fs N.keys_Insert = some K.keys_Insert
  t_keys_Remove : Lib.fs N.keys_Remove = some K.keys_Remove
  t_keys_Unlock : Lib.fs N.keys_Unlock = some K.keys_Unlock
  t_keys_Draw : Lib.fs N.keys_Draw = some K.keys_Draw
  t_keys_Return : Lib.fs N.keys_Return = some K.keys_Return
  t_keys_Locked : Lib.fs N.keys_Locked = some K.keys_Locked
  t_ref33_Same : Lib.fs N.ref33_Same = some K.ref33_Same
  t_ref33_Locked : Lib.fs N.ref33_Locked = some K.ref33_Locked
  t_ref33_Lock : Lib.fs N.ref33_Lock = some K.ref33_Lock
  t_ref33_Insert : Lib.fs N.ref33_Insert = some K.ref33_Insert
  t_ref33_Remove : Lib.fs N.ref33_Remove = some K.ref33_Remove
  t_ref33_Unlock : Lib.fs N.ref33_Unlock = some K.ref33_Unlock
  t_ref33_Draw : Lib.fs N.ref33_Draw = some K.ref33_Draw
  t_ref33_Return : Lib.fs N.ref33_Return = some K.ref33_Return
  t_keys_move : Lib.fs N.keys_move = some K.keys_move
  t_keys_turn : Lib.fs N.keys_turn = some K.keys_turn
  t_slices_Sort_int_int : Lib.fs N.slices_Sort_int_int = some K.slices_Sort_int_int
  t_ref33_move : Lib.fs N.ref33_move = some K.ref33_move
  t_keys_copied : Lib.fs N.keys_copied = some K.keys_copied
  t_keys_copied_v1 : Lib.fs N.keys_copied_v1 = some K.keys_copied_v1
namespace K
variable [Lib] [Has10]
theorem t_law33_KeysMade : Lib.fs N.law33_KeysMade = some K.law33_KeysMade := Has10.t_law33_KeysMade
theorem t_law33_KeysSafe : Lib.fs N.law33_KeysSafe = some K.law33_KeysSafe := Has10.t_law33_KeysSafe
theorem t_law33_KeysBack : Lib.fs N.law33_KeysBack = some K.law33_KeysBack := Has10.t_law33_KeysBack
theorem t_law33_awake : Lib.fs N.law33_awake = some K.law33_awake := Has10.t_law33_awake
theorem t_ref33_Start : Lib.fs N.ref33_Start = some K.ref33_Start := Has10.t_ref33_Start
theorem t_law33_agree : Lib.fs N.law33_agree = some K.law33_agree := Has10.t_law33_agree
theorem t_law33_step : Lib.fs N.law33_step = some K.law33_step := Has10.t_law33_step
theorem t_ref33_Copy : Lib.fs N.ref33_Copy = some K.ref33_Copy := Has10.t_ref33_Copy
theorem t_keys_Start : Lib.fs N.keys_Start = some K.keys_Start := Has10.t_keys_Start
theorem t_keys_Lock : Lib.fs N.keys_Lock = some K.keys_Lock := Has10.t_keys_Lock
theorem t_keys_Insert : Lib.fs N.keys_Insert = some K.keys_Insert := Has10.t_keys_Insert
theorem t_keys_Remove : Lib.fs N.keys_Remove = some K.keys_Remove := Has10.t_keys_Remove
theorem t_keys_Unlock : Lib.fs N.keys_Unlock = some K.keys_Unlock := Has10.t_keys_Unlock
theorem t_keys_Draw : Lib.fs N.keys_Draw = some K.keys_Draw := Has10.t_keys_Draw
theorem t_keys_Return : Lib.fs N.keys_Return = some K.keys_Return := Has10.t_keys_Return
theorem t_keys_Locked : Lib.fs N.keys_Locked = some K.keys_Locked := Has10.t_keys_Locked
theorem t_ref33_Same : Lib.fs N.ref33_Same = some K.ref33_Same := Has10.t_ref33_Same
theorem t_ref33_Locked : Lib.fs N.ref33_Locked = some K.ref33_Locked := Has10.t_ref33_Locked
theorem t_ref33_Lock : Lib.fs N.ref33_Lock = some K.ref33_Lock := Has10.t_ref33_Lock
theorem t_ref33_Insert : Lib.fs N.ref33_Insert = some K.ref33_Insert := Has10.t_ref33_Insert
theorem t_ref33_Remove : Lib.fs N.ref33_Remove = some K.ref33_Remove := Has10.t_ref33_Remove
theorem t_ref33_Unlock : Lib.fs N.ref33_Unlock = some K.ref33_Unlock := Has10.t_ref33_Unlock
theorem t_ref33_Draw : Lib.fs N.ref33_Draw = some K.ref33_Draw := Has10.t_ref33_Draw
theorem t_ref33_Return : Lib.fs N.ref33_Return = some K.ref33_Return := Has10.t_ref33_Return
theorem t_keys_move : Lib.fs N.keys_move = some K.keys_move := Has10.t_keys_move
theorem t_keys_turn : Lib.fs N.keys_turn = some K.keys_turn := Has10.t_keys_turn
theorem t_slices_Sort_int_int : Lib.fs N.slices_Sort_int_int = some K.slices_Sort_int_int := Has10.t_slices_Sort_int_int
theorem t_ref33_move : Lib.fs N.ref33_move = some K.ref33_move := Has10.t_ref33_move
theorem t_keys_copied : Lib.fs N.keys_copied = some K.keys_copied := Has10.t_keys_copied
theorem t_keys_copied_v1 : Lib.fs N.keys_copied_v1 = some K.keys_copied_v1 := Has10.t_keys_copied_v1
end K
end Go.Ev

/- Keys of barriers: moves, by the program and by the reference. -/
namespace Go.Ev
open Go
variable [Lib] [Has1] [Has2] [Has3] [Has4] [Has5] [Has6] [Has7] [Has8] [Has9] [Has10]

def moveF (k : Keys) (i frm to : Int) (free : Bool) : Keys × Int :=
  if keysF k = false then (k, 6) else if i < 0 ∨ (k.keys.length : Int) ≤ i then (k, 47) else if nth k.keys i.toNat ≠ frm ∨ free = false then (k, 48) else (⟨k.roads, k.keys.set i.toNat to, k.out⟩, 0)
def turnF (k : Keys) (out : Bool) : Keys × Int :=
  if keysF k = false then (k, 6) else if k.out = out ∨ (out = true ∧ boxedF k.keys = false) then (k, 48) else (⟨k.roads, k.keys, out⟩, 0)

theorem copied0_ok (k : Keys) (hl : k.keys.length ≤ 1000000) (hr : k.roads.length ≤ 1000000) : CALL 0 N.keys_copied [.t k.e] [] = some (.t k.e, []) := by
  refine CALL_of K.t_keys_copied rfl ?_
  have a := clone0_ok k.roads hr
  have b := clone0_ok k.keys hl
  obtain ⟨roads, keys, out⟩ := k
  simp only at *
  simp (disch := omega) only [go_sem, K.keys_copied, ↓reduceIte, a, b, Nat.reduceAdd, Nat.reduceSub]
theorem copied1_ok (k : Keys) (hl : k.keys.length ≤ 1000000) (hr : k.roads.length ≤ 1000000) : CALL 1 N.keys_copied_v1 [.t k.e] [] = some (.agg [.ref 0 0 k.roads.length, .ref 1 0 k.keys.length, .t (.bool k.out)], [arr1 k.roads, arr1 k.keys]) := by
  refine CALL_of K.t_keys_copied_v1 rfl ?_
  have a := clone1_ok k.roads hr
  have b := clone1_ok k.keys hl
  obtain ⟨roads, keys, out⟩ := k
  simp only [arr1] at *
  simp (disch := omega) only [go_sem, K.keys_copied_v1, ↓reduceIte, a, b, Nat.reduceAdd, Nat.reduceSub]
theorem kmove_ok (k : Keys) (hl : k.keys.length ≤ 1000000) (hr : k.roads.length ≤ 1000000) (i frm to : Int) :
    CALL 0 N.keys_move [.t k.e, I i, I frm, I to] [] = some (.tup [.t (moveF k i frm to (!k.out)).1.e, I (moveF k i frm to (!k.out)).2], []) := by
  refine CALL_of K.t_keys_move rfl ?_
  have v := kvalid_ok k (by omega) (by omega)
  have c := copied1_ok k hl hr
  have n := in_ok i 0 ((k.keys.length : Int) - 1)
  unfold moveF
  cases hv : keysF k with
  | false =>
    rw [hv] at v
    obtain ⟨roads, keys, out⟩ := k
    simp only [arr1] at *
    simp (disch := omega) only [go_sem, K.keys_move, ↓reduceIte, v, Nat.reduceAdd, Nat.reduceSub]
  | true =>
    rw [hv] at v
    by_cases c1 : i < 0 ∨ (k.keys.length : Int) ≤ i
    · rw [decide_eq_false (by omega)] at n
      obtain ⟨roads, keys, out⟩ := k
      simp only [arr1] at *
      simp (disch := omega) only [go_sem, K.keys_move, ↓reduceIte, v, n, c1, Bool.true_eq_false, Nat.reduceAdd, Nat.reduceSub]
    · rw [decide_eq_true (by omega)] at n
      rw [if_neg (by simp), if_neg c1]
      obtain ⟨roads, keys, out⟩ := k
      simp only [arr1] at *
      by_cases c2 : nth keys i.toNat = frm
      · cases out with
        | true => simp (disch := omega) only [go_sem, K.keys_move, ↓reduceIte, v, n, c2, Bool.not_true, ne_eq, not_true_eq_false, or_true, Nat.reduceAdd, Nat.reduceSub]
        | false =>
          have ls : (keys.set i.toNat to).length = keys.length := List.length_set ..
          have c2' : nth keys i.toNat = frm := c2
          simp (disch := omega) only [go_sem, K.keys_move, ↓reduceIte, v, n, c2, c, Bool.not_false, ne_eq, not_true_eq_false, or_false, Bool.true_eq_false, ls, Nat.reduceAdd, Nat.reduceSub]
      · simp (disch := omega) only [go_sem, K.keys_move, ↓reduceIte, v, n, c2, ne_eq, not_false_eq_true, true_or, Nat.reduceAdd, Nat.reduceSub]
theorem kturn_ok (k : Keys) (hl : k.keys.length ≤ 1000000) (hr : k.roads.length ≤ 1000000) (b : Bool) :
    CALL 0 N.keys_turn [.t k.e, B b] [] = some (.tup [.t (turnF k b).1.e, I (turnF k b).2], []) := by
  refine CALL_of K.t_keys_turn rfl ?_
  have v := kvalid_ok k (by omega) (by omega)
  have c := copied0_ok k hl hr
  have x := kboxed_ok k (by omega)
  unfold turnF
  generalize keysF k = hv at *
  generalize boxedF k.keys = bx at *
  obtain ⟨roads, keys, out⟩ := k
  simp only at *
  cases hv <;> cases b <;> cases bx <;> cases out <;> simp (disch := omega) only [go_sem, K.keys_turn, ↓reduceIte, v, x, c, Bool.true_eq_false, Bool.false_eq_true, false_and, and_false, or_false, true_and, or_true, and_self, or_self, Nat.reduceAdd, Nat.reduceSub]
theorem rcopy0_ok (k : Keys) (hl : k.keys.length ≤ 1000000) (hr : k.roads.length ≤ 1000000) : CALL 0 N.ref33_Copy [.t k.e] [] = some (.t k.e, []) := by
  refine CALL_of K.t_ref33_Copy rfl ?_
  obtain ⟨roads, keys, out⟩ := k
  simp only at *
  simp (disch := omega) only [go_sem, K.ref33_Copy, ↓reduceIte, Nat.reduceAdd, Nat.reduceSub]
theorem rcopy1_ok (k : Keys) (hl : k.keys.length ≤ 1000000) (hr : k.roads.length ≤ 1000000) : CALL 1 N.ref33_Copy [.t k.e] [] = some (.agg [.ref 0 0 k.roads.length, .ref 1 0 k.keys.length, .t (.bool k.out)], [arr1 k.roads, arr1 k.keys]) := by
  refine CALL_of K.t_ref33_Copy rfl ?_
  obtain ⟨roads, keys, out⟩ := k
  simp only [arr1] at *
  simp (disch := omega) only [go_sem, K.ref33_Copy, ↓reduceIte, Nat.reduceAdd, Nat.reduceSub]
theorem rmove_ok (k : Keys) (hl : k.keys.length ≤ 1000000) (hr : k.roads.length ≤ 1000000) (i frm to : Int) (free : Bool) :
    CALL 0 N.ref33_move [.t k.e, I i, I frm, I to, B free] [] = some (.tup [.t (moveF k i frm to free).1.e, I (moveF k i frm to free).2], []) := by
  refine CALL_of K.t_ref33_move rfl ?_
  have v := rkeys_ok k (by omega) (by omega)
  have c := rcopy1_ok k hl hr
  unfold moveF
  cases hv : keysF k with
  | false =>
    rw [hv] at v
    obtain ⟨roads, keys, out⟩ := k
    simp only [arr1] at *
    simp (disch := omega) only [go_sem, K.ref33_move, ↓reduceIte, v, c, Nat.reduceAdd, Nat.reduceSub]
  | true =>
    rw [hv] at v
    by_cases c1 : i < 0
    · rw [if_neg (by simp), if_pos (.inl c1)]
      obtain ⟨roads, keys, out⟩ := k
      simp only [arr1] at *
      simp (disch := omega) only [go_sem, K.ref33_move, ↓reduceIte, v, c, c1, Nat.reduceAdd, Nat.reduceSub]
    · by_cases c0 : (k.keys.length : Int) ≤ i
      · rw [if_neg (by simp), if_pos (.inr c0)]
        obtain ⟨roads, keys, out⟩ := k
        simp only [arr1] at *
        simp (disch := omega) only [go_sem, K.ref33_move, ↓reduceIte, v, c, c1, c0, Nat.reduceAdd, Nat.reduceSub]
      · rw [if_neg (by simp), if_neg (by omega)]
        obtain ⟨roads, keys, out⟩ := k
        simp only [arr1] at *
        have ls : (keys.set i.toNat to).length = keys.length := List.length_set ..
        by_cases c2 : nth keys i.toNat = frm
        · cases free with
          | false => simp (disch := omega) only [go_sem, K.ref33_move, ↓reduceIte, v, c, c1, c2, ne_eq, not_true_eq_false, or_true, Nat.reduceAdd, Nat.reduceSub]
          | true => simp (disch := omega) only [go_sem, K.ref33_move, ↓reduceIte, v, c, c1, c2, ne_eq, not_true_eq_false, or_false, Bool.true_eq_false, ls, Nat.reduceAdd, Nat.reduceSub]
        · simp (disch := omega) only [go_sem, K.ref33_move, ↓reduceIte, v, c, c1, c2, ne_eq, not_false_eq_true, true_or, Nat.reduceAdd, Nat.reduceSub]
end Go.Ev

/- Sorting integers. -/
namespace Go.Ev
open Go
theorem intOfD_some {d : D} {n : Int} (h : intOfD d = some n) : d = .t (.int .i64 n) := by
  unfold intOfD at h
  split at h
  · cases h; rfl
  · cases h
theorem intsOfD : ∀ {es : List D} {l : List Int}, mapO intOfD es = some l → es = l.map fun x => .t (.int .i64 x)
  | [], l, h => by simp [mapO] at h; subst h; rfl
  | e :: r, l, h => by
    simp only [mapO, Option.bind_eq_some_iff, Option.map_eq_some_iff] at h
    obtain ⟨x, hx, y, hy, rfl⟩ := h
    rw [intOfD_some hx, intsOfD hy]; rfl
theorem insI_perm (x : Int) : ∀ l, (insI x l).Perm (x :: l)
  | [] => .refl _
  | y :: r => by
    unfold insI
    split
    · exact .refl _
    · exact ((insI_perm x r).cons y).trans (.swap x y r)
theorem sortI_perm : ∀ l, (sortI l).Perm l
  | [] => .refl _
  | x :: r => (insI_perm x _).trans ((sortI_perm r).cons x)
theorem insI_up {x : Int} : ∀ {l : List Int}, l.Pairwise (· ≤ ·) → (insI x l).Pairwise (· ≤ ·)
  | [], _ => by simp [insI]
  | y :: r, h => by
    unfold insI
    split
    · rename_i hx
      refine List.pairwise_cons.2 ⟨fun z hz => ?_, h⟩
      rcases List.mem_cons.1 hz with rfl | hz
      · exact hx
      · have := (List.pairwise_cons.1 h).1 z hz; omega
    · rename_i hx
      have h' := List.pairwise_cons.1 h
      refine List.pairwise_cons.2 ⟨fun z hz => ?_, insI_up h'.2⟩
      have hz := (insI_perm x r).mem_iff.1 hz
      rcases List.mem_cons.1 hz with rfl | hz
      · omega
      · exact h'.1 z hz
theorem sortI_up : ∀ l, (sortI l).Pairwise (· ≤ ·)
  | [] => .nil
  | x :: r => insI_up (sortI_up r)
theorem sortI_len (l : List Int) : (sortI l).length = l.length := (sortI_perm l).length_eq
theorem sortI_is (l : List Int) : (l.mergeSort fun x y => decide (x ≤ y)) = sortI l := by
  refine List.Perm.eq_of_pairwise (le := (· ≤ ·)) (fun a b _ _ h1 h2 => by omega) ?_ (sortI_up l) ((List.mergeSort_perm _ _).trans (sortI_perm l).symm)
  have := List.pairwise_mergeSort (le := fun x y : Int => decide (x ≤ y)) (fun a b c => by simp; omega) (fun a b => by simp; omega) l
  exact this.imp (by simp)

end Go.Ev

/- Keys of barriers: steps; what is locked. -/
namespace Go.Ev
open Go
variable [Lib] [Has1] [Has2] [Has3] [Has4] [Has5] [Has6] [Has7] [Has8] [Has9] [Has10]

/-- While the firing key is out, all keys are in the box. -/
theorem moveF_free {k : Keys} {i frm to : Int} (hf : frm ≠ 2) : moveF k i frm to (!k.out) = moveF k i frm to true := by
  unfold moveF
  split
  · rfl
  · rename_i hv
    split
    · rfl
    · rename_i hi
      cases ho : k.out with
      | false => rfl
      | true =>
        have b : boxedF k.keys = true := by
          have hv : keysF k = true := by simpa using hv
          simp only [keysF, ho, Bool.and_eq_true, Bool.not_true, Bool.false_or] at hv
          exact hv.2
        have n : nth k.keys i.toNat = 2 := by
          simp only [boxedF, Bool.not_eq_true', List.any_eq_false, Bool.not_eq_true', decide_eq_false_iff_not, Decidable.not_not] at b
          exact b _ (nth_mem (by omega))
        rw [if_pos (.inl (by omega)), if_pos (.inl (by omega))]
section
variable (k : Keys) (hl : k.keys.length ≤ 1000000) (hr : k.roads.length ≤ 1000000)
include hl hr
theorem kLock_ok (i : Int) : CALL 0 N.keys_Lock [.t k.e, I i] [] = some (.tup [.t (moveF k i 0 1 (!k.out)).1.e, I (moveF k i 0 1 (!k.out)).2], []) := by
  refine CALL_of K.t_keys_Lock rfl ?_
  have m := kmove_ok k hl hr i 0 1
  generalize moveF k i 0 1 (!k.out) = q at *
  obtain ⟨roads, keys, out⟩ := k
  obtain ⟨⟨r2, k2, o2⟩, e2⟩ := q
  simp only at *
  simp (disch := omega) only [go_sem, K.keys_Lock, ↓reduceIte, m, Nat.reduceAdd, Nat.reduceSub]
theorem rLock_ok (i : Int) : CALL 0 N.ref33_Lock [.t k.e, I i] [] = some (.tup [.t (moveF k i 0 1 (!k.out)).1.e, I (moveF k i 0 1 (!k.out)).2], []) := by
  rw [moveF_free (by omega)]
  refine CALL_of K.t_ref33_Lock rfl ?_
  have m := rmove_ok k hl hr i 0 1 true
  generalize moveF k i 0 1 true = q at *
  obtain ⟨roads, keys, out⟩ := k
  obtain ⟨⟨r2, k2, o2⟩, e2⟩ := q
  simp only at *
  simp (disch := omega) only [go_sem, K.ref33_Lock, ↓reduceIte, m, Nat.reduceAdd, Nat.reduceSub]
theorem kInsert_ok (i : Int) : CALL 0 N.keys_Insert [.t k.e, I i] [] = some (.tup [.t (moveF k i 1 2 (!k.out)).1.e, I (moveF k i 1 2 (!k.out)).2], []) := by
  refine CALL_of K.t_keys_Insert rfl ?_
  have m := kmove_ok k hl hr i 1 2
  generalize moveF k i 1 2 (!k.out) = q at *
  obtain ⟨roads, keys, out⟩ := k
  obtain ⟨⟨r2, k2, o2⟩, e2⟩ := q
  simp only at *
  simp (disch := omega) only [go_sem, K.keys_Insert, ↓reduceIte, m, Nat.reduceAdd, Nat.reduceSub]
theorem rInsert_ok (i : Int) : CALL 0 N.ref33_Insert [.t k.e, I i] [] = some (.tup [.t (moveF k i 1 2 (!k.out)).1.e, I (moveF k i 1 2 (!k.out)).2], []) := by
  rw [moveF_free (by omega)]
  refine CALL_of K.t_ref33_Insert rfl ?_
  have m := rmove_ok k hl hr i 1 2 true
  generalize moveF k i 1 2 true = q at *
  obtain ⟨roads, keys, out⟩ := k
  obtain ⟨⟨r2, k2, o2⟩, e2⟩ := q
  simp only at *
  simp (disch := omega) only [go_sem, K.ref33_Insert, ↓reduceIte, m, Nat.reduceAdd, Nat.reduceSub]
theorem kRemove_ok (i : Int) : CALL 0 N.keys_Remove [.t k.e, I i] [] = some (.tup [.t (moveF k i 2 1 (!k.out)).1.e, I (moveF k i 2 1 (!k.out)).2], []) := by
  refine CALL_of K.t_keys_Remove rfl ?_
  have m := kmove_ok k hl hr i 2 1
  generalize moveF k i 2 1 (!k.out) = q at *
  obtain ⟨roads, keys, out⟩ := k
  obtain ⟨⟨r2, k2, o2⟩, e2⟩ := q
  simp only at *
  simp (disch := omega) only [go_sem, K.keys_Remove, ↓reduceIte, m, Nat.reduceAdd, Nat.reduceSub]
theorem rRemove_ok (i : Int) : CALL 0 N.ref33_Remove [.t k.e, I i] [] = some (.tup [.t (moveF k i 2 1 (!k.out)).1.e, I (moveF k i 2 1 (!k.out)).2], []) := by
  refine CALL_of K.t_ref33_Remove rfl ?_
  have m := rmove_ok k hl hr i 2 1 (!k.out)
  generalize moveF k i 2 1 (!k.out) = q at *
  obtain ⟨roads, keys, out⟩ := k
  obtain ⟨⟨r2, k2, o2⟩, e2⟩ := q
  simp only at *
  cases out <;> simp (disch := omega) only [go_sem, K.ref33_Remove, ↓reduceIte, m, Bool.not_true, Bool.not_false, Nat.reduceAdd, Nat.reduceSub]
  all_goals simp only [Bool.not_true, Bool.not_false] at m
  all_goals simp (disch := omega) only [go_sem, m, Nat.reduceAdd, Nat.reduceSub]
theorem kUnlock_ok (i : Int) : CALL 0 N.keys_Unlock [.t k.e, I i] [] = some (.tup [.t (moveF k i 1 0 (!k.out)).1.e, I (moveF k i 1 0 (!k.out)).2], []) := by
  refine CALL_of K.t_keys_Unlock rfl ?_
  have m := kmove_ok k hl hr i 1 0
  generalize moveF k i 1 0 (!k.out) = q at *
  obtain ⟨roads, keys, out⟩ := k
  obtain ⟨⟨r2, k2, o2⟩, e2⟩ := q
  simp only at *
  simp (disch := omega) only [go_sem, K.keys_Unlock, ↓reduceIte, m, Nat.reduceAdd, Nat.reduceSub]
theorem rUnlock_ok (i : Int) : CALL 0 N.ref33_Unlock [.t k.e, I i] [] = some (.tup [.t (moveF k i 1 0 (!k.out)).1.e, I (moveF k i 1 0 (!k.out)).2], []) := by
  rw [moveF_free (by omega)]
  refine CALL_of K.t_ref33_Unlock rfl ?_
  have m := rmove_ok k hl hr i 1 0 true
  generalize moveF k i 1 0 true = q at *
  obtain ⟨roads, keys, out⟩ := k
  obtain ⟨⟨r2, k2, o2⟩, e2⟩ := q
  simp only at *
  simp (disch := omega) only [go_sem, K.ref33_Unlock, ↓reduceIte, m, Nat.reduceAdd, Nat.reduceSub]
theorem kDraw_ok : CALL 0 N.keys_Draw [.t k.e] [] = some (.tup [.t (turnF k true).1.e, I (turnF k true).2], []) := by
  refine CALL_of K.t_keys_Draw rfl ?_
  have m := kturn_ok k hl hr true
  generalize turnF k true = q at *
  obtain ⟨roads, keys, out⟩ := k
  obtain ⟨⟨r2, k2, o2⟩, e2⟩ := q
  simp only at *
  simp (disch := omega) only [go_sem, K.keys_Draw, ↓reduceIte, m, Nat.reduceAdd, Nat.reduceSub]
theorem kReturn_ok : CALL 0 N.keys_Return [.t k.e] [] = some (.tup [.t (turnF k false).1.e, I (turnF k false).2], []) := by
  refine CALL_of K.t_keys_Return rfl ?_
  have m := kturn_ok k hl hr false
  generalize turnF k false = q at *
  obtain ⟨roads, keys, out⟩ := k
  obtain ⟨⟨r2, k2, o2⟩, e2⟩ := q
  simp only at *
  simp (disch := omega) only [go_sem, K.keys_Return, ↓reduceIte, m, Nat.reduceAdd, Nat.reduceSub]
theorem rReturn_ok : CALL 0 N.ref33_Return [.t k.e] [] = some (.tup [.t (turnF k false).1.e, I (turnF k false).2], []) := by
  refine CALL_of K.t_ref33_Return rfl ?_
  have v := rkeys_ok k (by omega) (by omega)
  have c := rcopy0_ok k hl hr
  unfold turnF
  generalize keysF k = hv at *
  obtain ⟨roads, keys, out⟩ := k
  simp only at *
  cases hv <;> cases out <;> simp (disch := omega) only [go_sem, K.ref33_Return, ↓reduceIte, v, c, Bool.true_eq_false, Bool.false_eq_true, false_and, or_false, or_self, Nat.reduceAdd, Nat.reduceSub]
theorem rDraw_ok : CALL 0 N.ref33_Draw [.t k.e] [] = some (.tup [.t (turnF k true).1.e, I (turnF k true).2], []) := by
  refine CALL_of K.t_ref33_Draw rfl ?_
  have v := rkeys_ok k (by omega) (by omega)
  have c := rcopy0_ok k hl hr
  have e : boxedF k.keys = ((List.range k.keys.length).find? fun j => decide (nth k.keys j ≠ 2)).isNone := by
    rw [Bool.eq_iff_iff]
    simp only [boxedF, Bool.not_eq_true', List.any_eq_false, Bool.not_eq_true, Bool.not_eq_false', decide_eq_true_eq, Option.isNone_iff_eq_none, List.find?_eq_none, List.mem_range, decide_eq_false_iff_not, Decidable.not_not, ne_eq]
    constructor
    · intro h j hj; exact h _ (nth_mem hj)
    · intro h x hx
      obtain ⟨j, hj⟩ := List.mem_iff_getElem?.1 hx
      have := h j (List.getElem?_eq_some_iff.1 hj).1
      rwa [nth_eq hj] at this
  unfold turnF
  rw [e]
  cases hv : keysF k with
  | false =>
    rw [hv] at v
    obtain ⟨roads, keys, out⟩ := k
    simp only at *
    simp (disch := omega) only [go_sem, K.ref33_Draw, ↓reduceIte, v, c, Nat.reduceAdd, Nat.reduceSub]
  | true =>
    rw [hv] at v
    obtain ⟨roads, keys, out⟩ := k
    simp only at *
    have loop : ∀ z0 z3 : D, exS CALL K.ref33_Draw_l1 ⟨[z0, .bp 0 0, .bp 1 0, z3, I 0], [.box [.t (tL roads), .t (tL keys), B out], .box [.nil, .nil, B false]]⟩ =
        some (match (List.range keys.length).find? (fun j => decide (nth keys j ≠ 2)) with
          | some j => (.ret, ⟨[.und, .bp 0 0, .bp 1 0, I 48, I j], [.box [.t (tL roads), .t (tL keys), B out], .box [.t (tL roads), .t (tL keys), B out]]⟩)
          | none => (.exit 0, ⟨[.und, .bp 0 0, .bp 1 0, .und, I keys.length], [.box [.t (tL roads), .t (tL keys), B out], .box [.nil, .nil, B false]]⟩)) := by
      intro z0 z3
      refine loop_first (fun j => ⟨[.und, .bp 0 0, .bp 1 0, .und, I j], [.box [.t (tL roads), .t (tL keys), B out], .box [.nil, .nil, B false]]⟩) keys.length (fun j => decide (nth keys j ≠ 2)) _ _ rfl ?_ ?_ ?_ (by simp)
      · intro j hj hp
        have hp : nth keys j = 2 := by simpa using hp
        simp (disch := omega) only [go_sem, K.ref33_Draw_l1b, ↓reduceIte, hp, Nat.reduceAdd, Nat.reduceSub]
      · intro j hj hp
        have hp : nth keys j ≠ 2 := by simpa using hp
        simp (disch := omega) only [go_sem, K.ref33_Draw_l1b, ↓reduceIte, hp, Nat.reduceAdd, Nat.reduceSub]
        simp
      · simp (disch := omega) only [go_sem, K.ref33_Draw_l1b, ↓reduceIte, Nat.reduceAdd, Nat.reduceSub]
    cases hf : (List.range keys.length).find? (fun j => decide (nth keys j ≠ 2)) with
    | some j =>
      rw [hf] at loop
      simp only at loop
      cases out <;> simp (disch := omega) only [go_sem, K.ref33_Draw, ↓reduceIte, v, c, loop, hf, Option.isNone, Bool.true_eq_false, Bool.false_eq_true, and_self, or_true, true_and, or_self, Nat.reduceAdd, Nat.reduceSub]
    | none =>
      rw [hf] at loop
      simp only at loop
      cases out <;> simp (disch := omega) only [go_sem, K.ref33_Draw, ↓reduceIte, v, c, loop, hf, Option.isNone, Bool.true_eq_false, Bool.false_eq_true, and_false, or_false, or_self, Nat.reduceAdd, Nat.reduceSub]
end
theorem rSame_self (a : Keys) (ha : a.roads.length ≤ 1000000) (hk : a.keys.length ≤ 1000000) : CALL 0 N.ref33_Same [.t a.e, .t a.e] [] = some (B true, []) := by
  refine CALL_of K.t_ref33_Same rfl ?_
  have s1 := same_ok a.roads a.roads (by omega)
  have s2 := same_ok a.keys a.keys (by omega)
  simp only [decide_true] at s1 s2
  obtain ⟨r, k, o⟩ := a
  simp only at *
  cases o <;> simp (disch := omega) only [go_sem, K.ref33_Same, ↓reduceIte, s1, s2, Nat.reduceAdd, Nat.reduceSub] <;> rfl
/-- A step: which is taken by its number. -/
def stepK (k : Keys) (what i : Int) : Keys × Int :=
  if what = 0 then moveF k i 0 1 (!k.out) else if what = 1 then moveF k i 1 2 (!k.out) else if what = 2 then moveF k i 2 1 (!k.out) else if what = 3 then moveF k i 1 0 (!k.out) else if what = 4 then turnF k true else turnF k false
theorem step_ok (k : Keys) (hl : k.keys.length ≤ 1000000) (hr : k.roads.length ≤ 1000000) (what i : Int) :
    CALL 0 N.law33_step [.t k.e, I what, I i] [] = some (.tup [.t (stepK k what i).1.e, I (stepK k what i).2, .t (stepK k what i).1.e, I (stepK k what i).2], []) := by
  refine CALL_of K.t_law33_step rfl ?_
  unfold stepK
  by_cases c0 : what = 0
  · have a := kLock_ok k hl hr i
    have b := rLock_ok k hl hr i
    rw [if_pos c0]
    generalize moveF k i 0 1 (!k.out) = q at *
    obtain ⟨roads, keys, out⟩ := k
    obtain ⟨⟨r2, k2, o2⟩, e2⟩ := q
    simp only at *
    simp (disch := omega) only [go_sem, K.law33_step, ↓reduceIte, c0, a, b, Nat.reduceAdd, Nat.reduceSub]
  by_cases c1 : what = 1
  · have a := kInsert_ok k hl hr i
    have b := rInsert_ok k hl hr i
    rw [if_neg c0, if_pos c1]
    generalize moveF k i 1 2 (!k.out) = q at *
    obtain ⟨roads, keys, out⟩ := k
    obtain ⟨⟨r2, k2, o2⟩, e2⟩ := q
    simp only at *
    simp (disch := omega) only [go_sem, K.law33_step, ↓reduceIte, c0, c1, a, b, Nat.reduceAdd, Nat.reduceSub]
  by_cases c2 : what = 2
  · have a := kRemove_ok k hl hr i
    have b := rRemove_ok k hl hr i
    rw [if_neg c0, if_neg c1, if_pos c2]
    generalize moveF k i 2 1 (!k.out) = q at *
    obtain ⟨roads, keys, out⟩ := k
    obtain ⟨⟨r2, k2, o2⟩, e2⟩ := q
    simp only at *
    simp (disch := omega) only [go_sem, K.law33_step, ↓reduceIte, c0, c1, c2, a, b, Nat.reduceAdd, Nat.reduceSub]
  by_cases c3 : what = 3
  · have a := kUnlock_ok k hl hr i
    have b := rUnlock_ok k hl hr i
    rw [if_neg c0, if_neg c1, if_neg c2, if_pos c3]
    generalize moveF k i 1 0 (!k.out) = q at *
    obtain ⟨roads, keys, out⟩ := k
    obtain ⟨⟨r2, k2, o2⟩, e2⟩ := q
    simp only at *
    simp (disch := omega) only [go_sem, K.law33_step, ↓reduceIte, c0, c1, c2, c3, a, b, Nat.reduceAdd, Nat.reduceSub]
  by_cases c4 : what = 4
  · have a := kDraw_ok k hl hr
    have b := rDraw_ok k hl hr
    rw [if_neg c0, if_neg c1, if_neg c2, if_neg c3, if_pos c4]
    generalize turnF k true = q at *
    obtain ⟨roads, keys, out⟩ := k
    obtain ⟨⟨r2, k2, o2⟩, e2⟩ := q
    simp only at *
    simp (disch := omega) only [go_sem, K.law33_step, ↓reduceIte, c0, c1, c2, c3, c4, a, b, Nat.reduceAdd, Nat.reduceSub]
  · have a := kReturn_ok k hl hr
    have b := rReturn_ok k hl hr
    rw [if_neg c0, if_neg c1, if_neg c2, if_neg c3, if_neg c4]
    generalize turnF k false = q at *
    obtain ⟨roads, keys, out⟩ := k
    obtain ⟨⟨r2, k2, o2⟩, e2⟩ := q
    simp only at *
    simp (disch := omega) only [go_sem, K.law33_step, ↓reduceIte, c0, c1, c2, c3, c4, a, b, Nat.reduceAdd, Nat.reduceSub]
end Go.Ev

/- Keys of barriers: what is locked. -/
namespace Go.Ev
open Go
variable [Lib] [Has1] [Has2] [Has3] [Has4] [Has5] [Has6] [Has7] [Has8] [Has9] [Has10]

/-- The locked barriers' roads, in the order of the barriers. -/
def lkN (r k : List Int) : Nat → List Int
  | 0 => []
  | j + 1 => if j < k.length ∧ nth k j ≠ 0 then lkN r k j ++ [nth r j] else lkN r k j
end Go.Ev

/- Keys of barriers: what is locked, by the reference. -/
namespace Go.Ev
open Go
variable [Lib] [Has1] [Has2] [Has3] [Has4] [Has5] [Has6] [Has7] [Has8] [Has9] [Has10]

/-- How many of a list's first n are not greater, from the back. -/
def cutN (x : List Int) (r : Int) : Nat → Nat
  | 0 => 0
  | n + 1 => if nth x n > r then cutN x r n else n + 1
def putS (x : List Int) (r : Int) : List Int := x.take (cutN x r x.length) ++ [r] ++ x.drop (cutN x r x.length)
/-- What is locked, one barrier after the other. -/
def lkS (r k : List Int) : Nat → List Int
  | 0 => []
  | j + 1 => if j < k.length ∧ nth k j ≠ 0 then putS (lkS r k j) (nth r j) else lkS r k j
end Go.Ev

/- Made inputs: mines. -/
namespace Go.Ev
open Go
variable [Lib] [Has1] [Has2]

@[go_sem] theorem appOK_place (l : List Place) : appOK 2 (l.map Place.e) = true := by cases l <;> rfl
@[go_sem] theorem appOK_road (l : List Road) : appOK 10 (l.map Road.e) = true := by cases l <;> rfl

@[go_sem] theorem ldBox_dice (H : Heap) (d : Dice) : ldBox H 0 1 false (some d.obj) = some (.t (tL d.L), H) := by simp only [Dice.obj, go_sem]

def Dice.placesN (d : Dice) : Nat → List Place × Dice
  | 0 => ([], d)
  | k + 1 => if k = 0 then ((d.placesN k).1 ++ [⟨-10 * ((d.placesN k).2.next 4).1, true⟩], ((d.placesN k).2.next 4).2)
    else ((d.placesN k).1 ++ [⟨-10 * ((d.placesN k).2.next 4).1, (((d.placesN k).2.next 4).2.one 6).1⟩], (((d.placesN k).2.next 4).2.one 6).2)

def Dice.road1 (d : Dice) (i : Int) : Road × Dice :=
  (⟨i - 1 - (d.next (min i 2)).1, i, 1 + ((d.next (min i 2)).2.of [11, 59, 119, 4]).1, 1 + (((d.next (min i 2)).2.of [11, 59, 119, 4]).2.of [9, 3, 19]).1, true, false, 1, 1, 0, 0⟩,
    (((d.next (min i 2)).2.of [11, 59, 119, 4]).2.of [9, 3, 19]).2)
def Dice.roadsN (d : Dice) : Nat → List Road × Dice
  | 0 => ([], d)
  | k + 1 => ((d.roadsN k).1 ++ [((d.roadsN k).2.road1 (k + 1)).1], ((d.roadsN k).2.road1 (k + 1)).2)

def Dice.road2 (d : Dice) (n : Int) : Road × Dice :=
  let a := d.next n
  let b := a.2.next n
  let l := b.2.of [11, 59, 199]
  let r := l.2.of [9, 3]
  let w := r.2.next 5
  let c := w.2.one 6
  (⟨a.1, b.1, 1 + l.1, 1 + r.1, decide (0 < w.1), c.1, 1, 1, 0, 0⟩, c.2)
def Dice.more (n : Int) (l : List Road) (d : Dice) : Nat → List Road × Dice
  | 0 => (l, d)
  | k + 1 => if l.length < 10 then Dice.more n (if (d.road2 n).1.frm = (d.road2 n).1.to then l else l ++ [(d.road2 n).1]) (d.road2 n).2 k else (l, d)

def Dice.mineN (d : Dice) : Nat := if d.L.length = 0 then 4 else (2 + (d.next 6).1).toNat
def Dice.mineP (d : Dice) : List Place × Dice := (d.next 6).2.placesN d.mineN
def Dice.mineR (d : Dice) : List Road × Dice := d.mineP.2.roadsN (d.mineN - 1)
def Dice.mineX (d : Dice) : List Road × Dice := Dice.more d.mineN d.mineR.1 (d.mineR.2.next 4).2 (d.mineR.2.next 4).1.toNat
def Dice.mine (d : Dice) : Mine × Dice := (⟨d.mineP.1, d.mineX.1⟩, d.mineX.2)

abbrev roadBox : List D := [I 0, I 0, I 12, I 10, B true, B false, I 1, I 1, I 0, I 0]

abbrev mineH (d : Dice) (ps : List Place) (l : List Road) : Heap := [d.obj, .box [.nil, .nil], .box [.ref 3 0 ps.length, .ref 4 0 l.length], .arr 2 false 0 ((ps.map Place.e).map .t), .arr 10 false 0 ((l.map Road.e).map .t), .box roadBox]

end Go.Ev

/- Made inputs: flows of the air. -/
namespace Go.Ev
open Go
variable [Lib] [Has1] [Has2]

@[go_sem] theorem appOK_spn (l : List Spn) : appOK 2 (l.map Spn.e) = true := by cases l <;> rfl
@[go_sem] theorem set_spn (l : List Spn) (k : Nat) (a b : Int) : (List.map D.t (List.map Spn.e l)).set k (D.t (T.agg [tI a, tI b])) = List.map D.t (List.map Spn.e (l.set k ⟨a, b⟩)) := by
  rw [List.map_set, List.map_set]

@[go_sem] theorem opBs_6 (H : Heap) (sz : Nat) (a b c d e f : T) : opBs H sz [.t a, .t b, .t c, .t d, .t e, .t f] = if cellsAre sz [a, b, c, d, e, f] = true then some (.t (.sl [a, b, c, d, e, f]), H) else none := opBs_if H sz [a, b, c, d, e, f]
@[go_sem] theorem opBs_7 (H : Heap) (sz : Nat) (a b c d e f g : T) : opBs H sz [.t a, .t b, .t c, .t d, .t e, .t f, .t g] = if cellsAre sz [a, b, c, d, e, f, g] = true then some (.t (.sl [a, b, c, d, e, f, g]), H) else none := opBs_if H sz [a, b, c, d, e, f, g]
@[go_sem] theorem opBs_8 (H : Heap) (sz : Nat) (a b c d e f g h : T) : opBs H sz [.t a, .t b, .t c, .t d, .t e, .t f, .t g, .t h] = if cellsAre sz [a, b, c, d, e, f, g, h] = true then some (.t (.sl [a, b, c, d, e, f, g, h]), H) else none := opBs_if H sz [a, b, c, d, e, f, g, h]

@[go_sem] theorem app2_last {α β γ : Type} {l : List α} {g : α → β} {f : β → γ} {x : γ} {j : Nat} (h : j = l.length) : (List.map f (List.map g l) ++ [x])[j]? = some x := by
  rw [List.getElem?_append_right (by simp; omega)]; simp [h]
@[go_sem] theorem app2_set {α β γ : Type} {l : List α} {g : α → β} {f : β → γ} {x y : γ} {j : Nat} (h : j = l.length) : (List.map f (List.map g l) ++ [x]).set j y = List.map f (List.map g l) ++ [y] := by
  rw [List.set_append_right _ _ (by simp; omega)]; simp [h]

def Dice.flow1 (d : Dice) : Spn × Dice :=
  let a := d.of [0, 1000, 5000, 20000, -5000, -20000, 4999, 100]
  let b := a.2.of [0, 1, 1000, 6000]
  let c := b.2.of [0, 1, 500]
  let w := c.2.one 9
  (if w.1 = true then ⟨-1125899906842624, 1125899906842624⟩ else ⟨a.1 - b.1, a.1 + c.1⟩, w.2)
def Dice.flowsN (d : Dice) : Nat → List Spn × Dice
  | 0 => ([], d)
  | k + 1 => ((d.flowsN k).1 ++ [((d.flowsN k).2.flow1).1], ((d.flowsN k).2.flow1).2)
def Dice.flows (d : Dice) (m : Mine) : List Spn × Dice := d.flowsN m.roads.length

end Go.Ev

/- Made inputs, briefly: there are such data, and what holds of them. -/
namespace Go.Ev
open Go
variable [Lib] [Has1] [Has2]

theorem loop_x {gc : Bool} {dead : List Nat} {c : C} {vs : List D} {H : Heap} (P : Nat → St → Prop) (n : Nat) (Q : Ex × St → Prop) (h0 : P 0 ⟨dropV dead vs, H⟩)
    (hs : ∀ j st, j < n → P j st → (∃ st', roundC gc dead st.H.length (exS CALL c st) = some st' ∧ P (j + 1) st') ∨ ∃ q, exS CALL c st = some q ∧ q.1 ≠ .normal ∧ Q q)
    (he : ∀ st, P n st → ∃ q, exS CALL c st = some q ∧ q.1 ≠ .normal ∧ Q q) : ∃ q, exS CALL (.loop gc dead c) ⟨vs, H⟩ = some q ∧ Q q := by
  have key : ∀ (k j : Nat) (st : St), j + k = n → P j st → ∃ q, loopC gc dead (exS CALL c) st = some q ∧ Q q := by
    intro k
    induction k with
    | zero =>
      intro j st hj hp
      obtain ⟨q, h1, h2, h3⟩ := he st (by rw [← hj]; exact hp)
      exact ⟨q, loopC_exit h1 h2, h3⟩
    | succ k ih =>
      intro j st hj hp
      rcases hs j st (by omega) hp with ⟨st', h1, h2⟩ | ⟨q, h1, h2, h3⟩
      · obtain ⟨q, h3, h4⟩ := ih (j + 1) st' (by omega) h2
        exact ⟨q, loopC_step h1 h3, h4⟩
      · exact ⟨q, loopC_exit h1 h2, h3⟩
  exact key n 0 _ (by omega) h0

theorem roll_x (l : List Int) : CALL 0 N.made_Roll [.t (tL l)] [] = some (.bp 0 0, [Dice.obj ⟨l, 0⟩]) := by
  refine CALL_of K.t_made_Roll rfl ?_
  simp (disch := omega) only [go_sem, K.made_Roll, ↓reduceIte, Dice.obj, Nat.reduceAdd, Nat.reduceSub]
theorem next_x {d : Dice} (hd : d.light) (n : Int) (h1 : 1 ≤ n) (hn : n ≤ 4611686018427387904) :
    ∃ (v : Int) (e : Dice), CALL 0 N.made_Dice_Next [.bp 0 0, I n] [d.obj] = some (I v, [e.obj]) ∧ e.light ∧ 0 ≤ v ∧ v < n :=
  ⟨_, _, next_ok d n hn hd, Dice.next_light hd n, d.next_lo n, d.next_hi h1⟩
theorem of_x {d : Dice} (hd : d.light) (l : List Int) (hl : l ≠ []) (hn : l.length ≤ 4294967296) :
    ∃ (v : Int) (e : Dice), CALL 0 N.made_Dice_Of [.bp 0 0, .t (tL l)] [d.obj] = some (I v, [e.obj]) ∧ e.light ∧ v ∈ l :=
  ⟨_, _, of_ok d l hl hn hd, Dice.of_light hd l, d.of_mem hl⟩
end Go.Ev

/- Keys of barriers: what is locked, by the reference: the whole. -/
namespace Go.Ev
open Go
variable [Lib] [Has1] [Has2] [Has3] [Has4] [Has5] [Has6] [Has7] [Has8] [Has9] [Has10]

section
variable (b u v y : Obj) (ds : Heap)
end
abbrev rlA (roads keys : List Int) (out : Bool) (j : Int) : St := ⟨[.und, .bp 0 0, .und, .nil, I j, .und], [.box [.t (tL roads), .t (tL keys), B out]]⟩
abbrev rlB (roads keys : List Int) (out : Bool) (ds : Heap) (x : List Int) (j : Int) : St := ⟨[.und, .bp 0 0, .und, .ref (ds.length + 1) 0 x.length, I j, .und], .box [.t (tL roads), .t (tL keys), B out] :: (ds ++ [arr1 x])⟩
end Go.Ev

/- Keys of barriers: the program and the reference agree. -/
namespace Go.Ev
open Go
variable [Lib] [Has1] [Has2] [Has3] [Has4] [Has5] [Has6] [Has7] [Has8] [Has9] [Has10]

theorem moveF_len (k : Keys) (i a b : Int) (f : Bool) : (moveF k i a b f).1.roads = k.roads ∧ (moveF k i a b f).1.keys.length = k.keys.length := by
  unfold moveF
  repeat' split
  all_goals simp
theorem turnF_len (k : Keys) (b : Bool) : (turnF k b).1.roads = k.roads ∧ (turnF k b).1.keys.length = k.keys.length := by
  unfold turnF
  repeat' split
  all_goals simp
theorem stepK_len (k : Keys) (w i : Int) : (stepK k w i).1.roads = k.roads ∧ (stepK k w i).1.keys.length = k.keys.length := by
  unfold stepK
  repeat' split
  all_goals first | exact moveF_len .. | exact turnF_len ..
end Go.Ev

/- Keys of barriers: the plain laws; starts. -/
namespace Go.Ev
open Go
variable [Lib] [Has1] [Has2] [Has3] [Has4] [Has5] [Has6] [Has7] [Has8] [Has9] [Has10]

theorem keysF_iff (k : Keys) : keysF k = true ↔ kroadsF k.roads = true ∧ k.keys.length = k.roads.length ∧ (∀ x ∈ k.keys, 0 ≤ x ∧ x ≤ 2) ∧ (k.out = true → ∀ x ∈ k.keys, x = 2) := by
  unfold keysF boxedF
  simp only [Bool.and_eq_true, decide_eq_true_eq, Bool.not_eq_true', List.any_eq_false, Bool.not_eq_false', Bool.or_eq_true, Bool.not_eq_true, decide_eq_false_iff_not, Decidable.not_not, and_assoc]
  constructor
  · rintro ⟨a, b, c, d⟩
    refine ⟨a, b, fun x hx => by simpa using c x hx, fun ho x hx => ?_⟩
    rcases d with d | d
    · rw [ho] at d; cases d
    · exact d x hx
  · rintro ⟨a, b, c, d⟩
    refine ⟨a, b, fun x hx => by simpa using c x hx, ?_⟩
    cases ho : k.out with
    | false => left; rfl
    | true => right; exact d ho
/-- A move that succeeds: what it says, what it makes. -/
theorem moveF_0 {k : Keys} {i a b : Int} (h : (moveF k i a b (!k.out)).2 = 0) : keysF k = true ∧ 0 ≤ i ∧ i < k.keys.length ∧ nth k.keys i.toNat = a ∧ k.out = false ∧ (moveF k i a b (!k.out)).1 = ⟨k.roads, k.keys.set i.toNat b, k.out⟩ := by
  unfold moveF at h ⊢
  split at h
  · simp at h
  · rename_i h1
    split at h
    · simp at h
    · rename_i h2
      split at h
      · simp at h
      · rename_i h3
        rw [if_neg h1, if_neg h2, if_neg h3]
        have h1 : keysF k = true := by simpa using h1
        refine ⟨h1, by omega, by omega, Decidable.not_not.1 (fun x => h3 (.inl x)), ?_, rfl⟩
        cases ho : k.out with
        | false => rfl
        | true => exact absurd (.inr (by rw [ho]; rfl)) h3
theorem set_valid {k : Keys} {i b : Int} (hv : keysF k = true) (ho : k.out = false) (hb : 0 ≤ b ∧ b ≤ 2) : keysF ⟨k.roads, k.keys.set i.toNat b, k.out⟩ = true := by
  obtain ⟨v1, v2, v3, v4⟩ := (keysF_iff k).1 hv
  refine (keysF_iff _).2 ⟨v1, by simp [v2], fun x hx => ?_, fun h => by simp only at h; rw [ho] at h; cases h⟩
  rcases List.mem_or_eq_of_mem_set hx with hx | rfl
  · exact v3 x hx
  · exact hb
theorem move_back {k : Keys} {i a b : Int} (h : (moveF k i a b (!k.out)).2 = 0) (ha : 0 ≤ a ∧ a ≤ 2) (hb : 0 ≤ b ∧ b ≤ 2) :
    moveF (moveF k i a b (!k.out)).1 i b a (!(moveF k i a b (!k.out)).1.out) = (k, 0) := by
  obtain ⟨hv, h0, h1, h2, h3, e⟩ := moveF_0 h
  have sv := set_valid (i := i) hv h3 hb
  rw [e]
  unfold moveF
  rw [sv, if_neg (by simp), if_neg (by simp only [List.length_set]; omega)]
  have n : nth (k.keys.set i.toNat b) i.toNat = b := by rw [nth_set (by omega), if_pos rfl]
  simp only
  rw [if_neg (by rw [n, h3]; simp)]
  have s : (k.keys.set i.toNat b).set i.toNat a = k.keys := by
    rw [List.set_set]
    apply List.ext_getElem?
    intro j
    by_cases c : i.toNat = j
    · subst c; rw [List.getElem?_set_self (by omega), ← h2, nth_some (by omega)]
    · rw [List.getElem?_set_ne c]
  rw [s]
theorem turnF_0 {k : Keys} {b : Bool} (h : (turnF k b).2 = 0) : keysF k = true ∧ k.out = !b ∧ (b = true → boxedF k.keys = true) ∧ (turnF k b).1 = ⟨k.roads, k.keys, b⟩ := by
  unfold turnF at h ⊢
  split at h
  · simp at h
  · rename_i h1
    split at h
    · simp at h
    · rename_i h2
      rw [if_neg h1, if_neg h2]
      refine ⟨by simpa using h1, ?_, fun hb => ?_, rfl⟩
      · cases b <;> cases ho : k.out <;> simp_all
      · subst hb
        cases hx : boxedF k.keys with
        | true => rfl
        | false => exact absurd (.inr ⟨rfl, hx⟩) h2
theorem turn_valid {k : Keys} {b : Bool} (h : (turnF k b).2 = 0) : keysF (turnF k b).1 = true := by
  obtain ⟨hv, ho, hb, e⟩ := turnF_0 h
  rw [e]
  obtain ⟨v1, v2, v3, v4⟩ := (keysF_iff k).1 hv
  refine (keysF_iff _).2 ⟨v1, v2, v3, fun h x hx => ?_⟩
  simp only at h
  have := hb h
  simp only [boxedF, Bool.not_eq_true', List.any_eq_false, Bool.not_eq_true, Bool.not_eq_false', decide_eq_true_eq, decide_eq_false_iff_not, Decidable.not_not] at this
  exact this x hx
theorem turn_back {k : Keys} (h : (turnF k true).2 = 0) : turnF (turnF k true).1 false = (k, 0) := by
  have tv := turn_valid h
  obtain ⟨hv, ho, hb, e⟩ := turnF_0 h
  rw [e] at tv ⊢
  unfold turnF
  rw [tv, if_neg (by simp), if_neg (by simp)]
  obtain ⟨r, ks, o⟩ := k
  simp only [Bool.not_true] at ho
  subst ho
  rfl
abbrev zK (l : List Int) : Keys := ⟨l, List.replicate l.length 0, false⟩
theorem rstart_ok (l : List Int) (hl : l.length ≤ 12) (hv : kroadsF l = true) : CALL 0 N.ref33_Start [.t (tL l)] [] = some (.tup [.t (zK l).e, I 0], []) := by
  refine CALL_of K.t_ref33_Start rfl ?_
  have v := rkeys_ok (zK l) (by simp; omega) (by simp only; omega)
  have kv : keysF (zK l) = true := (keysF_iff _).2 ⟨hv, by simp, fun x hx => by rw [List.eq_of_mem_replicate hx]; omega, fun h => by cases h⟩
  rw [kv] at v
  have rep : List.replicate l.length (T.int .i64 0) = (List.replicate l.length (0 : Int)).map (T.int .i64) := by simp
  have rl : (List.replicate l.length (0 : Int)).length = l.length := by simp
  simp only [zK] at *
  generalize List.replicate l.length (0 : Int) = z at *
  simp (disch := omega) only [go_sem, K.ref33_Start, ↓reduceIte, v, rep, rl, Nat.reduceAdd, Nat.reduceSub]
end Go.Ev

/- KeysBack's law. -/
namespace Go.Ev
open Go
variable [Lib] [Has1] [Has2] [Has3] [Has4] [Has5] [Has6] [Has7] [Has8] [Has9] [Has10]

theorem step_sizes {k : Keys} {w i : Int} {n : Nat} (h1 : k.keys.length ≤ n) (h2 : k.roads.length ≤ n) : (stepK k w i).1.keys.length ≤ n ∧ (stepK k w i).1.roads.length ≤ n := by
  have := stepK_len k w i
  rw [this.1, this.2]; exact ⟨h1, h2⟩
abbrev kbS (e : Dice) (k : Keys) (n : Int) : St := ⟨[.und, .und, .bp 0 0, .bp 1 0, I n, .und, .und, .und, .und, .und, .und, .und, .und, .und, .und, .und, .und, .und], [e.obj, .box [.t (tL k.roads), .t (tL k.keys), B k.out]]⟩
def kbP (n0 j : Nat) (st : St) : Prop := ∃ (e : Dice) (k : Keys), st = kbS e k ((n0 : Int) - j) ∧ e.light ∧ k.keys.length ≤ 12 ∧ k.roads.length ≤ 12
theorem kb_round {n0 j : Nat} (hn : n0 ≤ 12) (hj : j < n0) {st : St} (hP : kbP n0 j st) : ∃ st', roundC true [0, 1, 5, 6, 7, 8, 9, 10, 11, 12, 13, 14, 15, 16, 17] st.H.length (exS CALL K.law33_KeysBack_l1b st) = some st' ∧ kbP n0 (j + 1) st' := by
  obtain ⟨e, k, rfl, el, h1, h2⟩ := hP
  obtain ⟨w, e1, wo, l1, -⟩ := of_x el [0, 0, 1, 1, 4, 2, 3, 5] (by simp) (by simp)
  obtain ⟨i, e2, io, l2, i0, i9⟩ := next_x l1 3 (by omega) (by omega)
  have so := step_ok k (by omega) (by omega) w i
  have sz := step_sizes (w := w) (i := i) h1 h2
  have kk : ((n0 : Int) - j) - 1 = (n0 : Int) - ((j + 1 : Nat) : Int) := by omega
  have q0 : 0 < (n0 : Int) - j := by omega
  have q9 : (n0 : Int) - j ≤ 12 := by omega
  refine ⟨kbS e2 (stepK k w i).1 ((n0 : Int) - ((j + 1 : Nat) : Int)), ?_, e2, _, rfl, l2, sz.1, sz.2⟩
  rw [← kk]
  generalize (n0 : Int) - j = n at *
  generalize stepK k w i = q at *
  obtain ⟨⟨r2, k2, o2⟩, e2'⟩ := q
  obtain ⟨roads, keys, out⟩ := k
  simp only [tL, List.map_cons, List.map_nil, kbS] at *
  simp (disch := omega) only [go_sem, K.law33_KeysBack_l1b, ↓reduceIte, wo, io, so, Nat.reduceAdd, Nat.reduceSub]
theorem kb_loop {e : Dice} (el : e.light) (k : Keys) (h1 : k.keys.length ≤ 12) (h2 : k.roads.length ≤ 12) {n : Int} (n0 : 0 ≤ n) (n9 : n < 12) :
    ∃ (e' : Dice) (k' : Keys), e'.light ∧ k'.keys.length ≤ 12 ∧ k'.roads.length ≤ 12 ∧ ∀ z0 z1 z5 z6 z7 z8 z9 z10 z11 z12 z13 z14 z15 z16 z17 : D, exS CALL K.law33_KeysBack_l1 ⟨[z0, z1, .bp 0 0, .bp 1 0, I n, z5, z6, z7, z8, z9, z10, z11, z12, z13, z14, z15, z16, z17], [e.obj, .box [.t (tL k.roads), .t (tL k.keys), B k.out]]⟩ = some (.exit 0, kbS e' k' 0) := by
  have key : ∀ z0 z1 z5 z6 z7 z8 z9 z10 z11 z12 z13 z14 z15 z16 z17 : D, ∃ q, exS CALL K.law33_KeysBack_l1 ⟨[z0, z1, .bp 0 0, .bp 1 0, I n, z5, z6, z7, z8, z9, z10, z11, z12, z13, z14, z15, z16, z17], [e.obj, .box [.t (tL k.roads), .t (tL k.keys), B k.out]]⟩ = some q ∧
      ∃ (e' : Dice) (k' : Keys), q = (.exit 0, kbS e' k' 0) ∧ e'.light ∧ k'.keys.length ≤ 12 ∧ k'.roads.length ≤ 12 := by
    intro z0 z1 z5 z6 z7 z8 z9 z10 z11 z12 z13 z14 z15 z16 z17
    refine loop_x (kbP n.toNat) n.toNat _ ?_ ?_ ?_
    · refine ⟨e, k, ?_, el, h1, h2⟩
      rw [show ((n.toNat : Nat) : Int) - ((0 : Nat) : Int) = n by omega]
      simp (disch := omega) only [go_sem, kbS, ↓reduceIte, Nat.reduceAdd, Nat.reduceSub]
    · intro j st hj hP
      exact .inl (kb_round (by omega) hj hP)
    · rintro st ⟨e', k', rfl, el', h1', h2'⟩
      rw [Int.sub_self]
      refine ⟨(.exit 0, kbS e' k' 0), ?_, by simp, e', k', rfl, el', h1', h2'⟩
      simp only [kbS]
      simp (disch := omega) only [go_sem, K.law33_KeysBack_l1b, ↓reduceIte, Nat.reduceAdd, Nat.reduceSub]
  obtain ⟨q, hq, e', k', rfl, a, b, c⟩ := key .und .und .und .und .und .und .und .und .und .und .und .und .und .und .und
  refine ⟨e', k', a, b, c, fun z0 z1 z5 z6 z7 z8 z9 z10 z11 z12 z13 z14 z15 z16 z17 => ?_⟩
  rw [← hq]
  show loopC true _ _ ⟨dropV _ _, _⟩ = loopC true _ _ ⟨dropV _ _, _⟩
  simp (disch := omega) only [go_sem, Nat.reduceAdd, Nat.reduceSub]
end Go.Ev

/- KeysBack's law: the whole. -/
namespace Go.Ev
open Go
variable [Lib] [Has1] [Has2] [Has3] [Has4] [Has5] [Has6] [Has7] [Has8] [Has9] [Has10]

theorem three_l (a b c : Int) {v : Int} (v0 : 0 ≤ v) (v9 : v < 3) (h1 : kroadsF [a] = true) (h2 : kroadsF [a, b] = true) (h3 : kroadsF [a, b, c] = true) :
    ∃ l : List Int, List.take (1 + v).toNat [T.int .i64 a, T.int .i64 b, T.int .i64 c] = l.map (T.int .i64) ∧ l.length ≤ 3 ∧ 1 ≤ l.length ∧ kroadsF l = true := by
  have : v = 0 ∨ v = 1 ∨ v = 2 := by omega
  rcases this with rfl | rfl | rfl
  · exact ⟨[a], rfl, by simp, by simp, h1⟩
  · exact ⟨[a, b], rfl, by simp, by simp, h2⟩
  · exact ⟨[a, b, c], rfl, by simp, by simp, h3⟩
/-- Two calls, of which the second one takes the first one back. -/
theorem back_pair (k : Keys) (h1 : k.keys.length ≤ 12) (h2 : k.roads.length ≤ 12) (i : Int) :
    (∃ (q : Keys) (e : Int), CALL 0 N.keys_Lock [.t k.e, I i] [] = some (.tup [.t q.e, I e], []) ∧ (e = 0 → CALL 0 N.keys_Unlock [.t q.e, I i] [] = some (.tup [.t k.e, I 0], []))) ∧
    (∃ (q : Keys) (e : Int), CALL 0 N.keys_Insert [.t k.e, I i] [] = some (.tup [.t q.e, I e], []) ∧ (e = 0 → CALL 0 N.keys_Remove [.t q.e, I i] [] = some (.tup [.t k.e, I 0], []))) ∧
    (∃ (q : Keys) (e : Int), CALL 0 N.keys_Draw [.t k.e] [] = some (.tup [.t q.e, I e], []) ∧ (e = 0 → CALL 0 N.keys_Return [.t q.e] [] = some (.tup [.t k.e, I 0], []))) := by
  have ln := fun a b => moveF_len k i a b (!k.out)
  have tl := turnF_len k true
  refine ⟨⟨_, _, kLock_ok k (by omega) (by omega) i, fun h => ?_⟩, ⟨_, _, kInsert_ok k (by omega) (by omega) i, fun h => ?_⟩, ⟨_, _, kDraw_ok k (by omega) (by omega), fun h => ?_⟩⟩
  · have u := kUnlock_ok (moveF k i 0 1 (!k.out)).1 (by rw [(ln 0 1).2]; omega) (by rw [(ln 0 1).1]; omega) i
    rwa [move_back h (by omega) (by omega)] at u
  · have u := kRemove_ok (moveF k i 1 2 (!k.out)).1 (by rw [(ln 1 2).2]; omega) (by rw [(ln 1 2).1]; omega) i
    rwa [move_back h (by omega) (by omega)] at u
  · have u := kReturn_ok (turnF k true).1 (by rw [tl.2]; omega) (by rw [tl.1]; omega)
    rwa [turn_back h] at u
theorem KeysBack_law (aw : CALL 0 N.law33_awake [] [] = some (B true, [])) (li : List Int) : CALL 0 N.law33_KeysBack [.t (tL li)] [] = some (B true, []) := by
  refine CALL_of K.t_law33_KeysBack rfl ?_
  have lo := light_ok li
  by_cases c : li.length ≤ 400
  · simp only [c, decide_true] at lo
    have ro := roll_x li
    have d0 : (Dice.mk li 0).light := c
    generalize (Dice.mk li 0) = d at *
    obtain ⟨v, e1, vo, l1, v0, v9⟩ := next_x d0 3 (by omega) (by omega)
    obtain ⟨l, tk, ll, ll1, kr⟩ := three_l 1 4 6 v0 v9 (by decide) (by decide) (by decide)
    have so := rstart_ok l (by omega) kr
    obtain ⟨n, e2, no, l2, n0, n9⟩ := next_x l1 12 (by omega) (by omega)
    obtain ⟨e3, k, l3, h1, h2, lp⟩ := kb_loop l2 (zK l) (by simp only [List.length_replicate]; omega) (by simp only; omega) n0 n9
    obtain ⟨i, e4, io, l4, i0, i9⟩ := next_x l3 3 (by omega) (by omega)
    obtain ⟨⟨q1, x1, a1, b1⟩, ⟨q2, x2, a2, b2⟩, ⟨q3, x3, a3, b3⟩⟩ := back_pair k h1 h2 i
    have ss := rSame_self k (by omega) (by omega)
    simp only [zK] at *
    generalize List.replicate l.length (0 : Int) = z at *
    obtain ⟨roads, keys, out⟩ := k
    obtain ⟨r1, k1, o1⟩ := q1
    obtain ⟨r2, k2, o2⟩ := q2
    obtain ⟨r3, k3, o3⟩ := q3
    simp only [kbS] at *
    by_cases c1 : x1 = 0
    · have b1 := b1 c1
      subst c1
      by_cases c2 : x2 = 0
      · have b2 := b2 c2
        subst c2
        by_cases c3 : x3 = 0
        · have b3 := b3 c3
          subst c3
          simp (disch := omega) only [go_sem, K.law33_KeysBack, ↓reduceIte, lo, ro, vo, tk, so, no, lp, io, a1, b1, a2, b2, a3, b3, ss, aw, Nat.reduceAdd, Nat.reduceSub]
        · simp (disch := omega) only [go_sem, K.law33_KeysBack, ↓reduceIte, lo, ro, vo, tk, so, no, lp, io, a1, b1, a2, b2, a3, c3, ss, aw, Nat.reduceAdd, Nat.reduceSub]
      · by_cases c3 : x3 = 0
        · have b3 := b3 c3
          subst c3
          simp (disch := omega) only [go_sem, K.law33_KeysBack, ↓reduceIte, lo, ro, vo, tk, so, no, lp, io, a1, b1, a2, c2, a3, b3, ss, aw, Nat.reduceAdd, Nat.reduceSub]
        · simp (disch := omega) only [go_sem, K.law33_KeysBack, ↓reduceIte, lo, ro, vo, tk, so, no, lp, io, a1, b1, a2, c2, a3, c3, ss, aw, Nat.reduceAdd, Nat.reduceSub]
    · by_cases c2 : x2 = 0
      · have b2 := b2 c2
        subst c2
        by_cases c3 : x3 = 0
        · have b3 := b3 c3
          subst c3
          simp (disch := omega) only [go_sem, K.law33_KeysBack, ↓reduceIte, lo, ro, vo, tk, so, no, lp, io, a1, c1, a2, b2, a3, b3, ss, aw, Nat.reduceAdd, Nat.reduceSub]
        · simp (disch := omega) only [go_sem, K.law33_KeysBack, ↓reduceIte, lo, ro, vo, tk, so, no, lp, io, a1, c1, a2, b2, a3, c3, ss, aw, Nat.reduceAdd, Nat.reduceSub]
      · by_cases c3 : x3 = 0
        · have b3 := b3 c3
          subst c3
          simp (disch := omega) only [go_sem, K.law33_KeysBack, ↓reduceIte, lo, ro, vo, tk, so, no, lp, io, a1, c1, a2, c2, a3, b3, ss, aw, Nat.reduceAdd, Nat.reduceSub]
        · simp (disch := omega) only [go_sem, K.law33_KeysBack, ↓reduceIte, lo, ro, vo, tk, so, no, lp, io, a1, c1, a2, c2, a3, c3, ss, aw, Nat.reduceAdd, Nat.reduceSub]
  · simp only [c, decide_false] at lo
    simp (disch := omega) only [go_sem, K.law33_KeysBack, ↓reduceIte, lo, aw, Nat.reduceAdd, Nat.reduceSub]
end Go.Ev

