/- Parts of the proof: see the text that holds the theorem. -/
import Derived.Test.YtddpkhnllojfpaaGreatZ3
set_option linter.all false
set_option maxRecDepth 100000
/- MADE BY PROGRAM (lib.py): the compact code of functions. -/
namespace Go.Ev.K
open Go.Ev
/-- /made.Light -/
def made_Light : Fn := { nargs := 1, vars := [0, 2], body := (.seq (.reg [{ o := .mv (.b false), d := some 1 }] []) (.seq (.reg [{ o := .mv (.v 0) }, { o := .ln (.l 0) }, { o := .bin .leq (.l 0) (.i 400) }, { o := .mv (.l 0), d := some 1 }] []) .ret)), res := [(1, none)] }
/-- /law40.awake -/
def law40_awake : Fn := { nargs := 0, vars := [0, 1, 2, 3, 4, 5], body := (.seq (.reg [{ o := .mv (.b false), d := some 0 }] []) (.seq (.reg [{ o := .bd [.t (.int .i64 (0)), .t (.bool false)] [(1, 1, .b true)] }, { o := .bd [.t (.int .i64 (0)), .t (.bool false)] [] }, { o := .bd [.t (.int .i64 (0)), .t (.bool false)] [] }, { o := .bs [.l 2, .l 1, .l 0] 2 }, { o := .bd [.nil, .nil] [(0, 1, .l 0)] }, { o := .al [.nil, .nil] [], d := some 1 }, { o := .st (.l 0) (.l 1) 2 [] }] []) (.seq (.reg [{ o := .bs [.i 1099511627776, .i 1099511627776, .i 100] 1 }, { o := .bd [.t (.int .i64 (0)), .nil] [(1, 1, .l 0)] }, { o := .al [.t (.int .i64 (0)), .nil] [], d := some 2 }, { o := .st (.l 0) (.l 1) 2 [] }] []) (.seq (.reg [{ o := .bs [.i 1] 1 }, { o := .bs [.i 0, .i 0, .i 0] 1 }, { o := .bd [.t (.int .i64 (0)), .nil] [(1, 1, .l 0)] }, { o := .bs [.l 0] 2 }, { o := .bd [.nil, .nil] [(0, 1, .l 3), (1, 1, .l 0)] }, { o := .bs [.l 0] 2 }, { o := .bd [.nil] [(0, 1, .l 0)] }, { o := .al [.nil] [], d := some 3 }, { o := .st (.l 0) (.l 1) 1 [] }] []) (.seq (.reg [{ o := .bs [.i 1, .i 2] 1 }, { o := .bd [.t (.int .i64 (0)), .t (.int .i64 (0)), .nil] [(0, 1, .i 1), (2, 1, .l 0)] }, { o := .al [.t (.int .i64 (0)), .t (.int .i64 (0)), .nil] [], d := some 4 }, { o := .st (.l 0) (.l 1) 3 [] }] []) (.seq (.reg [{ o := .bs [.i 0] 1 }, { o := .bd [.t (.int .i64 (0)), .t (.int .i64 (0)), .nil] [(0, 1, .i 2), (2, 1, .l 0)] }, { o := .al [.t (.int .i64 (0)), .t (.int .i64 (0)), .nil] [], d := some 5 }, { o := .st (.l 0) (.l 1) 3 [] }] []) (.seq (.reg [{ o := .ld (.v 1) 2 true }, { o := .ld (.v 4) 3 true }, { o := .ld (.v 2) 2 true }, { o := .ld (.v 3) 1 true }, { o := .ca N.firerules_Command 0 [] [.l 3, .l 2, .l 1, .l 0, .i 50, .i 10] }, { o := .bin .eql (.l 0) (.i 0) }, { o := .mv (.l 0) }, { o := .ld (.v 1) 2 true, g := some (0, true) }, { o := .ld (.v 4) 3 true, g := some (1, true) }, { o := .ld (.v 2) 2 true, g := some (2, true) }, { o := .ld (.v 3) 1 true, g := some (3, true) }, { o := .ca N.firerules_Command 0 [] [.l 3, .l 2, .l 1, .l 0, .i 90, .i 10], g := some (4, true) }, { o := .bin .eql (.l 0) (.i 1), g := some (5, true) }, { o := .pk (.l 6) (.l 0) (.b false) }, { o := .mv (.l 0) }, { o := .ld (.v 1) 2 true, g := some (0, true) }, { o := .ld (.v 4) 3 true, g := some (1, true) }, { o := .ld (.v 2) 2 true, g := some (2, true) }, { o := .ld (.v 3) 1 true, g := some (3, true) }, { o := .ca N.firerules_Command 0 [] [.l 3, .l 2, .l 1, .l 0, .i 100, .i 10], g := some (4, true) }, { o := .bin .eql (.l 0) (.i 2), g := some (5, true) }, { o := .pk (.l 6) (.l 0) (.b false) }, { o := .mv (.l 0) }, { o := .ld (.v 1) 2 true, g := some (0, true) }, { o := .ld (.v 5) 3 true, g := some (1, true) }, { o := .ld (.v 2) 2 true, g := some (2, true) }, { o := .ld (.v 3) 1 true, g := some (3, true) }, { o := .ca N.firerules_Command 0 [] [.l 3, .l 2, .l 1, .l 0, .i 95, .i 10], g := some (4, true) }, { o := .bin .eql (.l 0) (.i 3), g := some (5, true) }, { o := .pk (.l 6) (.l 0) (.b false) }, { o := .mv (.l 0) }, { o := .ld (.v 1) 2 true, g := some (0, true) }, { o := .ld (.v 4) 3 true, g := some (1, true) }, { o := .ld (.v 2) 2 true, g := some (2, true) }, { o := .ld (.v 3) 1 true, g := some (3, true) }, { o := .ca N.firerules_Drawn 0 [] [.l 3, .l 2, .l 1, .l 0, .i 90, .i 10], g := some (4, true) }, { o := .ln (.l 0), g := some (5, true) }, { o := .bin .eql (.l 0) (.i 1), g := some (6, true) }, { o := .pk (.l 7) (.l 0) (.b false) }, { o := .mv (.l 0), d := some 0 }] []) .ret))))))), res := [(0, none)] }
/-- /made.Roll -/
def made_Roll : Fn := { nargs := 1, vars := [0, 2], body := (.seq (.reg [{ o := .mv (.c (.nilp)), d := some 1 }] []) (.seq (.reg [{ o := .mv (.v 0) }, { o := .bd [.nil, .t (.int .i64 (0))] [(0, 1, .l 0)] }, { o := .bx (.l 0) 2 }, { o := .mv (.l 0), d := some 1 }] []) .ret)), res := [(1, none)] }
def made_Dice_Mine_l1b : C := (.seq (.ite [{ o := .mv (.v 4) }, { o := .mv (.v 3) }, { o := .bin .lss (.l 1) (.l 0) }] [] 0 .skip (.exit 0)) (.seq (.blk 1 (.reg [{ o := .fa (.v 2) 0 }, { o := .ld (.l 0) 1 false }, { o := .mv (.v 0) }, { o := .ca N.made_Dice_Next 0 [] [.l 0, .i 4] }, { o := .bin .mul (.i (-10)) (.l 0) }, { o := .mv (.v 4) }, { o := .bin .eql (.l 0) (.i 0) }, { o := .mv (.l 0) }, { o := .mv (.v 0), g := some (0, false) }, { o := .ca N.made_Dice_One 0 [] [.l 0, .i 6], g := some (1, false) }, { o := .pk (.l 2) (.b true) (.l 0) }, { o := .bd [.t (.int .i64 (0)), .t (.bool false)] [(0, 1, .l 6), (1, 1, .l 0)] }, { o := .bs [.l 0] 2 }, { o := .app (.l 11) (.l 0) true 2 }, { o := .fa (.v 2) 0 }, { o := .st (.l 0) (.l 1) 1 [] }] [(1, 4), (1, 10), (1, 13)])) (.reg [{ o := .mv (.v 4) }, { o := .bin .add (.l 0) (.i 1) }, { o := .mv (.l 0), d := some 4 }] [])))
def made_Dice_Mine_l1 : C := .loop true [5, 6, 7, 8, 9] K.made_Dice_Mine_l1b
def made_Dice_Mine_l2b : C := (.seq (.ite [{ o := .mv (.v 6) }, { o := .mv (.v 3) }, { o := .bin .lss (.l 1) (.l 0) }] [] 0 .skip (.exit 2)) (.seq (.blk 3 (.seq (.reg [{ o := .ld (.v 5) 10 true }, { o := .al [.t (.int .i64 (0)), .t (.int .i64 (0)), .t (.int .i64 (0)), .t (.int .i64 (0)), .t (.bool false), .t (.bool false), .t (.int .i64 (0)), .t (.int .i64 (0)), .t (.int .i64 (0)), .t (.int .i64 (0))] [], d := some 7 }, { o := .st (.l 0) (.l 1) 10 [] }] []) (.seq (.reg [{ o := .mv (.v 6) }, { o := .bin .sub (.l 0) (.i 1) }, { o := .mv (.v 0) }, { o := .mv (.v 6) }, { o := .mn [.l 0, .i 2] }, { o := .ca N.made_Dice_Next 0 [] [.l 2, .l 0] }, { o := .bin .sub (.l 4) (.l 0) }, { o := .mv (.v 6) }, { o := .mv (.v 0) }, { o := .bs [.i 11, .i 59, .i 119, .i 4] 1 }, { o := .ca N.made_Dice_Of 0 [] [.l 1, .l 0] }, { o := .bin .add (.i 1) (.l 0) }, { o := .mv (.v 0) }, { o := .bs [.i 9, .i 3, .i 19] 1 }, { o := .ca N.made_Dice_Of 0 [] [.l 1, .l 0] }, { o := .bin .add (.i 1) (.l 0) }, { o := .fa (.v 7) 0 }, { o := .st (.l 0) (.l 10) 1 [] }, { o := .fa (.v 7) 1 }, { o := .st (.l 0) (.l 11) 1 [] }, { o := .fa (.v 7) 2 }, { o := .st (.l 0) (.l 9) 1 [] }, { o := .fa (.v 7) 3 }, { o := .st (.l 0) (.l 7) 1 [] }] []) (.reg [{ o := .fa (.v 2) 1 }, { o := .ld (.l 0) 1 false }, { o := .ld (.v 7) 10 true }, { o := .bs [.l 0] 10 }, { o := .app (.l 2) (.l 0) true 10 }, { o := .fa (.v 2) 1 }, { o := .st (.l 0) (.l 1) 1 [] }] [])))) (.reg [{ o := .mv (.v 6) }, { o := .bin .add (.l 0) (.i 1) }, { o := .mv (.l 0), d := some 6 }] [])))
def made_Dice_Mine_l2 : C := .loop true [4, 7, 8, 9] K.made_Dice_Mine_l2b
def made_Dice_Mine_l3b : C := (.seq (.ite [{ o := .mv (.v 8) }, { o := .bin .gtr (.l 0) (.i 0) }, { o := .mv (.l 0) }, { o := .fa (.v 2) 1, g := some (0, true) }, { o := .ld (.l 0) 1 false, g := some (1, true) }, { o := .ln (.l 0), g := some (2, true) }, { o := .bin .lss (.l 0) (.i 10), g := some (3, true) }, { o := .pk (.l 4) (.l 0) (.b false) }] [] 0 .skip (.exit 4)) (.seq (.blk 5 (.seq (.reg [{ o := .ld (.v 5) 10 true }, { o := .al [.t (.int .i64 (0)), .t (.int .i64 (0)), .t (.int .i64 (0)), .t (.int .i64 (0)), .t (.bool false), .t (.bool false), .t (.int .i64 (0)), .t (.int .i64 (0)), .t (.int .i64 (0)), .t (.int .i64 (0))] [], d := some 9 }, { o := .st (.l 0) (.l 1) 10 [] }] []) (.seq (.reg [{ o := .mv (.v 0) }, { o := .mv (.v 3) }, { o := .ca N.made_Dice_Next 0 [] [.l 1, .l 0] }, { o := .mv (.v 0) }, { o := .mv (.v 3) }, { o := .ca N.made_Dice_Next 0 [] [.l 1, .l 0] }, { o := .mv (.v 0) }, { o := .bs [.i 11, .i 59, .i 199] 1 }, { o := .ca N.made_Dice_Of 0 [] [.l 1, .l 0] }, { o := .bin .add (.i 1) (.l 0) }, { o := .mv (.v 0) }, { o := .bs [.i 9, .i 3] 1 }, { o := .ca N.made_Dice_Of 0 [] [.l 1, .l 0] }, { o := .bin .add (.i 1) (.l 0) }, { o := .fa (.v 9) 0 }, { o := .st (.l 0) (.l 12) 1 [] }, { o := .fa (.v 9) 1 }, { o := .st (.l 0) (.l 11) 1 [] }, { o := .fa (.v 9) 2 }, { o := .st (.l 0) (.l 9) 1 [] }, { o := .fa (.v 9) 3 }, { o := .st (.l 0) (.l 7) 1 [] }] []) (.seq (.reg [{ o := .mv (.v 0) }, { o := .ca N.made_Dice_Next 0 [] [.l 0, .i 5] }, { o := .bin .gtr (.l 0) (.i 0) }, { o := .mv (.v 0) }, { o := .ca N.made_Dice_One 0 [] [.l 0, .i 6] }, { o := .fa (.v 9) 4 }, { o := .st (.l 0) (.l 3) 1 [] }, { o := .fa (.v 9) 5 }, { o := .st (.l 0) (.l 3) 1 [] }] []) (.ite [{ o := .fa (.v 9) 0 }, { o := .ld (.l 0) 1 false }, { o := .fa (.v 9) 1 }, { o := .ld (.l 0) 1 false }, { o := .bin .neq (.l 2) (.l 0) }] [] 0 (.reg [{ o := .fa (.v 2) 1 }, { o := .ld (.l 0) 1 false }, { o := .ld (.v 9) 10 true }, { o := .bs [.l 0] 10 }, { o := .app (.l 2) (.l 0) true 10 }, { o := .fa (.v 2) 1 }, { o := .st (.l 0) (.l 1) 1 [] }] []) .skip))))) (.reg [{ o := .mv (.v 8) }, { o := .bin .sub (.l 0) (.i 1) }, { o := .mv (.l 0), d := some 8 }] [])))
def made_Dice_Mine_l3 : C := .loop true [4, 6, 7, 9] K.made_Dice_Mine_l3b
/-- (*/made.Dice).Mine -/
def made_Dice_Mine : Fn := { nargs := 1, vars := [0, 2, 3, 4, 5, 6, 7, 8, 9, 10], body := (.seq (.reg [{ o := .al [.nil, .nil] [], d := some 1 }] []) (.seq (.reg [{ o := .al [.nil, .nil] [(0, 2), (1, 10)], d := some 2 }] []) (.seq (.reg [{ o := .mv (.v 0) }, { o := .ca N.made_Dice_Next 0 [] [.l 0, .i 6] }, { o := .bin .add (.i 2) (.l 0) }, { o := .mv (.l 0), d := some 3 }] []) (.seq (.ite [{ o := .mv (.v 0) }, { o := .nc (.l 0) }, { o := .fa (.l 0) 0 }, { o := .ld (.l 0) 1 false }, { o := .ln (.l 0) }, { o := .bin .eql (.l 0) (.i 0) }] [] 0 (.reg [{ o := .mv (.i 4), d := some 3 }] []) .skip) (.seq (.seq (.reg [{ o := .mv (.i 0), d := some 4 }] []) (.blk 0 K.made_Dice_Mine_l1)) (.seq (.reg [{ o := .bd [.t (.int .i64 (0)), .t (.int .i64 (0))] [(0, 1, .i 1), (1, 1, .i 1)] }, { o := .bd [.t (.int .i64 (0)), .t (.int .i64 (0)), .t (.int .i64 (0)), .t (.int .i64 (0)), .t (.bool false), .t (.bool false), .t (.int .i64 (0)), .t (.int .i64 (0)), .t (.int .i64 (0)), .t (.int .i64 (0))] [(2, 1, .i 12), (3, 1, .i 10), (4, 1, .b true), (6, 2, .l 0)] }, { o := .al [.t (.int .i64 (0)), .t (.int .i64 (0)), .t (.int .i64 (0)), .t (.int .i64 (0)), .t (.bool false), .t (.bool false), .t (.int .i64 (0)), .t (.int .i64 (0)), .t (.int .i64 (0)), .t (.int .i64 (0))] [], d := some 5 }, { o := .st (.l 0) (.l 1) 10 [] }] []) (.seq (.seq (.reg [{ o := .mv (.i 1), d := some 6 }] []) (.blk 2 K.made_Dice_Mine_l2)) (.seq (.seq (.reg [{ o := .mv (.v 0) }, { o := .ca N.made_Dice_Next 0 [] [.l 0, .i 4] }, { o := .mv (.l 0), d := some 8 }] []) (.blk 4 K.made_Dice_Mine_l3)) (.seq (.reg [{ o := .ld (.v 2) 2 true }, { o := .st (.v 1) (.l 0) 2 [] }] []) .ret))))))))), res := [(1, some (2, true))] }
def law40_some_l1b : C := (.seq (.ite [{ o := .mv (.v 5) }, { o := .bin .gtr (.l 0) (.i 0) }] [] 0 .skip (.exit 0)) (.seq (.blk 1 (.seq (.reg [{ o := .al [.t (.int .i64 (0)), .t (.int .i64 (0)), .nil] [], d := some 6 }, { o := .mv (.v 0) }, { o := .ca N.made_Dice_Next 0 [] [.l 0, .i 2] }, { o := .bin .add (.i 1) (.l 0) }, { o := .mv (.v 0) }, { o := .ca N.made_Dice_Next 0 [] [.l 0, .i 5] }, { o := .mv (.v 0) }, { o := .fa (.v 2) 0 }, { o := .ld (.l 0) 1 false }, { o := .ln (.l 0) }, { o := .ca N.made_Dice_Some 0 [] [.l 3, .l 0] }, { o := .bd [.t (.int .i64 (0)), .t (.int .i64 (0)), .nil] [(0, 1, .l 7), (1, 1, .l 5), (2, 1, .l 0)] }, { o := .st (.l 11) (.l 0) 3 [] }] [(0, 3), (0, 6), (0, 11), (8, 1), (8, 3)]) (.seq (.ite [{ o := .fa (.v 6) 2 }, { o := .ld (.l 0) 1 false }, { o := .ln (.l 0) }, { o := .bin .eql (.l 0) (.i 0) }] [] 0 (.reg [{ o := .mv (.v 0) }, { o := .fa (.v 2) 0 }, { o := .ld (.l 0) 1 false }, { o := .ln (.l 0) }, { o := .ca N.made_Dice_Next 0 [] [.l 3, .l 0] }, { o := .bs [.l 0] 1 }, { o := .fa (.v 6) 2 }, { o := .st (.l 0) (.l 1) 1 [] }] []) .skip) (.reg [{ o := .mv (.v 4) }, { o := .ld (.v 6) 3 true }, { o := .bs [.l 0] 3 }, { o := .app (.l 2) (.l 0) true 3 }, { o := .mv (.l 0), d := some 4 }] [])))) (.reg [{ o := .mv (.v 5) }, { o := .bin .sub (.l 0) (.i 1) }, { o := .mv (.l 0), d := some 5 }] [])))
def law40_some_l1 : C := .loop true [1, 3, 6] K.law40_some_l1b
/-- /law40.some -/
def law40_some : Fn := { nargs := 2, vars := [0, 1, 3, 4, 5, 6, 7], body := (.seq (.reg [{ o := .bx (.v 1) 2, d := some 2 }, { o := .mv (.c (.nil)), d := some 3 }] []) (.seq (.reg [{ o := .nw 3, d := some 4 }] []) (.seq (.seq (.reg [{ o := .mv (.v 0) }, { o := .ca N.made_Dice_Next 0 [] [.l 0, .i 4] }, { o := .mv (.l 0), d := some 5 }] []) (.blk 0 K.law40_some_l1)) (.seq (.reg [{ o := .mv (.v 4) }, { o := .mv (.l 0), d := some 3 }] []) .ret)))), res := [(3, none)] }
/-- (*/made.Dice).Spread -/
def made_Dice_Spread : Fn := { nargs := 3, vars := [0, 1, 2, 4, 6, 7, 9, 10], body := (.seq (.reg [{ o := .bx (.v 1) 2, d := some 3 }, { o := .al [.t (.int .i64 (0)), .nil] [], d := some 4 }] []) (.seq (.reg [{ o := .al [.t (.int .i64 (0)), .nil] [], d := some 5 }, { o := .ld (.v 3) 2 true }, { o := .mv (.v 2) }, { o := .mv (.v 0) }, { o := .fa (.v 3) 0 }, { o := .ld (.l 0) 1 false }, { o := .ln (.l 0) }, { o := .ca N.made_Dice_Next 0 [] [.l 3, .l 0] }, { o := .bs [.l 0] 1 }, { o := .mv (.v 0) }, { o := .ca N.made_Dice_Next 0 [] [.l 0, .i 200] }, { o := .ca N.ref28_Start 0 [] [.l 9, .l 8, .l 2, .l 0] }, { o := .mv (.l 0) }, { o := .ex (.l 0) 0 }, { o := .ex (.l 1) 1 }, { o := .st (.l 14) (.l 1) 2 [] }, { o := .mv (.l 1) }] [(0, 8), (0, 11), (0, 12), (1, 8), (1, 11), (8, 11)]) (.seq (.ite [{ o := .mv (.v 0) }, { o := .ca N.made_Dice_One 0 [] [.l 0, .i 2] }] [] 0 (.seq (.reg [{ o := .al [.t (.int .i64 (0)), .nil] [], d := some 6 }, { o := .ld (.v 3) 2 true }, { o := .mv (.v 2) }, { o := .ld (.v 3) 2 true }, { o := .mv (.v 0) }, { o := .ld (.v 3) 2 true }, { o := .ca N.made_Dice_Flows 0 [] [.l 1, .l 0] }, { o := .ld (.v 5) 2 true }, { o := .fa (.v 5) 0 }, { o := .ld (.l 0) 1 false }, { o := .mv (.v 0) }, { o := .ca N.made_Dice_Next 0 [] [.l 0, .i 100] }, { o := .bin .add (.l 2) (.l 0) }, { o := .ca N.ref28_Change 0 [] [.l 11, .l 10, .l 9, .l 6, .l 5, .l 0] }, { o := .mv (.l 0) }, { o := .ex (.l 0) 0 }, { o := .ex (.l 1) 1 }, { o := .st (.l 16) (.l 1) 2 [] }, { o := .mv (.l 1), d := some 7 }] [(0, 7), (0, 12), (0, 14), (1, 7), (1, 12), (3, 7), (3, 12), (7, 1), (7, 12), (9, 1), (9, 12)]) (.ite [{ o := .mv (.v 7) }, { o := .bin .eql (.l 0) (.i 0) }] [] 0 (.seq (.reg [{ o := .ld (.v 6) 2 true }, { o := .st (.v 4) (.l 0) 2 [] }] []) .ret) .skip)) .skip) (.seq (.reg [{ o := .ld (.v 5) 2 true }, { o := .st (.v 4) (.l 0) 2 [] }] []) .ret)))), res := [(4, some (2, true))] }
def made_Dice_Flows_l1b : C := (.seq (.ite [{ o := .mv (.v 5) }, { o := .fa (.v 2) 1 }, { o := .ld (.l 0) 1 false }, { o := .ln (.l 0) }, { o := .bin .lss (.l 3) (.l 0) }] [] 0 .skip (.exit 0)) (.seq (.blk 1 (.seq (.reg [{ o := .mv (.v 0) }, { o := .bs [.i 0, .i 1000, .i 5000, .i 20000, .i (-5000), .i (-20000), .i 4999, .i 100] 1 }, { o := .ca N.made_Dice_Of 0 [] [.l 1, .l 0] }, { o := .mv (.l 0), d := some 6 }] []) (.seq (.reg [{ o := .mv (.v 4) }, { o := .mv (.v 6) }, { o := .mv (.v 0) }, { o := .bs [.i 0, .i 1, .i 1000, .i 6000] 1 }, { o := .ca N.made_Dice_Of 0 [] [.l 1, .l 0] }, { o := .bin .sub (.l 3) (.l 0) }, { o := .mv (.v 6) }, { o := .mv (.v 0) }, { o := .bs [.i 0, .i 1, .i 500] 1 }, { o := .ca N.made_Dice_Of 0 [] [.l 1, .l 0] }, { o := .bin .add (.l 3) (.l 0) }, { o := .bd [.t (.int .i64 (0)), .t (.int .i64 (0))] [(0, 1, .l 5), (1, 1, .l 0)] }, { o := .bs [.l 0] 2 }, { o := .app (.l 12) (.l 0) true 2 }, { o := .mv (.l 0), d := some 4 }] []) (.ite [{ o := .mv (.v 0) }, { o := .ca N.made_Dice_One 0 [] [.l 0, .i 9] }] [] 0 (.reg [{ o := .mv (.v 4) }, { o := .mv (.v 5) }, { o := .bd [.t (.int .i64 (0)), .t (.int .i64 (0))] [(0, 1, .i (-1125899906842624)), (1, 1, .i 1125899906842624)] }, { o := .ia (.l 2) (.l 1) 2 }, { o := .st (.l 0) (.l 1) 2 [] }] []) .skip)))) (.reg [{ o := .mv (.v 5) }, { o := .bin .add (.l 0) (.i 1) }, { o := .mv (.l 0), d := some 5 }] [])))
def made_Dice_Flows_l1 : C := .loop true [1, 3, 6] K.made_Dice_Flows_l1b
/-- (*/made.Dice).Flows -/
def made_Dice_Flows : Fn := { nargs := 2, vars := [0, 1, 3, 4, 5, 6, 7], body := (.seq (.reg [{ o := .bx (.v 1) 2, d := some 2 }, { o := .mv (.c (.nil)), d := some 3 }] []) (.seq (.reg [{ o := .nw 2, d := some 4 }] []) (.seq (.seq (.reg [{ o := .mv (.i 0), d := some 5 }] []) (.blk 0 K.made_Dice_Flows_l1)) (.seq (.reg [{ o := .mv (.v 4) }, { o := .mv (.l 0), d := some 3 }] []) .ret)))), res := [(3, none)] }
def made_Dice_Belief_l1b : C := (.seq (.ite [{ o := .mv (.v 7) }, { o := .mv (.v 4) }, { o := .bin .lss (.l 1) (.l 0) }] [] 0 .skip (.exit 0)) (.seq (.blk 1 (.reg [{ o := .mv (.v 5) }, { o := .mv (.v 7) }, { o := .bin .mul (.l 0) (.i 2) }, { o := .bin .add (.i 3) (.l 0) }, { o := .bs [.l 0] 1 }, { o := .app (.l 4) (.l 0) true 1 }, { o := .mv (.v 6) }, { o := .mv (.v 0) }, { o := .fa (.v 2) 0 }, { o := .ld (.l 0) 1 false }, { o := .ln (.l 0) }, { o := .ca N.made_Dice_Next 0 [] [.l 3, .l 0] }, { o := .bs [.l 0] 1 }, { o := .app (.l 6) (.l 0) true 1 }, { o := .mv (.l 8), d := some 5 }, { o := .mv (.l 1), d := some 6 }] [(9, 0), (9, 5)])) (.reg [{ o := .mv (.v 7) }, { o := .bin .add (.l 0) (.i 1) }, { o := .mv (.l 0), d := some 7 }] [])))
def made_Dice_Belief_l1 : C := .loop true [1, 8, 9, 10, 11, 12, 13, 14, 15, 16, 17] K.made_Dice_Belief_l1b
def made_Dice_Belief_l2b : C := (.seq (.ite [{ o := .mv (.v 10) }, { o := .bin .gtr (.l 0) (.i 0) }] [] 0 .skip (.exit 2)) (.seq (.blk 3 (.seq (.reg [{ o := .mv (.v 9) }, { o := .mv (.v 0) }, { o := .ca N.made_Dice_Next 0 [] [.l 0, .i 60] }, { o := .bin .add (.l 2) (.l 0) }, { o := .mv (.l 0), d := some 9 }] []) (.seq (.reg [{ o := .mv (.v 0) }, { o := .ca N.made_Dice_Next 0 [] [.l 0, .i 3], d := some 17 }] []) (.blk 4 (.ite [{ o := .bin .eql (.v 17) (.i 0) }, { o := .mv (.l 0) }] [] 0 (.seq (.reg [{ o := .al [.nil] [], d := some 11 }, { o := .ld (.v 2) 2 true }, { o := .ld (.v 8) 1 true }, { o := .mv (.v 0) }, { o := .mv (.v 4) }, { o := .ca N.made_Dice_Next 0 [] [.l 1, .l 0] }, { o := .mv (.v 0) }, { o := .mv (.v 4) }, { o := .ca N.made_Dice_Next 0 [] [.l 1, .l 0] }, { o := .mv (.v 9) }, { o := .ca N.ref26_Exchange 0 [] [.l 8, .l 7, .l 4, .l 1, .l 0] }, { o := .mv (.l 0) }, { o := .ex (.l 0) 0 }, { o := .ex (.l 1) 1 }, { o := .st (.l 13) (.l 1) 1 [] }, { o := .mv (.l 1), d := some 12 }] [(0, 6), (0, 9), (0, 11), (1, 6), (1, 9), (2, 6), (2, 9)]) (.ite [{ o := .mv (.v 12) }, { o := .bin .eql (.l 0) (.i 0) }] [] 0 (.reg [{ o := .ld (.v 11) 1 true }, { o := .st (.v 8) (.l 0) 1 [] }] []) .skip)) (.ite [{ o := .bin .eql (.v 17) (.i 1) }, { o := .mv (.l 0) }] [] 0 (.seq (.reg [{ o := .al [.nil] [], d := some 13 }, { o := .ld (.v 2) 2 true }, { o := .ld (.v 8) 1 true }, { o := .mv (.v 0) }, { o := .mv (.v 4) }, { o := .ca N.made_Dice_Next 0 [] [.l 1, .l 0] }, { o := .bin .mul (.i 2) (.l 0) }, { o := .bin .add (.i 3) (.l 0) }, { o := .mv (.v 0) }, { o := .fa (.v 2) 0 }, { o := .ld (.l 0) 1 false }, { o := .ln (.l 0) }, { o := .ca N.made_Dice_Some 0 [] [.l 3, .l 0] }, { o := .mv (.v 9) }, { o := .mv (.v 9) }, { o := .mv (.v 0) }, { o := .ca N.made_Dice_Next 0 [] [.l 0, .i 9] }, { o := .bin .add (.l 2) (.l 0) }, { o := .ca N.ref26_See 0 [] [.l 16, .l 15, .l 10, .l 5, .l 4, .l 0] }, { o := .mv (.l 0) }, { o := .ex (.l 0) 0 }, { o := .ex (.l 1) 1 }, { o := .st (.l 21) (.l 1) 1 [] }, { o := .mv (.l 1), d := some 14 }] [(0, 6), (0, 13), (0, 17), (0, 19), (1, 6), (1, 13), (1, 17), (2, 6), (2, 13), (2, 17), (10, 1)]) (.ite [{ o := .mv (.v 14) }, { o := .bin .eql (.l 0) (.i 0) }] [] 0 (.reg [{ o := .ld (.v 13) 1 true }, { o := .st (.v 8) (.l 0) 1 [] }] []) .skip)) (.seq (.reg [{ o := .al [.nil] [], d := some 15 }, { o := .ld (.v 2) 2 true }, { o := .ld (.v 8) 1 true }, { o := .mv (.v 0) }, { o := .mv (.v 4) }, { o := .ca N.made_Dice_Next 0 [] [.l 1, .l 0] }, { o := .bin .mul (.i 2) (.l 0) }, { o := .bin .add (.i 3) (.l 0) }, { o := .mv (.v 0) }, { o := .fa (.v 2) 0 }, { o := .ld (.l 0) 1 false }, { o := .ln (.l 0) }, { o := .ca N.made_Dice_Some 0 [] [.l 3, .l 0] }, { o := .mv (.v 9) }, { o := .mv (.v 9) }, { o := .bin .add (.l 0) (.i 50) }, { o := .mv (.v 0) }, { o := .ca N.made_Dice_Next 0 [] [.l 0, .i 40] }, { o := .ca N.ref26_Absent 0 [3] [.l 16, .l 15, .l 10, .l 5, .l 4, .l 2, .l 0] }, { o := .mv (.l 0) }, { o := .ex (.l 0) 0 }, { o := .ex (.l 1) 1 }, { o := .st (.l 21) (.l 1) 1 [] }, { o := .mv (.l 1), d := some 16 }] [(0, 6), (0, 13), (0, 18), (0, 19), (1, 6), (1, 13), (1, 18), (2, 6), (2, 13), (2, 18), (10, 1)]) (.ite [{ o := .mv (.v 16) }, { o := .bin .eql (.l 0) (.i 0) }] [] 0 (.reg [{ o := .ld (.v 15) 1 true }, { o := .st (.v 8) (.l 0) 1 [] }] []) .skip)))))))) (.reg [{ o := .mv (.v 10) }, { o := .bin .sub (.l 0) (.i 1) }, { o := .mv (.l 0), d := some 10 }] [])))
def made_Dice_Belief_l2 : C := .loop true [1, 5, 6, 7, 11, 12, 13, 14, 15, 16, 17] K.made_Dice_Belief_l2b
/-- (*/made.Dice).Belief -/
def made_Dice_Belief : Fn := { nargs := 2, vars := [0, 1, 3, 4, 5, 6, 7, 8, 9, 11, 12, 13, 14, 15, 16, 17, 18, 61], body := (.seq (.reg [{ o := .bx (.v 1) 2, d := some 2 }, { o := .al [.nil] [], d := some 3 }] []) (.seq (.reg [{ o := .mv (.v 0) }, { o := .ca N.made_Dice_Next 0 [] [.l 0, .i 3] }, { o := .bin .add (.i 1) (.l 0) }, { o := .mv (.l 0), d := some 4 }] []) (.seq (.reg [{ o := .nw 1, d := some 5 }, { o := .nw 1, d := some 6 }] []) (.seq (.seq (.reg [{ o := .mv (.i 0), d := some 7 }] []) (.blk 0 K.made_Dice_Belief_l1)) (.seq (.reg [{ o := .al [.nil] [], d := some 8 }, { o := .ld (.v 2) 2 true }, { o := .mv (.v 5) }, { o := .mv (.v 6) }, { o := .mv (.v 0) }, { o := .ca N.made_Dice_Next 0 [] [.l 0, .i 100] }, { o := .ca N.ref26_Start 0 [] [.l 4, .l 3, .l 2, .l 0] }, { o := .mv (.l 0) }, { o := .ex (.l 0) 0 }, { o := .ex (.l 1) 1 }, { o := .st (.l 9) (.l 1) 1 [] }, { o := .mv (.l 1) }] [(0, 6), (0, 7), (1, 6)]) (.seq (.reg [{ o := .mv (.i 100), d := some 9 }] []) (.seq (.seq (.reg [{ o := .mv (.v 0) }, { o := .ca N.made_Dice_Next 0 [] [.l 0, .i 5] }, { o := .mv (.l 0), d := some 10 }] []) (.blk 2 K.made_Dice_Belief_l2)) (.seq (.reg [{ o := .ld (.v 8) 1 true }, { o := .st (.v 3) (.l 0) 1 [] }] []) .ret)))))))), res := [(3, some (1, true))] }
/-- (*/made.Dice).Next -/
def made_Dice_Next : Fn := { nargs := 2, vars := [0, 1, 4], body := (.seq (.reg [{ o := .mv (.i 0), d := some 2 }] []) (.seq (.ite [{ o := .mv (.v 0) }, { o := .nc (.l 0) }, { o := .fa (.l 0) 1 }, { o := .ld (.l 0) 1 false }, { o := .mv (.v 0) }, { o := .nc (.l 0) }, { o := .fa (.l 0) 0 }, { o := .ld (.l 0) 1 false }, { o := .ln (.l 0) }, { o := .bin .geq (.l 5) (.l 0) }] [] 0 (.seq (.reg [{ o := .mv (.i 0), d := some 2 }] []) .ret) .skip) (.seq (.reg [{ o := .mv (.v 0) }, { o := .nc (.l 0) }, { o := .fa (.l 0) 1 }, { o := .ld (.l 0) 1 false }, { o := .bin .add (.l 0) (.i 1) }, { o := .nc (.l 4) }, { o := .fa (.l 0) 1 }, { o := .st (.l 0) (.l 2) 1 [] }] []) (.seq (.reg [{ o := .mv (.v 0) }, { o := .nc (.l 0) }, { o := .fa (.l 0) 0 }, { o := .ld (.l 0) 1 false }, { o := .mv (.v 0) }, { o := .nc (.l 0) }, { o := .fa (.l 0) 1 }, { o := .ld (.l 0) 1 false }, { o := .bin .sub (.l 0) (.i 1) }, { o := .ia (.l 5) (.l 0) 1 }, { o := .ld (.l 0) 1 false }, { o := .mv (.v 1) }, { o := .ca N.made_Mod 0 [] [.l 1, .l 0] }, { o := .mv (.l 0), d := some 2 }] []) .ret)))), res := [(2, none)] }
/-- (*/made.Dice).Of -/
def made_Dice_Of : Fn := { nargs := 2, vars := [0, 1, 4], body := (.seq (.reg [{ o := .mv (.i 0), d := some 2 }] []) (.seq (.reg [{ o := .mv (.v 1) }, { o := .mv (.v 0) }, { o := .mv (.v 1) }, { o := .ln (.l 0) }, { o := .ca N.made_Dice_Next 0 [] [.l 2, .l 0] }, { o := .ia (.l 4) (.l 0) 1 }, { o := .ld (.l 0) 1 false }, { o := .mv (.l 0), d := some 2 }] []) .ret)), res := [(2, none)] }
/-- /firerules.Command -/
def firerules_Command : Fn := { nargs := 6, vars := [0, 1, 2, 3, 4, 5, 7, 8, 9, 12, 13], body := (.seq (.reg [{ o := .bx (.v 0) 2 }, { o := .bx (.v 1) 3, d := some 6 }, { o := .bx (.v 2) 2, d := some 7 }, { o := .bx (.v 3) 1, d := some 8 }, { o := .mv (.i 0), d := some 9 }] []) (.seq (.reg [{ o := .ld (.v 7) 2 true }, { o := .mv (.v 4) }, { o := .mv (.v 5) }, { o := .bin .add (.l 1) (.l 0) }, { o := .ca N.smoke_Filled 0 [] [.l 3, .l 0] }, { o := .mv (.l 0), d := some 10 }] []) (.seq (.blk 0 (.ite [{ o := .ld (.v 7) 2 true }, { o := .mv (.v 4) }, { o := .ca N.smoke_Filled 0 [] [.l 1, .l 0] }, { o := .fa (.v 6) 2 }, { o := .ld (.l 0) 1 false }, { o := .ca N.firerules_meets 0 [] [.l 2, .l 0] }, { o := .mv (.l 0) }] [(4, 0)] 0 (.seq (.reg [{ o := .mv (.i 2), d := some 9 }] []) .ret) (.ite [{ o := .mv (.v 10) }, { o := .fa (.v 6) 2 }, { o := .ld (.l 0) 1 false }, { o := .ca N.firerules_meets 0 [] [.l 2, .l 0] }, { o := .mv (.l 0) }] [] 0 (.seq (.reg [{ o := .mv (.i 1), d := some 9 }] []) .ret) (.ite [{ o := .fa (.v 6) 0 }, { o := .ld (.l 0) 1 false }, { o := .bin .eql (.l 0) (.i 2) }, { o := .mv (.l 0) }, { o := .mv (.v 10), g := some (0, true) }, { o := .ln (.l 0), g := some (1, true) }, { o := .bin .gtr (.l 0) (.i 0), g := some (2, true) }, { o := .pk (.l 3) (.l 0) (.b false) }, { o := .mv (.l 0) }, { o := .ld (.v 6) 3 true, g := some (0, true) }, { o := .ld (.v 8) 1 true, g := some (1, true) }, { o := .mv (.v 4), g := some (2, true) }, { o := .mv (.v 5), g := some (3, true) }, { o := .bin .add (.l 1) (.l 0), g := some (4, true) }, { o := .ca N.firerules_near 0 [] [.l 4, .l 3, .l 0], g := some (5, true) }, { o := .ln (.l 0), g := some (6, true) }, { o := .bin .gtr (.l 0) (.i 0), g := some (7, true) }, { o := .pk (.l 8) (.l 0) (.b false) }, { o := .mv (.l 0) }] [] 0 (.seq (.reg [{ o := .mv (.i 3), d := some 9 }] []) .ret) .skip)))) (.seq (.reg [{ o := .mv (.i 0), d := some 9 }] []) .ret)))), res := [(9, none)] }
def ref23_Has_l1b : C := (.seq (.ite [{ o := .mv (.v 3) }, { o := .mv (.v 0) }, { o := .ln (.l 0) }, { o := .bin .lss (.l 2) (.l 0) }] [] 0 .skip (.exit 0)) (.seq (.blk 1 (.ite [{ o := .mv (.v 0) }, { o := .mv (.v 3) }, { o := .ia (.l 1) (.l 0) 1 }, { o := .ld (.l 0) 1 false }, { o := .mv (.v 1) }, { o := .bin .eql (.l 1) (.l 0) }] [] 0 (.seq (.reg [{ o := .mv (.b true), d := some 2 }] []) .ret) .skip)) (.reg [{ o := .mv (.v 3) }, { o := .bin .add (.l 0) (.i 1) }, { o := .mv (.l 0), d := some 3 }] [])))
def ref23_Has_l1 : C := .loop true [2] K.ref23_Has_l1b
/-- /ref23.Has -/
def ref23_Has : Fn := { nargs := 2, vars := [0, 1, 4, 5], body := (.seq (.reg [{ o := .mv (.b false), d := some 2 }] []) (.seq (.seq (.reg [{ o := .mv (.i 0), d := some 3 }] []) (.blk 0 K.ref23_Has_l1)) (.seq (.reg [{ o := .mv (.b false), d := some 2 }] []) .ret))), res := [(2, none)] }
def ref26_Possible_l2b : C := (.seq (.ite [{ o := .mv (.v 7) }, { o := .fa (.v 3) 0 }, { o := .ld (.l 0) 1 false }, { o := .ln (.l 0) }, { o := .bin .lss (.l 3) (.l 0) }] [] 0 .skip (.exit 2)) (.seq (.blk 3 (.ite [{ o := .mv (.v 1) }, { o := .bin .geq (.l 0) (.i 0) }, { o := .mv (.l 0) }, { o := .mv (.v 1), g := some (0, true) }, { o := .fa (.v 3) 0, g := some (1, true) }, { o := .ld (.l 0) 1 false, g := some (2, true) }, { o := .mv (.v 7), g := some (3, true) }, { o := .ia (.l 1) (.l 0) 2, g := some (4, true) }, { o := .fa (.l 0) 1, g := some (5, true) }, { o := .ld (.l 0) 1 false, g := some (6, true) }, { o := .ln (.l 0), g := some (7, true) }, { o := .bin .lss (.l 7) (.l 0), g := some (8, true) }, { o := .pk (.l 9) (.l 0) (.b false) }, { o := .mv (.l 0) }, { o := .fa (.v 3) 0, g := some (0, true) }, { o := .ld (.l 0) 1 false, g := some (1, true) }, { o := .mv (.v 7), g := some (2, true) }, { o := .ia (.l 1) (.l 0) 2, g := some (3, true) }, { o := .fa (.l 0) 1, g := some (4, true) }, { o := .ld (.l 0) 1 false, g := some (5, true) }, { o := .mv (.v 1), g := some (6, true) }, { o := .ia (.l 1) (.l 0) 2, g := some (7, true) }, { o := .ld (.l 0) 2 true, g := some (8, true) }, { o := .mv (.v 2), g := some (9, true) }, { o := .ca N.ref25_Possible 0 [] [.l 1, .l 0], g := some (10, true) }, { o := .mv (.v 6), g := some (11, true) }, { o := .ca N.ref23_Has 0 [] [.l 1, .l 0], g := some (12, true) }, { o := .pk (.l 13) (.l 0) (.b false) }] [] 0 (.seq (.reg [{ o := .mv (.v 5) }, { o := .mv (.v 6) }, { o := .bs [.l 0] 1 }, { o := .app (.l 2) (.l 0) true 1 }, { o := .mv (.l 0), d := some 5 }] []) (.exit 2)) .skip)) (.reg [{ o := .mv (.v 7) }, { o := .bin .add (.l 0) (.i 1) }, { o := .mv (.l 0), d := some 7 }] [])))
def ref26_Possible_l2 : C := .loop true [0, 4] K.ref26_Possible_l2b
def ref26_Possible_l1b : C := (.seq (.ite [{ o := .mv (.v 6) }, { o := .bin .lss (.l 0) (.i 64) }] [] 0 .skip (.exit 0)) (.seq (.blk 1 (.seq (.reg [{ o := .mv (.i 0), d := some 7 }] []) (.blk 2 K.ref26_Possible_l2))) (.reg [{ o := .mv (.v 6) }, { o := .bin .add (.l 0) (.i 1) }, { o := .mv (.l 0), d := some 6 }] [])))
def ref26_Possible_l1 : C := .loop true [0, 4, 7] K.ref26_Possible_l1b
/-- /ref26.Possible -/
def ref26_Possible : Fn := { nargs := 3, vars := [0, 1, 2, 3, 6, 7, 8, 9], body := (.seq (.reg [{ o := .bx (.v 0) 1, d := some 3 }, { o := .mv (.c (.nil)), d := some 4 }] []) (.seq (.reg [{ o := .nw 1, d := some 5 }] []) (.seq (.seq (.reg [{ o := .mv (.i 0), d := some 6 }] []) (.blk 0 K.ref26_Possible_l1)) (.seq (.reg [{ o := .mv (.v 5) }, { o := .mv (.l 0), d := some 4 }] []) .ret)))), res := [(4, none)] }
/-- /firerules.Drawn -/
def firerules_Drawn : Fn := { nargs := 6, vars := [0, 1, 2, 3, 4, 5, 6, 7, 8, 9, 12, 13], body := (.seq (.reg [{ o := .bx (.v 0) 2, d := some 6 }, { o := .bx (.v 1) 3, d := some 7 }, { o := .bx (.v 2) 2, d := some 8 }, { o := .bx (.v 3) 1, d := some 9 }, { o := .mv (.c (.nil)), d := some 10 }] []) (.seq (.seq (.reg [{ o := .ld (.v 6) 2 true }, { o := .ld (.v 7) 3 true }, { o := .ld (.v 8) 2 true }, { o := .ld (.v 9) 1 true }, { o := .mv (.v 4) }, { o := .mv (.v 5) }, { o := .ca N.firerules_Command 0 [] [.l 5, .l 4, .l 3, .l 2, .l 1, .l 0] }, { o := .mv (.l 0), d := some 11 }] []) (.ite [{ o := .mv (.v 11) }, { o := .bin .neq (.l 0) (.i 2) }, { o := .mv (.l 0) }, { o := .mv (.v 11), g := some (0, true) }, { o := .bin .neq (.l 0) (.i 1), g := some (1, true) }, { o := .pk (.l 2) (.l 0) (.b false) }] [] 0 (.seq (.reg [{ o := .mv (.c (.nil)), d := some 10 }] []) .ret) .skip)) (.seq (.reg [{ o := .ld (.v 7) 3 true }, { o := .ld (.v 9) 1 true }, { o := .mv (.v 4) }, { o := .mv (.v 5) }, { o := .bin .add (.l 1) (.l 0) }, { o := .ca N.firerules_near 0 [] [.l 4, .l 3, .l 0] }, { o := .mv (.l 0), d := some 10 }] []) .ret))), res := [(10, none)] }
/-- (*/made.Dice).One -/
def made_Dice_One : Fn := { nargs := 2, vars := [0, 1, 4], body := (.seq (.reg [{ o := .mv (.b false), d := some 2 }] []) (.seq (.reg [{ o := .mv (.v 0) }, { o := .mv (.v 1) }, { o := .ca N.made_Dice_Next 0 [] [.l 1, .l 0] }, { o := .mv (.v 1) }, { o := .bin .sub (.l 0) (.i 1) }, { o := .bin .eql (.l 2) (.l 0) }, { o := .mv (.l 0), d := some 2 }] []) .ret)), res := [(2, none)] }
def made_Dice_Some_l1b : C := (.seq (.ite [{ o := .mv (.v 4) }, { o := .mv (.v 1) }, { o := .bin .lss (.l 1) (.l 0) }] [] 0 .skip (.exit 0)) (.seq (.blk 1 (.ite [{ o := .mv (.v 0) }, { o := .ca N.made_Dice_Next 0 [] [.l 0, .i 3] }, { o := .bin .eql (.l 0) (.i 0) }] [] 0 (.reg [{ o := .mv (.v 3) }, { o := .mv (.v 4) }, { o := .bs [.l 0] 1 }, { o := .app (.l 2) (.l 0) true 1 }, { o := .mv (.l 0), d := some 3 }] []) .skip)) (.reg [{ o := .mv (.v 4) }, { o := .bin .add (.l 0) (.i 1) }, { o := .mv (.l 0), d := some 4 }] [])))
def made_Dice_Some_l1 : C := .loop true [2] K.made_Dice_Some_l1b
/-- (*/made.Dice).Some -/
def made_Dice_Some : Fn := { nargs := 2, vars := [0, 1, 4, 5, 6], body := (.seq (.reg [{ o := .mv (.c (.nil)), d := some 2 }] []) (.seq (.reg [{ o := .nw 1, d := some 3 }] []) (.seq (.seq (.reg [{ o := .mv (.i 0), d := some 4 }] []) (.blk 0 K.made_Dice_Some_l1)) (.seq (.reg [{ o := .mv (.v 3) }, { o := .mv (.l 0), d := some 2 }] []) .ret)))), res := [(2, none)] }
def ref28_Start_l1b : C := (.seq (.ite [{ o := .mv (.v 8) }, { o := .fa (.v 4) 0 }, { o := .ld (.l 0) 1 false }, { o := .ln (.l 0) }, { o := .bin .lss (.l 3) (.l 0) }] [] 0 .skip (.exit 1)) (.seq (.blk 2 (.ite [{ o := .mv (.v 2) }, { o := .mv (.v 8) }, { o := .ca N.ref23_Has 0 [] [.l 1, .l 0] }] [] 0 (.reg [{ o := .mv (.v 7) }, { o := .mv (.v 3) }, { o := .bs [.l 0] 1 }, { o := .app (.l 2) (.l 0) true 1 }, { o := .mv (.l 0), d := some 7 }] []) (.reg [{ o := .mv (.v 7) }, { o := .bs [.i 1099511627776] 1 }, { o := .app (.l 1) (.l 0) true 1 }, { o := .mv (.l 0), d := some 7 }] []))) (.reg [{ o := .mv (.v 8) }, { o := .bin .add (.l 0) (.i 1) }, { o := .mv (.l 0), d := some 8 }] [])))
def ref28_Start_l1 : C := .loop true [0, 6] K.ref28_Start_l1b
/-- /ref28.Start -/
def ref28_Start : Fn := { nargs := 4, vars := [0, 1, 2, 3, 4, 8, 9, 10, 11], body := (.seq (.reg [{ o := .bx (.v 0) 2, d := some 4 }, { o := .al [.t (.int .i64 (0)), .nil] [], d := some 5 }, { o := .mv (.i 0), d := some 6 }] []) (.seq (.blk 0 (.ite [{ o := .ld (.v 4) 2 true }, { o := .ca N.ref01_Check 0 [] [.l 0] }, { o := .bin .neq (.l 0) (.i 0) }, { o := .mv (.l 0) }, { o := .ld (.v 4) 2 true, g := some (0, false) }, { o := .mv (.v 1), g := some (1, false) }, { o := .ca N.ref28_Flows 0 [] [.l 1, .l 0], g := some (2, false) }, { o := .un .not (.l 0), g := some (3, false) }, { o := .pk (.l 4) (.b true) (.l 0) }, { o := .mv (.l 0) }] [] 0 (.seq (.reg [{ o := .bd [.t (.int .i64 (0)), .nil] [] }, { o := .st (.v 5) (.l 0) 2 [] }, { o := .mv (.i 6), d := some 6 }] []) .ret) (.ite [{ o := .mv (.v 2) }, { o := .fa (.v 4) 0 }, { o := .ld (.l 0) 1 false }, { o := .ln (.l 0) }, { o := .ca N.ref23_Set 0 [] [.l 3, .l 0] }, { o := .un .not (.l 0) }, { o := .mv (.l 0) }] [] 0 (.seq (.reg [{ o := .bd [.t (.int .i64 (0)), .nil] [] }, { o := .st (.v 5) (.l 0) 2 [] }, { o := .mv (.i 3), d := some 6 }] []) .ret) (.ite [{ o := .mv (.v 3) }, { o := .bin .lss (.l 0) (.i 0) }, { o := .mv (.l 0) }, { o := .mv (.v 3), g := some (0, false) }, { o := .bin .gtr (.l 0) (.i 2147483648), g := some (1, false) }, { o := .pk (.l 2) (.b true) (.l 0) }, { o := .mv (.l 0) }] [] 0 (.seq (.reg [{ o := .bd [.t (.int .i64 (0)), .nil] [] }, { o := .st (.v 5) (.l 0) 2 [] }, { o := .mv (.i 8), d := some 6 }] []) .ret) .skip)))) (.seq (.reg [{ o := .nw 1, d := some 7 }] []) (.seq (.seq (.reg [{ o := .mv (.i 0), d := some 8 }] []) (.blk 1 K.ref28_Start_l1)) (.seq (.reg [{ o := .mv (.v 3) }, { o := .ld (.v 4) 2 true }, { o := .mv (.v 1) }, { o := .mv (.v 7) }, { o := .ca N.ref28_Close 0 [] [.l 2, .l 1, .l 0] }, { o := .bd [.t (.int .i64 (0)), .nil] [(0, 1, .l 4), (1, 1, .l 0)] }, { o := .st (.v 5) (.l 0) 2 [] }, { o := .mv (.i 0), d := some 6 }] []) .ret))))), res := [(5, some (2, true)), (6, none)] }
def ref28_Change_l1b : C := (.seq (.ite [{ o := .mv (.v 12) }, { o := .fa (.v 6) 1 }, { o := .ld (.l 0) 1 false }, { o := .ln (.l 0) }, { o := .bin .lss (.l 3) (.l 0) }] [] 0 .skip (.exit 0)) (.seq (.blk 1 (.seq (.reg [{ o := .fa (.v 6) 1 }, { o := .ld (.l 0) 1 false }, { o := .mv (.v 12) }, { o := .ia (.l 1) (.l 0) 10 }, { o := .ld (.l 0) 10 true }, { o := .al [.t (.int .i64 (0)), .t (.int .i64 (0)), .t (.int .i64 (0)), .t (.int .i64 (0)), .t (.bool false), .t (.bool false), .t (.int .i64 (0)), .t (.int .i64 (0)), .t (.int .i64 (0)), .t (.int .i64 (0))] [], d := some 13 }, { o := .st (.l 0) (.l 1) 10 [] }] []) (.seq (.ite [{ o := .fa (.v 8) 1 }, { o := .ld (.l 0) 1 false }, { o := .fa (.v 13) 0 }, { o := .ld (.l 0) 1 false }, { o := .ia (.l 2) (.l 0) 1 }, { o := .ld (.l 0) 1 false }, { o := .mv (.v 5) }, { o := .bin .leq (.l 1) (.l 0) }, { o := .mv (.l 0) }, { o := .ld (.v 6) 2 true, g := some (0, true) }, { o := .mv (.v 12), g := some (1, true) }, { o := .mv (.v 1), g := some (2, true) }, { o := .mv (.v 12), g := some (3, true) }, { o := .ia (.l 1) (.l 0) 2, g := some (4, true) }, { o := .ld (.l 0) 2 true, g := some (5, true) }, { o := .ca N.ref28_Travel 0 [] [.l 5, .l 4, .l 0, .b false], g := some (6, true) }, { o := .bin .geq (.l 0) (.i 0), g := some (7, true) }, { o := .pk (.l 8) (.l 0) (.b false) }] [] 0 (.reg [{ o := .mv (.v 11) }, { o := .fa (.v 13) 1 }, { o := .ld (.l 0) 1 false }, { o := .mv (.v 11) }, { o := .fa (.v 13) 1 }, { o := .ld (.l 0) 1 false }, { o := .ia (.l 2) (.l 0) 1 }, { o := .ld (.l 0) 1 false }, { o := .mv (.v 5) }, { o := .mn [.l 1, .l 0] }, { o := .ia (.l 9) (.l 7) 1 }, { o := .st (.l 0) (.l 1) 1 [] }] []) .skip) (.ite [{ o := .fa (.v 8) 1 }, { o := .ld (.l 0) 1 false }, { o := .fa (.v 13) 1 }, { o := .ld (.l 0) 1 false }, { o := .ia (.l 2) (.l 0) 1 }, { o := .ld (.l 0) 1 false }, { o := .mv (.v 5) }, { o := .bin .leq (.l 1) (.l 0) }, { o := .mv (.l 0) }, { o := .ld (.v 6) 2 true, g := some (0, true) }, { o := .mv (.v 12), g := some (1, true) }, { o := .mv (.v 1), g := some (2, true) }, { o := .mv (.v 12), g := some (3, true) }, { o := .ia (.l 1) (.l 0) 2, g := some (4, true) }, { o := .ld (.l 0) 2 true, g := some (5, true) }, { o := .ca N.ref28_Travel 0 [] [.l 5, .l 4, .l 0, .b true], g := some (6, true) }, { o := .bin .geq (.l 0) (.i 0), g := some (7, true) }, { o := .pk (.l 8) (.l 0) (.b false) }] [] 0 (.reg [{ o := .mv (.v 11) }, { o := .fa (.v 13) 0 }, { o := .ld (.l 0) 1 false }, { o := .mv (.v 11) }, { o := .fa (.v 13) 0 }, { o := .ld (.l 0) 1 false }, { o := .ia (.l 2) (.l 0) 1 }, { o := .ld (.l 0) 1 false }, { o := .mv (.v 5) }, { o := .mn [.l 1, .l 0] }, { o := .ia (.l 9) (.l 7) 1 }, { o := .st (.l 0) (.l 1) 1 [] }] []) .skip)))) (.reg [{ o := .mv (.v 12) }, { o := .bin .add (.l 0) (.i 1) }, { o := .mv (.l 0), d := some 12 }] [])))
def ref28_Change_l1 : C := .loop true [0, 2, 4, 10, 13, 14] K.ref28_Change_l1b
def ref28_Change_l2b : C := (.seq (.ite [{ o := .mv (.v 14) }, { o := .mv (.v 11) }, { o := .ln (.l 0) }, { o := .bin .lss (.l 2) (.l 0) }] [] 0 .skip (.exit 2)) (.seq (.blk 3 (.reg [{ o := .mv (.v 11) }, { o := .mv (.v 14) }, { o := .mv (.v 11) }, { o := .mv (.v 14) }, { o := .ia (.l 1) (.l 0) 1 }, { o := .ld (.l 0) 1 false }, { o := .mv (.v 5) }, { o := .mx [.l 1, .l 0] }, { o := .ia (.l 7) (.l 6) 1 }, { o := .st (.l 0) (.l 1) 1 [] }] [])) (.reg [{ o := .mv (.v 14) }, { o := .bin .add (.l 0) (.i 1) }, { o := .mv (.l 0), d := some 14 }] [])))
def ref28_Change_l2 : C := .loop true [0, 1, 2, 4, 6, 8, 10, 12, 13] K.ref28_Change_l2b
/-- /ref28.Change -/
def ref28_Change : Fn := { nargs := 6, vars := [0, 1, 2, 3, 4, 5, 6, 8, 10, 12, 13, 14, 15, 16, 17], body := (.seq (.reg [{ o := .bx (.v 0) 2, d := some 6 }, { o := .bx (.v 2) 2, d := some 7 }, { o := .bx (.v 4) 2, d := some 8 }, { o := .al [.t (.int .i64 (0)), .nil] [], d := some 9 }, { o := .mv (.i 0), d := some 10 }] []) (.seq (.reg [{ o := .ld (.v 8) 2 true }, { o := .ca N.ref28_Copy 0 [] [.l 0] }, { o := .st (.v 8) (.l 0) 2 [] }] []) (.seq (.ite [{ o := .ld (.v 6) 2 true }, { o := .ld (.v 8) 2 true }, { o := .ca N.ref28_Valid 0 [] [.l 1, .l 0] }, { o := .un .not (.l 0) }, { o := .mv (.l 0) }, { o := .ld (.v 6) 2 true, g := some (0, false) }, { o := .mv (.v 1), g := some (1, false) }, { o := .ca N.ref28_Flows 0 [] [.l 1, .l 0], g := some (2, false) }, { o := .un .not (.l 0), g := some (3, false) }, { o := .pk (.l 4) (.b true) (.l 0) }, { o := .mv (.l 0) }, { o := .ld (.v 7) 2 true, g := some (0, false) }, { o := .ca N.ref01_Check 0 [] [.l 0], g := some (1, false) }, { o := .bin .neq (.l 0) (.i 0), g := some (2, false) }, { o := .pk (.l 3) (.b true) (.l 0) }, { o := .mv (.l 0) }, { o := .ld (.v 7) 2 true, g := some (0, false) }, { o := .mv (.v 3), g := some (1, false) }, { o := .ca N.ref28_Flows 0 [] [.l 1, .l 0], g := some (2, false) }, { o := .un .not (.l 0), g := some (3, false) }, { o := .pk (.l 4) (.b true) (.l 0) }, { o := .mv (.l 0) }, { o := .fa (.v 7) 0, g := some (0, false) }, { o := .ld (.l 0) 1 false, g := some (1, false) }, { o := .ln (.l 0), g := some (2, false) }, { o := .fa (.v 6) 0, g := some (3, false) }, { o := .ld (.l 0) 1 false, g := some (4, false) }, { o := .ln (.l 0), g := some (5, false) }, { o := .bin .neq (.l 3) (.l 0), g := some (6, false) }, { o := .pk (.l 7) (.b true) (.l 0) }] [] 0 (.seq (.reg [{ o := .ld (.v 8) 2 true }, { o := .st (.v 9) (.l 0) 2 [] }, { o := .mv (.i 6), d := some 10 }] []) .ret) .skip) (.seq (.ite [{ o := .mv (.v 5) }, { o := .fa (.v 8) 0 }, { o := .ld (.l 0) 1 false }, { o := .bin .lss (.l 2) (.l 0) }, { o := .mv (.l 0) }, { o := .mv (.v 5), g := some (0, false) }, { o := .bin .gtr (.l 0) (.i 2147483648), g := some (1, false) }, { o := .pk (.l 2) (.b true) (.l 0) }] [] 0 (.seq (.reg [{ o := .ld (.v 8) 2 true }, { o := .st (.v 9) (.l 0) 2 [] }, { o := .mv (.i 8), d := some 10 }] []) .ret) .skip) (.seq (.reg [{ o := .fa (.v 8) 1 }, { o := .ld (.l 0) 1 false }, { o := .app (.c (.nil)) (.l 0) true 1 }, { o := .mv (.l 0), d := some 11 }] []) (.seq (.seq (.reg [{ o := .mv (.i 0), d := some 12 }] []) (.blk 0 K.ref28_Change_l1)) (.seq (.seq (.reg [{ o := .mv (.i 0), d := some 14 }] []) (.blk 2 K.ref28_Change_l2)) (.seq (.reg [{ o := .mv (.v 5) }, { o := .ld (.v 7) 2 true }, { o := .mv (.v 3) }, { o := .mv (.v 11) }, { o := .ca N.ref28_Close 0 [] [.l 2, .l 1, .l 0] }, { o := .bd [.t (.int .i64 (0)), .nil] [(0, 1, .l 4), (1, 1, .l 0)] }, { o := .st (.v 9) (.l 0) 2 [] }, { o := .mv (.i 0), d := some 10 }] []) .ret)))))))), res := [(9, some (2, true)), (10, none)] }
def ref26_Start_l1b : C := (.seq (.ite [{ o := .mv (.v 8) }, { o := .mv (.v 1) }, { o := .ln (.l 0) }, { o := .bin .lss (.l 2) (.l 0) }] [] 0 .skip (.exit 0)) (.seq (.blk 1 (.seq (.reg [{ o := .al [.t (.int .i64 (0)), .nil] [], d := some 9 }, { o := .ld (.v 4) 2 true }, { o := .mv (.v 2) }, { o := .mv (.v 8) }, { o := .ia (.l 1) (.l 0) 1 }, { o := .ld (.l 0) 1 false }, { o := .mv (.v 3) }, { o := .ca N.ref25_Start 0 [] [.l 5, .l 1, .l 0] }, { o := .mv (.l 0) }, { o := .ex (.l 0) 0 }, { o := .ex (.l 1) 1 }, { o := .st (.l 10) (.l 1) 2 [] }, { o := .mv (.l 1), d := some 10 }] [(0, 8)]) (.seq (.ite [{ o := .mv (.v 10) }, { o := .bin .neq (.l 0) (.i 0) }] [] 0 (.seq (.reg [{ o := .bd [.nil] [] }, { o := .mv (.v 10) }, { o := .st (.v 5) (.l 1) 1 [] }, { o := .mv (.l 1), d := some 6 }] []) .ret) .skip) (.reg [{ o := .fa (.v 7) 1 }, { o := .ld (.l 0) 1 false }, { o := .ld (.v 9) 2 true }, { o := .bs [.l 0] 2 }, { o := .app (.l 2) (.l 0) true 2 }, { o := .fa (.v 7) 1 }, { o := .st (.l 0) (.l 1) 1 [] }] [])))) (.reg [{ o := .mv (.v 8) }, { o := .bin .add (.l 0) (.i 1) }, { o := .mv (.l 0), d := some 8 }] [])))
def ref26_Start_l1 : C := .loop true [0, 6, 9, 10] K.ref26_Start_l1b
/-- /ref26.Start -/
def ref26_Start : Fn := { nargs := 4, vars := [0, 1, 2, 3, 4, 8, 9, 10, 11, 12, 13], body := (.seq (.reg [{ o := .bx (.v 0) 2, d := some 4 }, { o := .al [.nil] [], d := some 5 }, { o := .mv (.i 0), d := some 6 }] []) (.seq (.ite [{ o := .ld (.v 4) 2 true }, { o := .ca N.ref01_Check 0 [] [.l 0] }, { o := .bin .neq (.l 0) (.i 0) }, { o := .mv (.l 0) }, { o := .mv (.v 1), g := some (0, false) }, { o := .ln (.l 0), g := some (1, false) }, { o := .mv (.v 2), g := some (2, false) }, { o := .ln (.l 0), g := some (3, false) }, { o := .bin .neq (.l 2) (.l 0), g := some (4, false) }, { o := .pk (.l 5) (.b true) (.l 0) }, { o := .mv (.l 0) }, { o := .mv (.v 1), g := some (0, false) }, { o := .ln (.l 0), g := some (1, false) }, { o := .bin .lss (.l 0) (.i 1), g := some (2, false) }, { o := .pk (.l 3) (.b true) (.l 0) }, { o := .mv (.l 0) }, { o := .mv (.v 1), g := some (0, false) }, { o := .ln (.l 0), g := some (1, false) }, { o := .bin .gtr (.l 0) (.i 12), g := some (2, false) }, { o := .pk (.l 3) (.b true) (.l 0) }] [] 0 (.seq (.reg [{ o := .bd [.nil] [] }, { o := .st (.v 5) (.l 0) 1 [] }, { o := .mv (.i 6), d := some 6 }] []) .ret) .skip) (.seq (.ite [{ o := .mv (.v 1) }, { o := .ca N.ref26_proper 0 [] [.l 0] }, { o := .un .not (.l 0) }] [] 0 (.seq (.reg [{ o := .bd [.nil] [] }, { o := .st (.v 5) (.l 0) 1 [] }, { o := .mv (.i 41), d := some 6 }] []) .ret) .skip) (.seq (.reg [{ o := .mv (.v 1) }, { o := .app (.c (.nil)) (.l 0) true 1 }, { o := .bd [.nil, .nil] [(0, 1, .l 0)] }, { o := .al [.nil, .nil] [(1, 2)], d := some 7 }, { o := .st (.l 0) (.l 1) 2 [(1, 2)] }] []) (.seq (.seq (.reg [{ o := .mv (.i 0), d := some 8 }] []) (.blk 0 K.ref26_Start_l1)) (.seq (.reg [{ o := .ld (.v 7) 2 true }, { o := .bs [.l 0] 2 }, { o := .bd [.nil] [(0, 1, .l 0)] }, { o := .st (.v 5) (.l 0) 1 [] }, { o := .mv (.i 0), d := some 6 }] []) .ret)))))), res := [(5, some (1, true)), (6, none)] }
def ref26_Exchange_l1b : C := (.seq (.ite [{ o := .mv (.v 11) }, { o := .fa (.v 6) 0 }, { o := .ld (.l 0) 1 false }, { o := .ln (.l 0) }, { o := .bin .lss (.l 3) (.l 0) }] [] 0 .skip (.exit 0)) (.seq (.blk 1 (.seq (.reg [{ o := .fa (.v 6) 0 }, { o := .ld (.l 0) 1 false }, { o := .mv (.v 11) }, { o := .ia (.l 1) (.l 0) 2 }, { o := .ld (.l 0) 2 true }, { o := .ca N.ref26_CopyWorld 1 [] [.l 0] }, { o := .al [.nil, .nil] [], d := some 12 }, { o := .st (.l 0) (.l 1) 2 [] }] []) (.seq (.ite [{ o := .fa (.v 12) 1 }, { o := .ld (.l 0) 1 false }, { o := .mv (.v 2) }, { o := .ia (.l 1) (.l 0) 2 }, { o := .ld (.l 0) 2 true }, { o := .fa (.v 12) 1 }, { o := .ld (.l 0) 1 false }, { o := .mv (.v 3) }, { o := .ia (.l 1) (.l 0) 2 }, { o := .ld (.l 0) 2 true }, { o := .mv (.v 4) }, { o := .ca N.ref26_meet 0 [] [.l 6, .l 1, .l 0] }, { o := .un .not (.l 0) }] [] 0 (.exit 1) .skip) (.seq (.reg [{ o := .fa (.v 12) 0 }, { o := .ld (.l 0) 1 false }, { o := .mv (.v 2) }, { o := .fa (.v 12) 0 }, { o := .ld (.l 0) 1 false }, { o := .mv (.v 3) }, { o := .fa (.v 12) 0 }, { o := .ld (.l 0) 1 false }, { o := .mv (.v 3) }, { o := .ia (.l 1) (.l 0) 1 }, { o := .ld (.l 0) 1 false }, { o := .fa (.v 12) 0 }, { o := .ld (.l 0) 1 false }, { o := .mv (.v 2) }, { o := .ia (.l 1) (.l 0) 1 }, { o := .ld (.l 0) 1 false }, { o := .ia (.l 14) (.l 13) 1 }, { o := .st (.l 0) (.l 6) 1 [] }, { o := .ia (.l 13) (.l 12) 1 }, { o := .st (.l 0) (.l 3) 1 [] }] [(4, 18)]) (.seq (.reg [{ o := .fa (.v 12) 1 }, { o := .ld (.l 0) 1 false }, { o := .mv (.v 2) }, { o := .fa (.v 12) 1 }, { o := .ld (.l 0) 1 false }, { o := .mv (.v 2) }, { o := .ia (.l 1) (.l 0) 2 }, { o := .ld (.l 0) 2 true }, { o := .mv (.v 4) }, { o := .ca N.ref25_Raise 0 [] [.l 1, .l 0] }, { o := .mv (.l 0) }, { o := .ex (.l 0) 0 }, { o := .ex (.l 1) 1 }, { o := .ia (.l 11) (.l 10) 2 }, { o := .st (.l 0) (.l 2) 2 [] }] [(1, 10)]) (.seq (.reg [{ o := .fa (.v 12) 1 }, { o := .ld (.l 0) 1 false }, { o := .mv (.v 3) }, { o := .fa (.v 12) 1 }, { o := .ld (.l 0) 1 false }, { o := .mv (.v 3) }, { o := .ia (.l 1) (.l 0) 2 }, { o := .ld (.l 0) 2 true }, { o := .mv (.v 4) }, { o := .ca N.ref25_Raise 0 [] [.l 1, .l 0] }, { o := .mv (.l 0) }, { o := .ex (.l 0) 0 }, { o := .ex (.l 1) 1 }, { o := .ia (.l 11) (.l 10) 2 }, { o := .st (.l 0) (.l 2) 2 [] }] [(1, 10)]) (.reg [{ o := .mv (.v 10) }, { o := .ld (.v 12) 2 true }, { o := .bs [.l 0] 2 }, { o := .app (.l 2) (.l 0) true 2 }, { o := .mv (.l 0), d := some 10 }] []))))))) (.reg [{ o := .mv (.v 11) }, { o := .bin .add (.l 0) (.i 1) }, { o := .mv (.l 0), d := some 11 }] [])))
def ref26_Exchange_l1 : C := .loop true [0, 1, 5, 8, 9, 12] K.ref26_Exchange_l1b
/-- /ref26.Exchange -/
def ref26_Exchange : Fn := { nargs := 5, vars := [0, 1, 2, 3, 4, 5, 6, 10, 11, 12, 13, 14, 15], body := (.seq (.reg [{ o := .bx (.v 0) 2, d := some 5 }, { o := .bx (.v 1) 1, d := some 6 }, { o := .al [.nil] [], d := some 7 }, { o := .mv (.i 0), d := some 8 }] []) (.seq (.reg [{ o := .ld (.v 6) 1 true }, { o := .ca N.ref26_Copy 0 [] [.l 0] }, { o := .st (.v 6) (.l 0) 1 [] }] []) (.seq (.ite [{ o := .ld (.v 5) 2 true }, { o := .ld (.v 6) 1 true }, { o := .ca N.ref26_Valid 0 [] [.l 1, .l 0] }, { o := .un .not (.l 0) }] [] 0 (.seq (.reg [{ o := .ld (.v 6) 1 true }, { o := .st (.v 7) (.l 0) 1 [] }, { o := .mv (.i 6), d := some 8 }] []) .ret) .skip) (.seq (.reg [{ o := .fa (.v 6) 0 }, { o := .ld (.l 0) 1 false }, { o := .ia (.l 0) (.i 0) 2 }, { o := .fa (.l 0) 0 }, { o := .ld (.l 0) 1 false }, { o := .ln (.l 0) }, { o := .mv (.l 0), d := some 9 }] []) (.seq (.ite [{ o := .mv (.v 2) }, { o := .bin .lss (.l 0) (.i 0) }, { o := .mv (.l 0) }, { o := .mv (.v 2), g := some (0, false) }, { o := .mv (.v 9), g := some (1, false) }, { o := .bin .geq (.l 1) (.l 0), g := some (2, false) }, { o := .pk (.l 3) (.b true) (.l 0) }, { o := .mv (.l 0) }, { o := .mv (.v 3), g := some (0, false) }, { o := .bin .lss (.l 0) (.i 0), g := some (1, false) }, { o := .pk (.l 2) (.b true) (.l 0) }, { o := .mv (.l 0) }, { o := .mv (.v 3), g := some (0, false) }, { o := .mv (.v 9), g := some (1, false) }, { o := .bin .geq (.l 1) (.l 0), g := some (2, false) }, { o := .pk (.l 3) (.b true) (.l 0) }, { o := .mv (.l 0) }, { o := .mv (.v 2), g := some (0, false) }, { o := .mv (.v 3), g := some (1, false) }, { o := .bin .eql (.l 1) (.l 0), g := some (2, false) }, { o := .pk (.l 3) (.b true) (.l 0) }] [] 0 (.seq (.reg [{ o := .ld (.v 6) 1 true }, { o := .st (.v 7) (.l 0) 1 [] }, { o := .mv (.i 19), d := some 8 }] []) .ret) .skip) (.seq (.ite [{ o := .mv (.v 4) }, { o := .bin .lss (.l 0) (.i 0) }, { o := .mv (.l 0) }, { o := .mv (.v 4), g := some (0, false) }, { o := .bin .gtr (.l 0) (.i 2147483648), g := some (1, false) }, { o := .pk (.l 2) (.b true) (.l 0) }] [] 0 (.seq (.reg [{ o := .ld (.v 6) 1 true }, { o := .st (.v 7) (.l 0) 1 [] }, { o := .mv (.i 8), d := some 8 }] []) .ret) .skip) (.seq (.reg [{ o := .ld (.v 6) 1 true }, { o := .ca N.ref26_Copy 1 [] [.l 0] }, { o := .fl (.l 0) 0 1 false }, { o := .mv (.l 0), d := some 10 }] []) (.seq (.seq (.reg [{ o := .mv (.i 0), d := some 11 }] []) (.blk 0 K.ref26_Exchange_l1)) (.seq (.reg [{ o := .mv (.v 10) }, { o := .ca N.ref26_Tidy 1 [] [.l 0] }, { o := .mv (.l 0), d := some 10 }] []) (.seq (.ite [{ o := .mv (.v 10) }, { o := .ln (.l 0) }, { o := .bin .gtr (.l 0) (.i 24) }] [] 0 (.seq (.reg [{ o := .ld (.v 6) 1 true }, { o := .st (.v 7) (.l 0) 1 [] }, { o := .mv (.i 44), d := some 8 }] []) .ret) .skip) (.seq (.reg [{ o := .mv (.v 10) }, { o := .bd [.nil] [(0, 1, .l 0)] }, { o := .st (.v 7) (.l 0) 1 [] }, { o := .mv (.i 0), d := some 8 }] []) .ret))))))))))), res := [(7, some (1, true)), (8, none)] }
def ref26_See_l1b : C := (.seq (.ite [{ o := .mv (.v 12) }, { o := .fa (.v 7) 0 }, { o := .ld (.l 0) 1 false }, { o := .ln (.l 0) }, { o := .bin .lss (.l 3) (.l 0) }] [] 0 .skip (.exit 0)) (.seq (.blk 1 (.seq (.reg [{ o := .fa (.v 7) 0 }, { o := .ld (.l 0) 1 false }, { o := .mv (.v 12) }, { o := .ia (.l 1) (.l 0) 2 }, { o := .ld (.l 0) 2 true }, { o := .ca N.ref26_CopyWorld 1 [] [.l 0] }, { o := .al [.nil, .nil] [], d := some 13 }, { o := .st (.l 0) (.l 1) 2 [] }] []) (.seq (.reg [{ o := .fa (.v 13) 0 }, { o := .ld (.l 0) 1 false }, { o := .mv (.v 2) }, { o := .ca N.ref26_bearer 0 [] [.l 1, .l 0] }, { o := .mv (.l 0), d := some 14 }] []) (.seq (.reg [{ o := .al [.t (.int .i64 (0)), .nil] [], d := some 15 }, { o := .ld (.v 6) 2 true }, { o := .fa (.v 13) 1 }, { o := .ld (.l 0) 1 false }, { o := .mv (.v 14) }, { o := .ia (.l 1) (.l 0) 2 }, { o := .ld (.l 0) 2 true }, { o := .mv (.v 3) }, { o := .mv (.v 4) }, { o := .mv (.v 5) }, { o := .ca N.ref25_See 0 [] [.l 8, .l 3, .l 2, .l 1, .l 0] }, { o := .mv (.l 0) }, { o := .ex (.l 0) 0 }, { o := .ex (.l 1) 1 }, { o := .st (.l 13) (.l 1) 2 [] }, { o := .mv (.l 1), d := some 16 }] [(0, 11)]) (.seq (.seq (.reg [{ o := .mv (.v 16), d := some 17 }] []) (.blk 2 (.seq (.seq (.reg [{ o := .bin .eql (.v 17) (.i 6) }, { o := .mv (.l 0), d := some 18 }] []) (.itv 18 .skip (.reg [{ o := .bin .eql (.v 17) (.i 8) }, { o := .mv (.l 0), d := some 18 }] []))) (.itv 18 (.seq (.reg [{ o := .ld (.v 7) 1 true }, { o := .mv (.v 16) }, { o := .st (.v 8) (.l 1) 1 [] }, { o := .mv (.l 1), d := some 9 }] []) .ret) (.ite [{ o := .bin .eql (.v 17) (.i 43) }, { o := .mv (.l 0) }] [] 0 (.exit 1) (.ite [{ o := .bin .eql (.v 17) (.i 0) }, { o := .mv (.l 0) }] [] 0 (.reg [{ o := .fa (.v 13) 1 }, { o := .ld (.l 0) 1 false }, { o := .mv (.v 14) }, { o := .ld (.v 15) 2 true }, { o := .ia (.l 2) (.l 1) 2 }, { o := .st (.l 0) (.l 1) 2 [] }] []) .skip)))))) (.reg [{ o := .fa (.v 11) 0 }, { o := .ld (.l 0) 1 false }, { o := .ld (.v 13) 2 true }, { o := .bs [.l 0] 2 }, { o := .app (.l 2) (.l 0) true 2 }, { o := .fa (.v 11) 0 }, { o := .st (.l 0) (.l 1) 1 [] }] [])))))) (.reg [{ o := .mv (.v 12) }, { o := .bin .add (.l 0) (.i 1) }, { o := .mv (.l 0), d := some 12 }] [])))
def ref26_See_l1 : C := .loop true [0, 1, 9, 10, 13, 14, 15, 16, 17, 18] K.ref26_See_l1b
/-- /ref26.See -/
def ref26_See : Fn := { nargs := 6, vars := [0, 1, 2, 3, 4, 5, 6, 7, 12, 13, 14, 15, 16, 17, 18, 19, 20, 61, 62], body := (.seq (.reg [{ o := .bx (.v 0) 2, d := some 6 }, { o := .bx (.v 1) 1, d := some 7 }, { o := .al [.nil] [], d := some 8 }, { o := .mv (.i 0), d := some 9 }] []) (.seq (.reg [{ o := .ld (.v 7) 1 true }, { o := .ca N.ref26_Copy 0 [] [.l 0] }, { o := .st (.v 7) (.l 0) 1 [] }] []) (.seq (.seq (.reg [{ o := .ld (.v 6) 2 true }, { o := .ld (.v 7) 1 true }, { o := .mv (.v 2) }, { o := .ca N.ref26_borne 0 [] [.l 2, .l 1, .l 0] }, { o := .mv (.l 0), d := some 10 }] []) (.ite [{ o := .mv (.v 10) }, { o := .bin .neq (.l 0) (.i 0) }] [] 0 (.seq (.reg [{ o := .ld (.v 7) 1 true }, { o := .mv (.v 10) }, { o := .st (.v 8) (.l 1) 1 [] }, { o := .mv (.l 1), d := some 9 }] []) .ret) .skip)) (.seq (.reg [{ o := .al [.nil] [(0, 2)], d := some 11 }] []) (.seq (.seq (.reg [{ o := .mv (.i 0), d := some 12 }] []) (.blk 0 K.ref26_See_l1)) (.seq (.ite [{ o := .fa (.v 11) 0 }, { o := .ld (.l 0) 1 false }, { o := .ln (.l 0) }, { o := .bin .eql (.l 0) (.i 0) }] [] 0 (.seq (.reg [{ o := .ld (.v 7) 1 true }, { o := .st (.v 8) (.l 0) 1 [] }, { o := .mv (.i 43), d := some 9 }] []) .ret) .skip) (.seq (.reg [{ o := .ld (.v 11) 1 true }, { o := .st (.v 8) (.l 0) 1 [] }, { o := .mv (.i 0), d := some 9 }] []) .ret))))))), res := [(8, some (1, true)), (9, none)] }
def ref26_Absent_l1b : C := (.seq (.ite [{ o := .mv (.v 13) }, { o := .fa (.v 8) 0 }, { o := .ld (.l 0) 1 false }, { o := .ln (.l 0) }, { o := .bin .lss (.l 3) (.l 0) }] [] 0 .skip (.exit 0)) (.seq (.blk 1 (.seq (.reg [{ o := .fa (.v 8) 0 }, { o := .ld (.l 0) 1 false }, { o := .mv (.v 13) }, { o := .ia (.l 1) (.l 0) 2 }, { o := .ld (.l 0) 2 true }, { o := .ca N.ref26_CopyWorld 1 [] [.l 0] }, { o := .al [.nil, .nil] [], d := some 14 }, { o := .st (.l 0) (.l 1) 2 [] }] []) (.seq (.reg [{ o := .fa (.v 14) 0 }, { o := .ld (.l 0) 1 false }, { o := .mv (.v 2) }, { o := .ca N.ref26_bearer 0 [] [.l 1, .l 0] }, { o := .mv (.l 0), d := some 15 }] []) (.seq (.reg [{ o := .al [.t (.int .i64 (0)), .nil] [], d := some 16 }, { o := .ld (.v 7) 2 true }, { o := .fa (.v 14) 1 }, { o := .ld (.l 0) 1 false }, { o := .mv (.v 15) }, { o := .ia (.l 1) (.l 0) 2 }, { o := .ld (.l 0) 2 true }, { o := .mv (.v 3) }, { o := .mv (.v 4) }, { o := .mv (.v 5) }, { o := .mv (.v 6) }, { o := .ca N.ref25_Absent 0 [2] [.l 9, .l 4, .l 3, .l 2, .l 1, .l 0] }, { o := .mv (.l 0) }, { o := .ex (.l 0) 0 }, { o := .ex (.l 1) 1 }, { o := .st (.l 14) (.l 1) 2 [] }, { o := .mv (.l 1), d := some 17 }] [(0, 12)]) (.seq (.ite [{ o := .mv (.v 17) }, { o := .bin .eql (.l 0) (.i 6) }, { o := .mv (.l 0) }, { o := .mv (.v 17), g := some (0, false) }, { o := .bin .eql (.l 0) (.i 8), g := some (1, false) }, { o := .pk (.l 2) (.b true) (.l 0) }] [] 0 (.seq (.reg [{ o := .ld (.v 8) 1 true }, { o := .mv (.v 17) }, { o := .st (.v 9) (.l 1) 1 [] }, { o := .mv (.l 1), d := some 10 }] []) .ret) .skip) (.seq (.ite [{ o := .mv (.v 17) }, { o := .bin .eql (.l 0) (.i 0) }] [] 0 (.reg [{ o := .fa (.v 14) 1 }, { o := .ld (.l 0) 1 false }, { o := .mv (.v 15) }, { o := .ld (.v 16) 2 true }, { o := .ia (.l 2) (.l 1) 2 }, { o := .st (.l 0) (.l 1) 2 [] }] []) .skip) (.reg [{ o := .fa (.v 12) 0 }, { o := .ld (.l 0) 1 false }, { o := .ld (.v 14) 2 true }, { o := .bs [.l 0] 2 }, { o := .app (.l 2) (.l 0) true 2 }, { o := .fa (.v 12) 0 }, { o := .st (.l 0) (.l 1) 1 [] }] []))))))) (.reg [{ o := .mv (.v 13) }, { o := .bin .add (.l 0) (.i 1) }, { o := .mv (.l 0), d := some 13 }] [])))
def ref26_Absent_l1 : C := .loop true [0, 1, 10, 11, 14, 15, 16, 17] K.ref26_Absent_l1b
/-- /ref26.Absent -/
def ref26_Absent : Fn := { nargs := 7, vars := [0, 1, 2, 3, 4, 5, 6, 7, 8, 14, 15, 16, 17, 18, 19, 20, 21, 22], body := (.seq (.reg [{ o := .bx (.v 0) 2, d := some 7 }, { o := .bx (.v 1) 1, d := some 8 }, { o := .al [.nil] [], d := some 9 }, { o := .mv (.i 0), d := some 10 }] []) (.seq (.reg [{ o := .ld (.v 8) 1 true }, { o := .ca N.ref26_Copy 0 [] [.l 0] }, { o := .st (.v 8) (.l 0) 1 [] }] []) (.seq (.seq (.reg [{ o := .ld (.v 7) 2 true }, { o := .ld (.v 8) 1 true }, { o := .mv (.v 2) }, { o := .ca N.ref26_borne 0 [] [.l 2, .l 1, .l 0] }, { o := .mv (.l 0), d := some 11 }] []) (.ite [{ o := .mv (.v 11) }, { o := .bin .neq (.l 0) (.i 0) }] [] 0 (.seq (.reg [{ o := .ld (.v 8) 1 true }, { o := .mv (.v 11) }, { o := .st (.v 9) (.l 1) 1 [] }, { o := .mv (.l 1), d := some 10 }] []) .ret) .skip)) (.seq (.reg [{ o := .al [.nil] [(0, 2)], d := some 12 }] []) (.seq (.seq (.reg [{ o := .mv (.i 0), d := some 13 }] []) (.blk 0 K.ref26_Absent_l1)) (.seq (.reg [{ o := .ld (.v 12) 1 true }, { o := .st (.v 9) (.l 0) 1 [] }, { o := .mv (.i 0), d := some 10 }] []) .ret)))))), res := [(9, some (1, true)), (10, none)] }
/-- /made.Mod -/
def made_Mod : Fn := { nargs := 2, vars := [0, 1, 4], body := (.seq (.reg [{ o := .mv (.i 0), d := some 2 }] []) (.seq (.ite [{ o := .mv (.v 1) }, { o := .bin .lss (.l 0) (.i 1) }] [] 0 (.seq (.reg [{ o := .mv (.i 0), d := some 2 }] []) .ret) .skip) (.seq (.reg [{ o := .mv (.v 0) }, { o := .mv (.v 1) }, { o := .bin .rem (.l 1) (.l 0) }, { o := .mv (.l 0), d := some 0 }] []) (.seq (.ite [{ o := .mv (.v 0) }, { o := .bin .lss (.l 0) (.i 0) }] [] 0 (.reg [{ o := .mv (.v 0) }, { o := .mv (.v 1) }, { o := .bin .add (.l 1) (.l 0) }, { o := .mv (.l 0), d := some 0 }] []) .skip) (.seq (.reg [{ o := .mv (.v 0) }, { o := .mv (.l 0), d := some 2 }] []) .ret))))), res := [(2, none)] }
/-- /smoke.Filled -/
def smoke_Filled : Fn := { nargs := 2, vars := [0, 1, 2, 3, 4], body := (.seq (.reg [{ o := .bx (.v 0) 2, d := some 2 }, { o := .bx (.v 1) 1, d := some 3 }, { o := .mv (.c (.nil)), d := some 4 }] []) (.seq (.reg [{ o := .fa (.v 2) 1 }, { o := .ld (.l 0) 1 false }, { o := .ln (.l 0) }, { o := .mf N.smoke_Filled_1 [.v 2, .v 3] }, { o := .ca N.lists_Where 0 [] [.l 1, .l 0] }, { o := .mv (.l 0), d := some 4 }] []) .ret)), res := [(4, none)] }
/-- /firerules.meets -/
def firerules_meets : Fn := { nargs := 2, vars := [0, 1, 3, 4], body := (.seq (.reg [{ o := .bx (.v 1) 1, d := some 2 }, { o := .mv (.b false), d := some 3 }] []) (.seq (.reg [{ o := .mv (.v 0) }, { o := .mf N.firerules_meets_1 [.v 2] }, { o := .ca N.slices_ContainsFunc_int_int 0 [] [.l 1, .l 0] }, { o := .mv (.l 0), d := some 3 }] []) .ret)), res := [(3, none)] }
/-- /firerules.near -/
def firerules_near : Fn := { nargs := 3, vars := [0, 1, 2, 3, 4, 5, 6], body := (.seq (.reg [{ o := .bx (.v 0) 3, d := some 3 }, { o := .bx (.v 1) 1, d := some 4 }, { o := .bx (.v 2) 1, d := some 5 }, { o := .mv (.c (.nil)), d := some 6 }] []) (.seq (.ite [{ o := .fa (.v 4) 0 }, { o := .ld (.l 0) 1 false }, { o := .ln (.l 0) }, { o := .bin .eql (.l 0) (.i 0) }] [] 0 (.seq (.reg [{ o := .mv (.c (.nil)), d := some 6 }] []) .ret) .skip) (.seq (.reg [{ o := .fa (.v 4) 0 }, { o := .ld (.l 0) 1 false }, { o := .ia (.l 0) (.i 0) 2 }, { o := .fa (.l 0) 1 }, { o := .ld (.l 0) 1 false }, { o := .ln (.l 0) }, { o := .mf N.firerules_near_1 [.v 4, .v 5, .v 3] }, { o := .ca N.lists_Where 0 [] [.l 1, .l 0] }, { o := .mv (.l 0), d := some 6 }] []) .ret))), res := [(6, none)] }
def ref25_Possible_l1b : C := (.seq (.ite [{ o := .mv (.v 5) }, { o := .fa (.v 2) 1 }, { o := .ld (.l 0) 1 false }, { o := .ln (.l 0) }, { o := .bin .lss (.l 3) (.l 0) }] [] 0 .skip (.exit 0)) (.seq (.blk 1 (.ite [{ o := .fa (.v 2) 1 }, { o := .ld (.l 0) 1 false }, { o := .mv (.v 5) }, { o := .ia (.l 1) (.l 0) 1 }, { o := .ld (.l 0) 1 false }, { o := .mv (.v 1) }, { o := .bin .leq (.l 1) (.l 0) }] [] 0 (.reg [{ o := .mv (.v 4) }, { o := .mv (.v 5) }, { o := .bs [.l 0] 1 }, { o := .app (.l 2) (.l 0) true 1 }, { o := .mv (.l 0), d := some 4 }] []) .skip)) (.reg [{ o := .mv (.v 5) }, { o := .bin .add (.l 0) (.i 1) }, { o := .mv (.l 0), d := some 5 }] [])))
def ref25_Possible_l1 : C := .loop true [0, 3] K.ref25_Possible_l1b
/-- /ref25.Possible -/
def ref25_Possible : Fn := { nargs := 2, vars := [0, 1, 2, 4, 5, 6], body := (.seq (.reg [{ o := .bx (.v 0) 2, d := some 2 }, { o := .mv (.c (.nil)), d := some 3 }] []) (.seq (.reg [{ o := .nw 1, d := some 4 }] []) (.seq (.seq (.reg [{ o := .mv (.i 0), d := some 5 }] []) (.blk 0 K.ref25_Possible_l1)) (.seq (.reg [{ o := .mv (.v 4) }, { o := .mv (.l 0), d := some 3 }] []) .ret)))), res := [(3, none)] }
def ref01_Check_l1b : C := (.seq (.ite [{ o := .mv (.v 3) }, { o := .fa (.v 1) 0 }, { o := .ld (.l 0) 1 false }, { o := .ln (.l 0) }, { o := .bin .lss (.l 3) (.l 0) }] [] 0 .skip (.exit 0)) (.seq (.blk 1 (.seq (.reg [{ o := .fa (.v 1) 0 }, { o := .ld (.l 0) 1 false }, { o := .mv (.v 3) }, { o := .ia (.l 1) (.l 0) 2 }, { o := .fa (.l 0) 0 }, { o := .ld (.l 0) 1 false }, { o := .mv (.l 0), d := some 4 }] []) (.ite [{ o := .mv (.v 4) }, { o := .bin .lss (.l 0) (.i (-10000)) }, { o := .mv (.l 0) }, { o := .mv (.v 4), g := some (0, false) }, { o := .bin .gtr (.l 0) (.i 10000), g := some (1, false) }, { o := .pk (.l 2) (.b true) (.l 0) }] [] 0 (.seq (.reg [{ o := .mv (.i 1), d := some 2 }] []) .ret) .skip))) (.reg [{ o := .mv (.v 3) }, { o := .bin .add (.l 0) (.i 1) }, { o := .mv (.l 0), d := some 3 }] [])))
def ref01_Check_l1 : C := .loop true [0, 2, 4, 5, 6] K.ref01_Check_l1b
def ref01_Check_l2b : C := (.seq (.ite [{ o := .mv (.v 5) }, { o := .fa (.v 1) 1 }, { o := .ld (.l 0) 1 false }, { o := .ln (.l 0) }, { o := .bin .lss (.l 3) (.l 0) }] [] 0 .skip (.exit 2)) (.seq (.blk 3 (.seq (.reg [{ o := .fa (.v 1) 1 }, { o := .ld (.l 0) 1 false }, { o := .mv (.v 5) }, { o := .ia (.l 1) (.l 0) 10 }, { o := .ld (.l 0) 10 true }, { o := .al [.t (.int .i64 (0)), .t (.int .i64 (0)), .t (.int .i64 (0)), .t (.int .i64 (0)), .t (.bool false), .t (.bool false), .t (.int .i64 (0)), .t (.int .i64 (0)), .t (.int .i64 (0)), .t (.int .i64 (0))] [], d := some 6 }, { o := .st (.l 0) (.l 1) 10 [] }] []) (.seq (.ite [{ o := .fa (.v 6) 0 }, { o := .ld (.l 0) 1 false }, { o := .bin .lss (.l 0) (.i 0) }, { o := .mv (.l 0) }, { o := .fa (.v 6) 0, g := some (0, false) }, { o := .ld (.l 0) 1 false, g := some (1, false) }, { o := .fa (.v 1) 0, g := some (2, false) }, { o := .ld (.l 0) 1 false, g := some (3, false) }, { o := .ln (.l 0), g := some (4, false) }, { o := .bin .geq (.l 3) (.l 0), g := some (5, false) }, { o := .pk (.l 6) (.b true) (.l 0) }, { o := .mv (.l 0) }, { o := .fa (.v 6) 1, g := some (0, false) }, { o := .ld (.l 0) 1 false, g := some (1, false) }, { o := .bin .lss (.l 0) (.i 0), g := some (2, false) }, { o := .pk (.l 3) (.b true) (.l 0) }, { o := .mv (.l 0) }, { o := .fa (.v 6) 1, g := some (0, false) }, { o := .ld (.l 0) 1 false, g := some (1, false) }, { o := .fa (.v 1) 0, g := some (2, false) }, { o := .ld (.l 0) 1 false, g := some (3, false) }, { o := .ln (.l 0), g := some (4, false) }, { o := .bin .geq (.l 3) (.l 0), g := some (5, false) }, { o := .pk (.l 6) (.b true) (.l 0) }, { o := .mv (.l 0) }, { o := .fa (.v 6) 0, g := some (0, false) }, { o := .ld (.l 0) 1 false, g := some (1, false) }, { o := .fa (.v 6) 1, g := some (2, false) }, { o := .ld (.l 0) 1 false, g := some (3, false) }, { o := .bin .eql (.l 2) (.l 0), g := some (4, false) }, { o := .pk (.l 5) (.b true) (.l 0) }] [] 0 (.seq (.reg [{ o := .mv (.i 4), d := some 2 }] []) .ret) .skip) (.ite [{ o := .fa (.v 6) 2 }, { o := .ld (.l 0) 1 false }, { o := .bin .lss (.l 0) (.i 1) }, { o := .mv (.l 0) }, { o := .fa (.v 6) 2, g := some (0, false) }, { o := .ld (.l 0) 1 false, g := some (1, false) }, { o := .bin .gtr (.l 0) (.i 100000), g := some (2, false) }, { o := .pk (.l 3) (.b true) (.l 0) }, { o := .mv (.l 0) }, { o := .fa (.v 6) 3, g := some (0, false) }, { o := .ld (.l 0) 1 false, g := some (1, false) }, { o := .bin .lss (.l 0) (.i 1), g := some (2, false) }, { o := .pk (.l 3) (.b true) (.l 0) }, { o := .mv (.l 0) }, { o := .fa (.v 6) 3, g := some (0, false) }, { o := .ld (.l 0) 1 false, g := some (1, false) }, { o := .bin .gtr (.l 0) (.i 1000), g := some (2, false) }, { o := .pk (.l 3) (.b true) (.l 0) }, { o := .mv (.l 0) }, { o := .fa (.v 6) 6, g := some (0, false) }, { o := .ld (.l 0) 2 true, g := some (1, false) }, { o := .ca N.ref01_Span 0 [] [.l 0, .i 1, .i 262144], g := some (2, false) }, { o := .un .not (.l 0), g := some (3, false) }, { o := .pk (.l 4) (.b true) (.l 0) }, { o := .mv (.l 0) }, { o := .fa (.v 6) 8, g := some (0, false) }, { o := .ld (.l 0) 2 true, g := some (1, false) }, { o := .ca N.ref01_Span 0 [] [.l 0, .i (-2199023255552), .i 2199023255552], g := some (2, false) }, { o := .un .not (.l 0), g := some (3, false) }, { o := .pk (.l 4) (.b true) (.l 0) }] [] 0 (.seq (.reg [{ o := .mv (.i 1), d := some 2 }] []) .ret) .skip)))) (.reg [{ o := .mv (.v 5) }, { o := .bin .add (.l 0) (.i 1) }, { o := .mv (.l 0), d := some 5 }] [])))
def ref01_Check_l2 : C := .loop true [0, 2, 3, 4, 6] K.ref01_Check_l2b
/-- /ref01.Check -/
def ref01_Check : Fn := { nargs := 1, vars := [0, 1, 2, 3, 4, 5, 6], body := (.seq (.reg [{ o := .bx (.v 0) 2, d := some 1 }, { o := .mv (.i 0), d := some 2 }] []) (.seq (.ite [{ o := .fa (.v 1) 0 }, { o := .ld (.l 0) 1 false }, { o := .ln (.l 0) }, { o := .bin .gtr (.l 0) (.i 64) }, { o := .mv (.l 0) }, { o := .fa (.v 1) 1, g := some (0, false) }, { o := .ld (.l 0) 1 false, g := some (1, false) }, { o := .ln (.l 0), g := some (2, false) }, { o := .bin .gtr (.l 0) (.i 128), g := some (3, false) }, { o := .pk (.l 4) (.b true) (.l 0) }] [] 0 (.seq (.reg [{ o := .mv (.i 2), d := some 2 }] []) .ret) .skip) (.seq (.seq (.reg [{ o := .mv (.i 0), d := some 3 }] []) (.blk 0 K.ref01_Check_l1)) (.seq (.seq (.reg [{ o := .mv (.i 0), d := some 5 }] []) (.blk 2 K.ref01_Check_l2)) (.seq (.reg [{ o := .mv (.i 0), d := some 2 }] []) .ret))))), res := [(2, none)] }
def ref28_Flows_l1b : C := (.seq (.ite [{ o := .mv (.v 4) }, { o := .mv (.v 1) }, { o := .ln (.l 0) }, { o := .bin .lss (.l 2) (.l 0) }] [] 0 .skip (.exit 0)) (.seq (.blk 1 (.ite [{ o := .mv (.v 1) }, { o := .mv (.v 4) }, { o := .ia (.l 1) (.l 0) 2 }, { o := .ld (.l 0) 2 true }, { o := .ca N.ref28_Span 0 [] [.l 0] }, { o := .un .not (.l 0) }] [] 0 (.seq (.reg [{ o := .mv (.b false), d := some 3 }] []) .ret) .skip)) (.reg [{ o := .mv (.v 4) }, { o := .bin .add (.l 0) (.i 1) }, { o := .mv (.l 0), d := some 4 }] [])))
def ref28_Flows_l1 : C := .loop true [0, 3] K.ref28_Flows_l1b
/-- /ref28.Flows -/
def ref28_Flows : Fn := { nargs := 2, vars := [0, 1, 2, 4, 5], body := (.seq (.reg [{ o := .bx (.v 0) 2, d := some 2 }, { o := .mv (.b false), d := some 3 }] []) (.seq (.seq (.reg [{ o := .mv (.i 0), d := some 4 }] []) (.blk 0 K.ref28_Flows_l1)) (.seq (.reg [{ o := .mv (.v 1) }, { o := .ln (.l 0) }, { o := .fa (.v 2) 1 }, { o := .ld (.l 0) 1 false }, { o := .ln (.l 0) }, { o := .bin .eql (.l 3) (.l 0) }, { o := .mv (.l 0), d := some 3 }] []) .ret))), res := [(3, none)] }
def ref23_Set_l1b : C := (.seq (.ite [{ o := .mv (.v 3) }, { o := .mv (.v 0) }, { o := .ln (.l 0) }, { o := .bin .lss (.l 2) (.l 0) }] [] 0 .skip (.exit 0)) (.seq (.blk 1 (.ite [{ o := .mv (.v 0) }, { o := .mv (.v 3) }, { o := .ia (.l 1) (.l 0) 1 }, { o := .ld (.l 0) 1 false }, { o := .bin .lss (.l 0) (.i 0) }, { o := .mv (.l 0) }, { o := .mv (.v 0), g := some (0, false) }, { o := .mv (.v 3), g := some (1, false) }, { o := .ia (.l 1) (.l 0) 1, g := some (2, false) }, { o := .ld (.l 0) 1 false, g := some (3, false) }, { o := .mv (.v 1), g := some (4, false) }, { o := .bin .geq (.l 1) (.l 0), g := some (5, false) }, { o := .pk (.l 6) (.b true) (.l 0) }, { o := .mv (.l 0) }, { o := .mv (.v 3), g := some (0, false) }, { o := .bin .gtr (.l 0) (.i 0), g := some (1, false) }, { o := .mv (.l 0), g := some (2, false) }, { o := .mv (.v 0), g := some (0, true) }, { o := .mv (.v 3), g := some (1, true) }, { o := .ia (.l 1) (.l 0) 1, g := some (2, true) }, { o := .ld (.l 0) 1 false, g := some (3, true) }, { o := .mv (.v 0), g := some (4, true) }, { o := .mv (.v 3), g := some (5, true) }, { o := .bin .sub (.l 0) (.i 1), g := some (6, true) }, { o := .ia (.l 2) (.l 0) 1, g := some (7, true) }, { o := .ld (.l 0) 1 false, g := some (8, true) }, { o := .bin .leq (.l 5) (.l 0), g := some (9, true) }, { o := .pk (.l 10) (.l 0) (.b false), g := some (13, false) }, { o := .pk (.l 14) (.b true) (.l 0) }] [] 0 (.seq (.reg [{ o := .mv (.b false), d := some 2 }] []) .ret) .skip)) (.reg [{ o := .mv (.v 3) }, { o := .bin .add (.l 0) (.i 1) }, { o := .mv (.l 0), d := some 3 }] [])))
def ref23_Set_l1 : C := .loop true [2] K.ref23_Set_l1b
/-- /ref23.Set -/
def ref23_Set : Fn := { nargs := 2, vars := [0, 1, 4, 5], body := (.seq (.reg [{ o := .mv (.b false), d := some 2 }] []) (.seq (.seq (.reg [{ o := .mv (.i 0), d := some 3 }] []) (.blk 0 K.ref23_Set_l1)) (.seq (.reg [{ o := .mv (.b true), d := some 2 }] []) .ret))), res := [(2, none)] }
def ref28_Close_l2b : C := (.seq (.ite [{ o := .mv (.v 7) }, { o := .fa (.v 3) 1 }, { o := .ld (.l 0) 1 false }, { o := .ln (.l 0) }, { o := .bin .lss (.l 3) (.l 0) }] [] 0 .skip (.exit 2)) (.seq (.blk 3 (.seq (.reg [{ o := .fa (.v 3) 1 }, { o := .ld (.l 0) 1 false }, { o := .mv (.v 7) }, { o := .ia (.l 1) (.l 0) 10 }, { o := .ld (.l 0) 10 true }, { o := .al [.t (.int .i64 (0)), .t (.int .i64 (0)), .t (.int .i64 (0)), .t (.int .i64 (0)), .t (.bool false), .t (.bool false), .t (.int .i64 (0)), .t (.int .i64 (0)), .t (.int .i64 (0)), .t (.int .i64 (0))] [], d := some 8 }, { o := .st (.l 0) (.l 1) 10 [] }] []) (.seq (.seq (.reg [{ o := .ld (.v 3) 2 true }, { o := .mv (.v 7) }, { o := .mv (.v 1) }, { o := .mv (.v 7) }, { o := .ia (.l 1) (.l 0) 2 }, { o := .ld (.l 0) 2 true }, { o := .ca N.ref28_Travel 0 [] [.l 5, .l 4, .l 0, .b false] }, { o := .mv (.l 0), d := some 9 }] []) (.ite [{ o := .mv (.v 9) }, { o := .bin .geq (.l 0) (.i 0) }, { o := .mv (.l 0) }, { o := .mv (.v 5), g := some (0, true) }, { o := .fa (.v 8) 0, g := some (1, true) }, { o := .ld (.l 0) 1 false, g := some (2, true) }, { o := .ia (.l 2) (.l 0) 1, g := some (3, true) }, { o := .ld (.l 0) 1 false, g := some (4, true) }, { o := .mv (.v 9), g := some (5, true) }, { o := .bin .add (.l 1) (.l 0), g := some (6, true) }, { o := .mv (.v 5), g := some (7, true) }, { o := .fa (.v 8) 1, g := some (8, true) }, { o := .ld (.l 0) 1 false, g := some (9, true) }, { o := .ia (.l 2) (.l 0) 1, g := some (10, true) }, { o := .ld (.l 0) 1 false, g := some (11, true) }, { o := .bin .lss (.l 5) (.l 0), g := some (12, true) }, { o := .pk (.l 13) (.l 0) (.b false) }] [] 0 (.reg [{ o := .mv (.v 5) }, { o := .fa (.v 8) 1 }, { o := .ld (.l 0) 1 false }, { o := .mv (.v 5) }, { o := .fa (.v 8) 0 }, { o := .ld (.l 0) 1 false }, { o := .ia (.l 2) (.l 0) 1 }, { o := .ld (.l 0) 1 false }, { o := .mv (.v 9) }, { o := .bin .add (.l 1) (.l 0) }, { o := .ia (.l 9) (.l 7) 1 }, { o := .st (.l 0) (.l 1) 1 [] }, { o := .mv (.b true), d := some 6 }] []) .skip)) (.seq (.reg [{ o := .ld (.v 3) 2 true }, { o := .mv (.v 7) }, { o := .mv (.v 1) }, { o := .mv (.v 7) }, { o := .ia (.l 1) (.l 0) 2 }, { o := .ld (.l 0) 2 true }, { o := .ca N.ref28_Travel 0 [] [.l 5, .l 4, .l 0, .b true] }, { o := .mv (.l 0), d := some 10 }] []) (.ite [{ o := .mv (.v 10) }, { o := .bin .geq (.l 0) (.i 0) }, { o := .mv (.l 0) }, { o := .mv (.v 5), g := some (0, true) }, { o := .fa (.v 8) 1, g := some (1, true) }, { o := .ld (.l 0) 1 false, g := some (2, true) }, { o := .ia (.l 2) (.l 0) 1, g := some (3, true) }, { o := .ld (.l 0) 1 false, g := some (4, true) }, { o := .mv (.v 10), g := some (5, true) }, { o := .bin .add (.l 1) (.l 0), g := some (6, true) }, { o := .mv (.v 5), g := some (7, true) }, { o := .fa (.v 8) 0, g := some (8, true) }, { o := .ld (.l 0) 1 false, g := some (9, true) }, { o := .ia (.l 2) (.l 0) 1, g := some (10, true) }, { o := .ld (.l 0) 1 false, g := some (11, true) }, { o := .bin .lss (.l 5) (.l 0), g := some (12, true) }, { o := .pk (.l 13) (.l 0) (.b false) }] [] 0 (.reg [{ o := .mv (.v 5) }, { o := .fa (.v 8) 0 }, { o := .ld (.l 0) 1 false }, { o := .mv (.v 5) }, { o := .fa (.v 8) 1 }, { o := .ld (.l 0) 1 false }, { o := .ia (.l 2) (.l 0) 1 }, { o := .ld (.l 0) 1 false }, { o := .mv (.v 10) }, { o := .bin .add (.l 1) (.l 0) }, { o := .ia (.l 9) (.l 7) 1 }, { o := .st (.l 0) (.l 1) 1 [] }, { o := .mv (.b true), d := some 6 }] []) .skip))))) (.reg [{ o := .mv (.v 7) }, { o := .bin .add (.l 0) (.i 1) }, { o := .mv (.l 0), d := some 7 }] [])))
def ref28_Close_l2 : C := .loop true [0, 2, 4, 8, 9, 10, 11] K.ref28_Close_l2b
def ref28_Close_l1b : C := (.seq (.ite [{ o := .mv (.v 6) }] [] 0 .skip (.exit 0)) (.blk 1 (.seq (.reg [{ o := .mv (.b false), d := some 6 }] []) (.seq (.reg [{ o := .mv (.i 0), d := some 7 }] []) (.blk 2 K.ref28_Close_l2)))))
def ref28_Close_l1 : C := .loop true [0, 2, 4, 7, 8, 9, 10, 11] K.ref28_Close_l1b
def ref28_Close_l3b : C := (.seq (.ite [{ o := .mv (.v 11) }, { o := .mv (.v 5) }, { o := .ln (.l 0) }, { o := .bin .lss (.l 2) (.l 0) }] [] 0 .skip (.exit 4)) (.seq (.blk 5 (.ite [{ o := .mv (.v 5) }, { o := .mv (.v 11) }, { o := .ia (.l 1) (.l 0) 1 }, { o := .ld (.l 0) 1 false }, { o := .bin .gtr (.l 0) (.i 2147483648) }] [] 0 (.reg [{ o := .mv (.v 5) }, { o := .mv (.v 11) }, { o := .ia (.l 1) (.l 0) 1 }, { o := .st (.l 0) (.i 1099511627776) 1 [] }] []) .skip)) (.reg [{ o := .mv (.v 11) }, { o := .bin .add (.l 0) (.i 1) }, { o := .mv (.l 0), d := some 11 }] [])))
def ref28_Close_l3 : C := .loop true [0, 1, 2, 3, 4, 6, 7, 8, 9, 10] K.ref28_Close_l3b
/-- /ref28.Close -/
def ref28_Close : Fn := { nargs := 3, vars := [0, 1, 2, 3, 6, 7, 8, 9, 10, 11, 12, 13], body := (.seq (.reg [{ o := .bx (.v 0) 2, d := some 3 }, { o := .mv (.c (.nil)), d := some 4 }] []) (.seq (.reg [{ o := .mv (.v 2) }, { o := .app (.c (.nil)) (.l 0) true 1 }, { o := .mv (.l 0), d := some 5 }] []) (.seq (.seq (.reg [{ o := .mv (.b true), d := some 6 }] []) (.blk 0 K.ref28_Close_l1)) (.seq (.seq (.reg [{ o := .mv (.i 0), d := some 11 }] []) (.blk 4 K.ref28_Close_l3)) (.seq (.reg [{ o := .mv (.v 5) }, { o := .mv (.l 0), d := some 4 }] []) .ret))))), res := [(4, none)] }
/-- /ref28.Copy -/
def ref28_Copy : Fn := { nargs := 1, vars := [0, 1, 2], body := (.seq (.reg [{ o := .bx (.v 0) 2, d := some 1 }, { o := .al [.t (.int .i64 (0)), .nil] [], d := some 2 }] []) (.seq (.reg [{ o := .fa (.v 1) 0 }, { o := .ld (.l 0) 1 false }, { o := .fa (.v 1) 1 }, { o := .ld (.l 0) 1 false }, { o := .app (.c (.nil)) (.l 0) true 1 }, { o := .bd [.t (.int .i64 (0)), .nil] [(0, 1, .l 3), (1, 1, .l 0)] }, { o := .st (.v 2) (.l 0) 2 [] }] [(1, 5)]) .ret)), res := [(2, some (2, true))] }
def ref28_Valid_l1b : C := (.seq (.ite [{ o := .mv (.v 5) }, { o := .fa (.v 3) 1 }, { o := .ld (.l 0) 1 false }, { o := .ln (.l 0) }, { o := .bin .lss (.l 3) (.l 0) }] [] 0 .skip (.exit 0)) (.seq (.blk 1 (.ite [{ o := .fa (.v 3) 1 }, { o := .ld (.l 0) 1 false }, { o := .mv (.v 5) }, { o := .ia (.l 1) (.l 0) 1 }, { o := .ld (.l 0) 1 false }, { o := .bin .neq (.l 0) (.i 1099511627776) }, { o := .mv (.l 0) }, { o := .fa (.v 3) 1, g := some (0, true) }, { o := .ld (.l 0) 1 false, g := some (1, true) }, { o := .mv (.v 5), g := some (2, true) }, { o := .ia (.l 1) (.l 0) 1, g := some (3, true) }, { o := .ld (.l 0) 1 false, g := some (4, true) }, { o := .fa (.v 3) 0, g := some (5, true) }, { o := .ld (.l 0) 1 false, g := some (6, true) }, { o := .bin .lss (.l 2) (.l 0), g := some (7, true) }, { o := .mv (.l 0), g := some (8, true) }, { o := .fa (.v 3) 1, g := some (0, false) }, { o := .ld (.l 0) 1 false, g := some (1, false) }, { o := .mv (.v 5), g := some (2, false) }, { o := .ia (.l 1) (.l 0) 1, g := some (3, false) }, { o := .ld (.l 0) 1 false, g := some (4, false) }, { o := .bin .gtr (.l 0) (.i 2147483648), g := some (5, false) }, { o := .pk (.l 6) (.b true) (.l 0), g := some (15, true) }, { o := .pk (.l 16) (.l 0) (.b false) }] [] 0 (.seq (.reg [{ o := .mv (.b false), d := some 4 }] []) .ret) .skip)) (.reg [{ o := .mv (.v 5) }, { o := .bin .add (.l 0) (.i 1) }, { o := .mv (.l 0), d := some 5 }] [])))
def ref28_Valid_l1 : C := .loop true [0, 1, 4] K.ref28_Valid_l1b
/-- /ref28.Valid -/
def ref28_Valid : Fn := { nargs := 2, vars := [0, 1, 2, 3, 4, 5], body := (.seq (.reg [{ o := .bx (.v 0) 2, d := some 2 }, { o := .bx (.v 1) 2, d := some 3 }, { o := .mv (.b false), d := some 4 }] []) (.seq (.seq (.reg [{ o := .mv (.i 0), d := some 5 }] []) (.blk 0 K.ref28_Valid_l1)) (.seq (.reg [{ o := .ld (.v 2) 2 true }, { o := .ca N.ref01_Check 0 [] [.l 0] }, { o := .bin .eql (.l 0) (.i 0) }, { o := .mv (.l 0) }, { o := .fa (.v 3) 1, g := some (0, true) }, { o := .ld (.l 0) 1 false, g := some (1, true) }, { o := .ln (.l 0), g := some (2, true) }, { o := .fa (.v 2) 0, g := some (3, true) }, { o := .ld (.l 0) 1 false, g := some (4, true) }, { o := .ln (.l 0), g := some (5, true) }, { o := .bin .eql (.l 3) (.l 0), g := some (6, true) }, { o := .pk (.l 7) (.l 0) (.b false) }, { o := .mv (.l 0) }, { o := .fa (.v 3) 0, g := some (0, true) }, { o := .ld (.l 0) 1 false, g := some (1, true) }, { o := .bin .geq (.l 0) (.i 0), g := some (2, true) }, { o := .pk (.l 3) (.l 0) (.b false) }, { o := .mv (.l 0) }, { o := .fa (.v 3) 0, g := some (0, true) }, { o := .ld (.l 0) 1 false, g := some (1, true) }, { o := .bin .leq (.l 0) (.i 2147483648), g := some (2, true) }, { o := .pk (.l 3) (.l 0) (.b false) }, { o := .mv (.l 0), d := some 4 }] []) .ret))), res := [(4, none)] }
/-- /ref28.Travel -/
def ref28_Travel : Fn := { nargs := 4, vars := [0, 1, 2, 3, 4, 6, 8, 9, 10, 11, 12], body := (.seq (.reg [{ o := .bx (.v 0) 2, d := some 4 }, { o := .bx (.v 2) 2, d := some 5 }, { o := .mv (.i 0), d := some 6 }] []) (.seq (.ite [{ o := .mv (.v 1) }, { o := .bin .lss (.l 0) (.i 0) }, { o := .mv (.l 0) }, { o := .mv (.v 1), g := some (0, false) }, { o := .fa (.v 4) 1, g := some (1, false) }, { o := .ld (.l 0) 1 false, g := some (2, false) }, { o := .ln (.l 0), g := some (3, false) }, { o := .bin .geq (.l 3) (.l 0), g := some (4, false) }, { o := .pk (.l 5) (.b true) (.l 0) }, { o := .mv (.l 0) }, { o := .fa (.v 4) 1, g := some (0, false) }, { o := .ld (.l 0) 1 false, g := some (1, false) }, { o := .mv (.v 1), g := some (2, false) }, { o := .ia (.l 1) (.l 0) 10, g := some (3, false) }, { o := .fa (.l 0) 5, g := some (4, false) }, { o := .ld (.l 0) 1 false, g := some (5, false) }, { o := .pk (.l 6) (.b true) (.l 0) }] [] 0 (.seq (.reg [{ o := .mv (.i (-1)), d := some 6 }] []) .ret) .skip) (.seq (.reg [{ o := .fa (.v 4) 1 }, { o := .ld (.l 0) 1 false }, { o := .mv (.v 1) }, { o := .ia (.l 1) (.l 0) 10 }, { o := .ld (.l 0) 10 true }, { o := .al [.t (.int .i64 (0)), .t (.int .i64 (0)), .t (.int .i64 (0)), .t (.int .i64 (0)), .t (.bool false), .t (.bool false), .t (.int .i64 (0)), .t (.int .i64 (0)), .t (.int .i64 (0)), .t (.int .i64 (0))] [], d := some 7 }, { o := .st (.l 0) (.l 1) 10 [] }] []) (.seq (.reg [{ o := .fa (.v 5) 1 }, { o := .ld (.l 0) 1 false }, { o := .fa (.v 5) 1 }, { o := .ld (.l 0) 1 false }, { o := .fa (.v 7) 3 }, { o := .ld (.l 0) 1 false }, { o := .bin .mul (.i (-500)) (.l 0) }, { o := .bin .leq (.l 3) (.l 0) }, { o := .mv (.l 6), d := some 8 }, { o := .mv (.l 1), d := some 9 }] []) (.seq (.ite [{ o := .mv (.v 3) }] [] 0 (.reg [{ o := .fa (.v 5) 0 }, { o := .ld (.l 0) 1 false }, { o := .un .neg (.l 0) }, { o := .fa (.v 5) 0 }, { o := .ld (.l 0) 1 false }, { o := .fa (.v 7) 3 }, { o := .ld (.l 0) 1 false }, { o := .bin .mul (.i 500) (.l 0) }, { o := .bin .geq (.l 3) (.l 0) }, { o := .mv (.l 6), d := some 8 }, { o := .mv (.l 1), d := some 9 }] []) .skip) (.seq (.reg [{ o := .mv (.i (-1)), d := some 10 }] []) (.seq (.ite [{ o := .mv (.v 8) }, { o := .bin .gtr (.l 0) (.i 0) }] [] 0 (.reg [{ o := .fa (.v 7) 2 }, { o := .ld (.l 0) 1 false }, { o := .fa (.v 7) 3 }, { o := .ld (.l 0) 1 false }, { o := .bin .mul (.l 2) (.l 0) }, { o := .bin .mul (.l 0) (.i 1000) }, { o := .mv (.v 8) }, { o := .bin .quo (.l 1) (.l 0) }, { o := .mv (.l 0), d := some 10 }] []) .skip) (.seq (.ite [{ o := .mv (.v 9) }, { o := .un .not (.l 0) }, { o := .mv (.l 0) }, { o := .mv (.v 10), g := some (0, true) }, { o := .bin .lss (.l 0) (.i 0), g := some (1, true) }, { o := .mv (.l 0), g := some (2, true) }, { o := .fa (.v 7) 2, g := some (0, false) }, { o := .ld (.l 0) 1 false, g := some (1, false) }, { o := .mv (.v 10), g := some (2, false) }, { o := .bin .lss (.l 1) (.l 0), g := some (3, false) }, { o := .pk (.l 4) (.b true) (.l 0), g := some (7, true) }, { o := .pk (.l 8) (.l 0) (.b false) }] [] 0 (.reg [{ o := .fa (.v 7) 2 }, { o := .ld (.l 0) 1 false }, { o := .mv (.l 0), d := some 10 }] []) .skip) (.seq (.reg [{ o := .mv (.v 10) }, { o := .mv (.l 0), d := some 6 }] []) .ret))))))))), res := [(6, none)] }
def ref26_proper_l1b : C := (.seq (.ite [{ o := .mv (.v 2) }, { o := .mv (.v 0) }, { o := .ln (.l 0) }, { o := .bin .lss (.l 2) (.l 0) }] [] 0 .skip (.exit 0)) (.seq (.blk 1 (.ite [{ o := .mv (.v 0) }, { o := .mv (.v 2) }, { o := .ia (.l 1) (.l 0) 1 }, { o := .ld (.l 0) 1 false }, { o := .bin .lss (.l 0) (.i 1) }, { o := .mv (.l 0) }, { o := .mv (.v 0), g := some (0, false) }, { o := .mv (.v 2), g := some (1, false) }, { o := .ia (.l 1) (.l 0) 1, g := some (2, false) }, { o := .ld (.l 0) 1 false, g := some (3, false) }, { o := .bin .gtr (.l 0) (.i 65535), g := some (4, false) }, { o := .pk (.l 5) (.b true) (.l 0) }, { o := .mv (.l 0) }, { o := .mv (.v 0), g := some (0, false) }, { o := .mv (.v 2), g := some (1, false) }, { o := .sc (.l 1) none (some (.l 0)) 1, g := some (2, false) }, { o := .mv (.v 0), g := some (3, false) }, { o := .mv (.v 2), g := some (4, false) }, { o := .ia (.l 1) (.l 0) 1, g := some (5, false) }, { o := .ld (.l 0) 1 false, g := some (6, false) }, { o := .ca N.ref26_bearer 0 [] [.l 4, .l 0], g := some (7, false) }, { o := .bin .geq (.l 0) (.i 0), g := some (8, false) }, { o := .pk (.l 9) (.b true) (.l 0) }] [] 0 (.seq (.reg [{ o := .mv (.b false), d := some 1 }] []) .ret) .skip)) (.reg [{ o := .mv (.v 2) }, { o := .bin .add (.l 0) (.i 1) }, { o := .mv (.l 0), d := some 2 }] [])))
def ref26_proper_l1 : C := .loop true [1] K.ref26_proper_l1b
/-- /ref26.proper -/
def ref26_proper : Fn := { nargs := 1, vars := [0, 2, 3], body := (.seq (.reg [{ o := .mv (.b false), d := some 1 }] []) (.seq (.seq (.reg [{ o := .mv (.i 0), d := some 2 }] []) (.blk 0 K.ref26_proper_l1)) (.seq (.reg [{ o := .mv (.b true), d := some 1 }] []) .ret))), res := [(1, none)] }
/-- /ref25.Start -/
def ref25_Start : Fn := { nargs := 3, vars := [0, 1, 2, 3, 6, 7, 8], body := (.seq (.reg [{ o := .bx (.v 0) 2, d := some 3 }, { o := .al [.t (.int .i64 (0)), .nil] [], d := some 4 }, { o := .mv (.i 0), d := some 5 }] []) (.seq (.blk 0 (.ite [{ o := .ld (.v 3) 2 true }, { o := .ca N.ref01_Check 0 [] [.l 0] }, { o := .bin .neq (.l 0) (.i 0) }, { o := .mv (.l 0) }] [] 0 (.seq (.reg [{ o := .bd [.t (.int .i64 (0)), .nil] [] }, { o := .st (.v 4) (.l 0) 2 [] }, { o := .mv (.i 6), d := some 5 }] []) .ret) (.ite [{ o := .mv (.v 1) }, { o := .bin .lss (.l 0) (.i 0) }, { o := .mv (.l 0) }, { o := .mv (.v 1), g := some (0, false) }, { o := .fa (.v 3) 0, g := some (1, false) }, { o := .ld (.l 0) 1 false, g := some (2, false) }, { o := .ln (.l 0), g := some (3, false) }, { o := .bin .geq (.l 3) (.l 0), g := some (4, false) }, { o := .pk (.l 5) (.b true) (.l 0) }, { o := .mv (.l 0) }] [] 0 (.seq (.reg [{ o := .bd [.t (.int .i64 (0)), .nil] [] }, { o := .st (.v 4) (.l 0) 2 [] }, { o := .mv (.i 3), d := some 5 }] []) .ret) (.ite [{ o := .mv (.v 2) }, { o := .ca N.ref25_inTime 0 [] [.l 0] }, { o := .un .not (.l 0) }, { o := .mv (.l 0) }] [] 0 (.seq (.reg [{ o := .bd [.t (.int .i64 (0)), .nil] [] }, { o := .st (.v 4) (.l 0) 2 [] }, { o := .mv (.i 8), d := some 5 }] []) .ret) .skip)))) (.seq (.reg [{ o := .fa (.v 3) 0 }, { o := .ld (.l 0) 1 false }, { o := .ln (.l 0) }, { o := .ca N.ref25_never 1 [] [.l 0] }, { o := .mv (.l 0), d := some 6 }] []) (.seq (.reg [{ o := .mv (.v 6) }, { o := .mv (.v 1) }, { o := .mv (.v 2) }, { o := .ia (.l 2) (.l 1) 1 }, { o := .st (.l 0) (.l 1) 1 [] }] []) (.seq (.reg [{ o := .mv (.v 2) }, { o := .ld (.v 3) 2 true }, { o := .mv (.v 6) }, { o := .mv (.v 2) }, { o := .ca N.ref25_Close 0 [] [.l 2, .l 1, .l 0] }, { o := .bd [.t (.int .i64 (0)), .nil] [(0, 1, .l 4), (1, 1, .l 0)] }, { o := .st (.v 4) (.l 0) 2 [] }, { o := .mv (.i 0), d := some 5 }] []) .ret))))), res := [(4, some (2, true)), (5, none)] }
end Go.Ev.K
namespace Go.Ev
class Has1 [Lib] : Prop where
  t_made_Light : Lib.fs N.made_Light = some K.made_Light
  t_law40_awake : Lib.fs N.law40_awake = some K.law40_awake
  t_made_Roll : Lib.fs N.made_Roll = some K.made_Roll
  t_made_Dice_Mine : Lib.fs N.made_Dice_Mine = some K.made_Dice_Mine
  t_law40_some : Lib.fs N.law40_some = some K.law40_some
  t_made_Dice_Spread : Lib.fs N.made_Dice_Spread = some K.made_Dice_Spread
  t_made_Dice_Flows : Lib.fs N.made_Dice_Flows = some K.made_Dice_Flows
  t_made_Dice_Belief : Lib.fs N.made_Dice_Belief = some K.made_Dice_Belief
  t_made_Dice_Next : Lib.fs N.made_Dice_Next = some K.made_Dice_Next
  t_made_Dice_Of : Lib.fs N.made_Dice_Of = some K.made_Dice_Of
  t_firerules_Command : Lib.fs N.firerules_Command = some K.firerules_Command
  t_ref23_Has : Lib.fs N.ref23_Has = some K.ref23_Has
  t_ref26_Possible : Lib.fs N.ref26_Possible = some K.ref26_Possible
  t_firerules_Drawn : Lib.fs N.firerules_Drawn = some K.firerules_Drawn
  t_made_Dice_One : Lib.fs N.made_Dice_One = some K.made_Dice_One
  t_made_Dice_Some : Lib.fs N.made_Dice_Some = some K.made_Dice_Some
  t_ref28_Start : Lib.fs N.ref28_Start = some K.ref28_Start
  t_ref28_Change : Lib.fs N.ref28_Change = some K.ref28_Change
  t_ref26_Start : Lib.fs N.ref26_Start = some K.ref26_Start
  t_ref26_Exchange : Lib.fs N.ref26_Exchange = some K.ref26_Exchange
  t_ref26_See : Lib.fs N.ref26_See = some K.ref26_See
  t_ref26_Absent : Lib.fs N.ref26_Absent = some K.ref26_Absent
  t_made_Mod : Lib.fs N.made_Mod = some K.made_Mod
  t_smoke_Filled : Lib.fs N.smoke_Filled = some K.smoke_Filled
  t_firerules_meets : Lib.fs N.firerules_meets = some K.firerules_meets
  t_firerules_near : Lib.fs N.firerules_near = some K.firerules_near
  t_ref25_Possible : Lib.fs N.ref25_Possible = some K.ref25_Possible
  t_ref01_Check : Lib.fs N.ref01_Check = some K.ref01_Check
  t_ref28_Flows : Lib.fs N.ref28_Flows = some K.ref28_Flows
  t_ref23_Set : Lib.fs N.ref23_Set = some K.ref23_Set
  t_ref28_Close : Lib.fs N.ref28_Close = some K.ref28_Close
  t_ref28_Copy : Lib.fs N.ref28_Copy = some K.ref28_Copy
  t_ref28_Valid : Lib.fs N.ref28_Valid = some K.ref28_Valid
  t_ref28_Travel : Lib.fs N.ref28_Travel = some K.ref28_Travel
  t_ref26_proper : Lib.fs N.ref26_proper = some K.ref26_proper
  t_ref25_Start : Lib.fs N.ref25_Start = some K.ref25_Start
namespace K
variable [Lib] [Has1]
theorem t_made_Light : Lib.fs N.made_Light = some K.made_Light := Has1.t_made_Light
theorem t_law40_awake : Lib.fs N.law40_awake = some K.law40_awake := Has1.t_law40_awake
theorem t_made_Roll : Lib.fs N.made_Roll = some K.made_Roll := Has1.t_made_Roll
theorem t_made_Dice_Mine : Lib.fs N.made_Dice_Mine = some K.made_Dice_Mine := Has1.t_made_Dice_Mine
theorem t_law40_some : Lib.fs N.law40_some = some K.law40_some := Has1.t_law40_some
theorem t_made_Dice_Spread : Lib.fs N.made_Dice_Spread = some K.made_Dice_Spread := Has1.t_made_Dice_Spread
theorem t_made_Dice_Flows : Lib.fs N.made_Dice_Flows = some K.made_Dice_Flows := Has1.t_made_Dice_Flows
theorem t_made_Dice_Belief : Lib.fs N.made_Dice_Belief = some K.made_Dice_Belief := Has1.t_made_Dice_Belief
theorem t_made_Dice_Next : Lib.fs N.made_Dice_Next = some K.made_Dice_Next := Has1.t_made_Dice_Next
theorem t_made_Dice_Of : Lib.fs N.made_Dice_Of = some K.made_Dice_Of := Has1.t_made_Dice_Of
theorem t_firerules_Command : Lib.fs N.firerules_Command = some K.firerules_Command := Has1.t_firerules_Command
theorem t_ref23_Has : Lib.fs N.ref23_Has = some K.ref23_Has := Has1.t_ref23_Has
theorem t_ref26_Possible : Lib.fs N.ref26_Possible = some K.ref26_Possible := Has1.t_ref26_Possible
theorem t_firerules_Drawn : Lib.fs N.firerules_Drawn = some K.firerules_Drawn := Has1.t_firerules_Drawn
theorem t_made_Dice_One : Lib.fs N.made_Dice_One = some K.made_Dice_One := Has1.t_made_Dice_One
theorem t_made_Dice_Some : Lib.fs N.made_Dice_Some = some K.made_Dice_Some := Has1.t_made_Dice_Some
theorem t_ref28_Start : Lib.fs N.ref28_Start = some K.ref28_Start := Has1.t_ref28_Start
theorem t_ref28_Change : Lib.fs N.ref28_Change = some K.ref28_Change := Has1.t_ref28_Change
theorem t_ref26_Start : Lib.fs N.ref26_Start = some K.ref26_Start := Has1.t_ref26_Start
theorem t_ref26_Exchange : Lib.fs N.ref26_Exchange = some K.ref26_Exchange := Has1.t_ref26_Exchange
theorem t_ref26_See : Lib.fs N.ref26_See = some K.ref26_See := Has1.t_ref26_See
theorem t_ref26_Absent : Lib.fs N.ref26_Absent = some K.ref26_Absent := Has1.t_ref26_Absent
theorem t_made_Mod : Lib.fs N.made_Mod = some K.made_Mod := Has1.t_made_Mod
theorem t_smoke_Filled : Lib.fs N.smoke_Filled = some K.smoke_Filled := Has1.t_smoke_Filled
theorem t_firerules_meets : Lib.fs N.firerules_meets = some K.firerules_meets := Has1.t_firerules_meets
theorem t_firerules_near : Lib.fs N.firerules_near = some K.firerules_near := Has1.t_firerules_near
theorem t_ref25_Possible : Lib.fs N.ref25_Possible = some K.ref25_Possible := Has1.t_ref25_Possible
theorem t_ref01_Check : Lib.fs N.ref01_Check = some K.ref01_Check := Has1.t_ref01_Check
theorem t_ref28_Flows : Lib.fs N.ref28_Flows = some K.ref28_Flows := Has1.t_ref28_Flows
theorem t_ref23_Set : Lib.fs N.ref23_Set = some K.ref23_Set := Has1.t_ref23_Set
theorem t_ref28_Close : Lib.fs N.ref28_Close = some K.ref28_Close := Has1.t_ref28_Close
theorem t_ref28_Copy : Lib.fs N.ref28_Copy = some K.ref28_Copy := Has1.t_ref28_Copy
theorem t_ref28_Valid : Lib.fs N.ref28_Valid = some K.ref28_Valid := Has1.t_ref28_Valid
theorem t_ref28_Travel : Lib.fs N.ref28_Travel = some K.ref28_Travel := Has1.t_ref28_Travel
theorem t_ref26_proper : Lib.fs N.ref26_proper = some K.ref26_proper := Has1.t_ref26_proper
theorem t_ref25_Start : Lib.fs N.ref25_Start = some K.ref25_Start := Has1.t_ref25_Start
end K
end Go.Ev

/- MADE BY PROGRAM (lib.py): the compact code of functions. -/
namespace Go.Ev.K
open Go.Ev
def ref26_Copy_l1b : C := (.seq (.ite [{ o := .mv (.v 4) }, { o := .fa (.v 1) 0 }, { o := .ld (.l 0) 1 false }, { o := .ln (.l 0) }, { o := .bin .lss (.l 3) (.l 0) }] [] 0 .skip (.exit 0)) (.seq (.blk 1 (.reg [{ o := .fa (.v 3) 0 }, { o := .ld (.l 0) 1 false }, { o := .fa (.v 1) 0 }, { o := .ld (.l 0) 1 false }, { o := .mv (.v 4) }, { o := .ia (.l 1) (.l 0) 2 }, { o := .ld (.l 0) 2 true }, { o := .ca N.ref26_CopyWorld 0 [] [.l 0] }, { o := .bs [.l 0] 2 }, { o := .app (.l 7) (.l 0) true 2 }, { o := .fa (.v 3) 0 }, { o := .st (.l 0) (.l 1) 1 [] }] [(1, 8), (1, 9)])) (.reg [{ o := .mv (.v 4) }, { o := .bin .add (.l 0) (.i 1) }, { o := .mv (.l 0), d := some 4 }] [])))
def ref26_Copy_l1 : C := .loop true [0] K.ref26_Copy_l1b
/-- /ref26.Copy -/
def ref26_Copy : Fn := { nargs := 1, vars := [0, 1, 2, 3, 4], body := (.seq (.reg [{ o := .bx (.v 0) 1, d := some 1 }, { o := .al [.nil] [], d := some 2 }] []) (.seq (.reg [{ o := .al [.nil] [(0, 2)], d := some 3 }] []) (.seq (.seq (.reg [{ o := .mv (.i 0), d := some 4 }] []) (.blk 0 K.ref26_Copy_l1)) (.seq (.reg [{ o := .ld (.v 3) 1 true }, { o := .st (.v 2) (.l 0) 1 [] }] []) .ret)))), res := [(2, some (1, true))] }
def ref26_Valid_l2b : C := (.seq (.ite [{ o := .mv (.v 8) }, { o := .fa (.v 7) 0 }, { o := .ld (.l 0) 1 false }, { o := .ln (.l 0) }, { o := .bin .lss (.l 3) (.l 0) }] [] 0 .skip (.exit 2)) (.seq (.blk 3 (.ite [{ o := .mv (.v 5) }, { o := .fa (.v 7) 0 }, { o := .ld (.l 0) 1 false }, { o := .mv (.v 8) }, { o := .ia (.l 1) (.l 0) 1 }, { o := .ld (.l 0) 1 false }, { o := .ca N.ref26_bearer 0 [] [.l 5, .l 0] }, { o := .bin .lss (.l 0) (.i 0) }, { o := .mv (.l 0) }, { o := .ld (.v 2) 2 true, g := some (0, false) }, { o := .fa (.v 7) 1, g := some (1, false) }, { o := .ld (.l 0) 1 false, g := some (2, false) }, { o := .mv (.v 8), g := some (3, false) }, { o := .ia (.l 1) (.l 0) 2, g := some (4, false) }, { o := .ld (.l 0) 2 true, g := some (5, false) }, { o := .ca N.ref25_Valid 0 [] [.l 5, .l 0], g := some (6, false) }, { o := .un .not (.l 0), g := some (7, false) }, { o := .pk (.l 8) (.b true) (.l 0) }] [] 0 (.seq (.reg [{ o := .mv (.b false), d := some 4 }] []) .ret) .skip)) (.reg [{ o := .mv (.v 8) }, { o := .bin .add (.l 0) (.i 1) }, { o := .mv (.l 0), d := some 8 }] [])))
def ref26_Valid_l2 : C := .loop true [0, 1, 4] K.ref26_Valid_l2b
def ref26_Valid_l1b : C := (.seq (.ite [{ o := .mv (.v 6) }, { o := .fa (.v 3) 0 }, { o := .ld (.l 0) 1 false }, { o := .ln (.l 0) }, { o := .bin .lss (.l 3) (.l 0) }] [] 0 .skip (.exit 0)) (.seq (.blk 1 (.seq (.reg [{ o := .fa (.v 3) 0 }, { o := .ld (.l 0) 1 false }, { o := .mv (.v 6) }, { o := .ia (.l 1) (.l 0) 2 }, { o := .ld (.l 0) 2 true }, { o := .al [.nil, .nil] [], d := some 7 }, { o := .st (.l 0) (.l 1) 2 [] }] []) (.seq (.ite [{ o := .fa (.v 7) 0 }, { o := .ld (.l 0) 1 false }, { o := .ln (.l 0) }, { o := .mv (.v 5) }, { o := .ln (.l 0) }, { o := .bin .neq (.l 2) (.l 0) }, { o := .mv (.l 0) }, { o := .fa (.v 7) 1, g := some (0, false) }, { o := .ld (.l 0) 1 false, g := some (1, false) }, { o := .ln (.l 0), g := some (2, false) }, { o := .mv (.v 5), g := some (3, false) }, { o := .ln (.l 0), g := some (4, false) }, { o := .bin .neq (.l 2) (.l 0), g := some (5, false) }, { o := .pk (.l 6) (.b true) (.l 0) }, { o := .mv (.l 0) }, { o := .fa (.v 7) 0, g := some (0, false) }, { o := .ld (.l 0) 1 false, g := some (1, false) }, { o := .ca N.ref26_proper 0 [] [.l 0], g := some (2, false) }, { o := .un .not (.l 0), g := some (3, false) }, { o := .pk (.l 4) (.b true) (.l 0) }, { o := .mv (.l 0) }, { o := .mv (.v 6), g := some (0, false) }, { o := .bin .gtr (.l 0) (.i 0), g := some (1, false) }, { o := .mv (.l 0), g := some (2, false) }, { o := .fa (.v 3) 0, g := some (0, true) }, { o := .ld (.l 0) 1 false, g := some (1, true) }, { o := .mv (.v 6), g := some (2, true) }, { o := .bin .sub (.l 0) (.i 1), g := some (3, true) }, { o := .ia (.l 2) (.l 0) 2, g := some (4, true) }, { o := .fa (.l 0) 0, g := some (5, true) }, { o := .ld (.l 0) 1 false, g := some (6, true) }, { o := .fa (.v 7) 0, g := some (7, true) }, { o := .ld (.l 0) 1 false, g := some (8, true) }, { o := .ca N.ref26_Less 0 [] [.l 2, .l 0], g := some (9, true) }, { o := .un .not (.l 0), g := some (10, true) }, { o := .pk (.l 11) (.l 0) (.b false), g := some (14, false) }, { o := .pk (.l 15) (.b true) (.l 0) }] [] 0 (.seq (.reg [{ o := .mv (.b false), d := some 4 }] []) .ret) .skip) (.seq (.reg [{ o := .mv (.i 0), d := some 8 }] []) (.blk 2 K.ref26_Valid_l2))))) (.reg [{ o := .mv (.v 6) }, { o := .bin .add (.l 0) (.i 1) }, { o := .mv (.l 0), d := some 6 }] [])))
def ref26_Valid_l1 : C := .loop true [0, 1, 4, 7, 8] K.ref26_Valid_l1b
/-- /ref26.Valid -/
def ref26_Valid : Fn := { nargs := 2, vars := [0, 1, 2, 3, 4, 5, 6, 7, 8], body := (.seq (.reg [{ o := .bx (.v 0) 2, d := some 2 }, { o := .bx (.v 1) 1, d := some 3 }, { o := .mv (.b false), d := some 4 }] []) (.seq (.ite [{ o := .fa (.v 3) 0 }, { o := .ld (.l 0) 1 false }, { o := .ln (.l 0) }, { o := .bin .lss (.l 0) (.i 1) }, { o := .mv (.l 0) }, { o := .fa (.v 3) 0, g := some (0, false) }, { o := .ld (.l 0) 1 false, g := some (1, false) }, { o := .ln (.l 0), g := some (2, false) }, { o := .bin .gtr (.l 0) (.i 24), g := some (3, false) }, { o := .pk (.l 4) (.b true) (.l 0) }, { o := .mv (.l 0) }, { o := .ld (.v 2) 2 true, g := some (0, false) }, { o := .ca N.ref01_Check 0 [] [.l 0], g := some (1, false) }, { o := .bin .neq (.l 0) (.i 0), g := some (2, false) }, { o := .pk (.l 3) (.b true) (.l 0) }] [] 0 (.seq (.reg [{ o := .mv (.b false), d := some 4 }] []) .ret) .skip) (.seq (.reg [{ o := .fa (.v 3) 0 }, { o := .ld (.l 0) 1 false }, { o := .ia (.l 0) (.i 0) 2 }, { o := .fa (.l 0) 0 }, { o := .ld (.l 0) 1 false }, { o := .mv (.l 0), d := some 5 }] []) (.seq (.ite [{ o := .mv (.v 5) }, { o := .ln (.l 0) }, { o := .bin .lss (.l 0) (.i 1) }, { o := .mv (.l 0) }, { o := .mv (.v 5), g := some (0, false) }, { o := .ln (.l 0), g := some (1, false) }, { o := .bin .gtr (.l 0) (.i 12), g := some (2, false) }, { o := .pk (.l 3) (.b true) (.l 0) }] [] 0 (.seq (.reg [{ o := .mv (.b false), d := some 4 }] []) .ret) .skip) (.seq (.seq (.reg [{ o := .mv (.i 0), d := some 6 }] []) (.blk 0 K.ref26_Valid_l1)) (.seq (.reg [{ o := .mv (.b true), d := some 4 }] []) .ret)))))), res := [(4, none)] }
def ref26_CopyWorld_l1b : C := (.seq (.ite [{ o := .mv (.v 4) }, { o := .fa (.v 1) 1 }, { o := .ld (.l 0) 1 false }, { o := .ln (.l 0) }, { o := .bin .lss (.l 3) (.l 0) }] [] 0 .skip (.exit 0)) (.seq (.blk 1 (.reg [{ o := .fa (.v 3) 1 }, { o := .ld (.l 0) 1 false }, { o := .fa (.v 1) 1 }, { o := .ld (.l 0) 1 false }, { o := .mv (.v 4) }, { o := .ia (.l 1) (.l 0) 2 }, { o := .ld (.l 0) 2 true }, { o := .ca N.ref25_Copy 0 [] [.l 0] }, { o := .bs [.l 0] 2 }, { o := .app (.l 7) (.l 0) true 2 }, { o := .fa (.v 3) 1 }, { o := .st (.l 0) (.l 1) 1 [] }] [(1, 8), (1, 9)])) (.reg [{ o := .mv (.v 4) }, { o := .bin .add (.l 0) (.i 1) }, { o := .mv (.l 0), d := some 4 }] [])))
def ref26_CopyWorld_l1 : C := .loop true [0] K.ref26_CopyWorld_l1b
/-- /ref26.CopyWorld -/
def ref26_CopyWorld : Fn := { nargs := 1, vars := [0, 1, 2, 3, 4], body := (.seq (.reg [{ o := .bx (.v 0) 2, d := some 1 }, { o := .al [.nil, .nil] [], d := some 2 }] []) (.seq (.reg [{ o := .fa (.v 1) 0 }, { o := .ld (.l 0) 1 false }, { o := .app (.c (.nil)) (.l 0) true 1 }, { o := .bd [.nil, .nil] [(0, 1, .l 0)] }, { o := .al [.nil, .nil] [(1, 2)], d := some 3 }, { o := .st (.l 0) (.l 1) 2 [(1, 2)] }] []) (.seq (.seq (.reg [{ o := .mv (.i 0), d := some 4 }] []) (.blk 0 K.ref26_CopyWorld_l1)) (.seq (.reg [{ o := .ld (.v 3) 2 true }, { o := .st (.v 2) (.l 0) 2 [] }] []) .ret)))), res := [(2, some (2, true))] }
def ref26_meet_l1b : C := (.seq (.ite [{ o := .mv (.v 6) }, { o := .fa (.v 3) 1 }, { o := .ld (.l 0) 1 false }, { o := .ln (.l 0) }, { o := .bin .lss (.l 3) (.l 0) }, { o := .mv (.l 0) }, { o := .mv (.v 6), g := some (0, true) }, { o := .fa (.v 4) 1, g := some (1, true) }, { o := .ld (.l 0) 1 false, g := some (2, true) }, { o := .ln (.l 0), g := some (3, true) }, { o := .bin .lss (.l 3) (.l 0), g := some (4, true) }, { o := .pk (.l 5) (.l 0) (.b false) }] [] 0 .skip (.exit 0)) (.seq (.blk 1 (.ite [{ o := .fa (.v 3) 1 }, { o := .ld (.l 0) 1 false }, { o := .mv (.v 6) }, { o := .ia (.l 1) (.l 0) 1 }, { o := .ld (.l 0) 1 false }, { o := .mv (.v 2) }, { o := .bin .leq (.l 1) (.l 0) }, { o := .mv (.l 0) }, { o := .fa (.v 4) 1, g := some (0, true) }, { o := .ld (.l 0) 1 false, g := some (1, true) }, { o := .mv (.v 6), g := some (2, true) }, { o := .ia (.l 1) (.l 0) 1, g := some (3, true) }, { o := .ld (.l 0) 1 false, g := some (4, true) }, { o := .mv (.v 2), g := some (5, true) }, { o := .bin .leq (.l 1) (.l 0), g := some (6, true) }, { o := .pk (.l 7) (.l 0) (.b false) }] [] 0 (.seq (.reg [{ o := .mv (.b true), d := some 5 }] []) .ret) .skip)) (.reg [{ o := .mv (.v 6) }, { o := .bin .add (.l 0) (.i 1) }, { o := .mv (.l 0), d := some 6 }] [])))
def ref26_meet_l1 : C := .loop true [0, 1, 5] K.ref26_meet_l1b
/-- /ref26.meet -/
def ref26_meet : Fn := { nargs := 3, vars := [0, 1, 2, 3, 4, 6, 7], body := (.seq (.reg [{ o := .bx (.v 0) 2, d := some 3 }, { o := .bx (.v 1) 2, d := some 4 }, { o := .mv (.b false), d := some 5 }] []) (.seq (.seq (.reg [{ o := .mv (.i 0), d := some 6 }] []) (.blk 0 K.ref26_meet_l1)) (.seq (.reg [{ o := .mv (.b false), d := some 5 }] []) .ret))), res := [(5, none)] }
/-- /ref25.Raise -/
def ref25_Raise : Fn := { nargs := 2, vars := [0, 1, 2, 4, 5], body := (.seq (.reg [{ o := .bx (.v 0) 2, d := some 2 }, { o := .al [.t (.int .i64 (0)), .nil] [], d := some 3 }, { o := .mv (.i 0), d := some 4 }] []) (.seq (.reg [{ o := .ld (.v 2) 2 true }, { o := .ca N.ref25_Copy 0 [] [.l 0] }, { o := .st (.v 2) (.l 0) 2 [] }] []) (.seq (.ite [{ o := .mv (.v 1) }, { o := .fa (.v 2) 0 }, { o := .ld (.l 0) 1 false }, { o := .bin .lss (.l 2) (.l 0) }, { o := .mv (.l 0) }, { o := .mv (.v 1), g := some (0, false) }, { o := .bin .gtr (.l 0) (.i 2147483648), g := some (1, false) }, { o := .pk (.l 2) (.b true) (.l 0) }] [] 0 (.seq (.reg [{ o := .ld (.v 2) 2 true }, { o := .st (.v 3) (.l 0) 2 [] }, { o := .mv (.i 8), d := some 4 }] []) .ret) .skip) (.seq (.reg [{ o := .mv (.v 1) }, { o := .fa (.v 2) 0 }, { o := .st (.l 0) (.l 1) 1 [] }] []) (.seq (.reg [{ o := .ld (.v 2) 2 true }, { o := .st (.v 3) (.l 0) 2 [] }, { o := .mv (.i 0), d := some 4 }] []) .ret))))), res := [(3, some (2, true)), (4, none)] }
def ref26_Tidy_l2b : C := (.seq (.ite [{ o := .mv (.v 4) }, { o := .mv (.v 2) }, { o := .ln (.l 0) }, { o := .bin .lss (.l 2) (.l 0) }, { o := .mv (.l 0) }, { o := .mv (.v 2), g := some (0, true) }, { o := .mv (.v 4), g := some (1, true) }, { o := .ia (.l 1) (.l 0) 2, g := some (2, true) }, { o := .fa (.l 0) 0, g := some (3, true) }, { o := .ld (.l 0) 1 false, g := some (4, true) }, { o := .mv (.v 0), g := some (5, true) }, { o := .mv (.v 3), g := some (6, true) }, { o := .ia (.l 1) (.l 0) 2, g := some (7, true) }, { o := .fa (.l 0) 0, g := some (8, true) }, { o := .ld (.l 0) 1 false, g := some (9, true) }, { o := .ca N.ref26_Less 0 [] [.l 5, .l 0], g := some (10, true) }, { o := .pk (.l 11) (.l 0) (.b false) }] [] 0 .skip (.exit 2)) (.blk 3 (.reg [{ o := .mv (.v 4) }, { o := .bin .add (.l 0) (.i 1) }, { o := .mv (.l 0), d := some 4 }] [])))
def ref26_Tidy_l2 : C := .loop false [1, 5] K.ref26_Tidy_l2b
def ref26_Tidy_l3b : C := (.seq (.ite [{ o := .mv (.v 5) }, { o := .mv (.v 2) }, { o := .mv (.v 4) }, { o := .ia (.l 1) (.l 0) 2 }, { o := .fa (.l 0) 1 }, { o := .ld (.l 0) 1 false }, { o := .ln (.l 0) }, { o := .bin .lss (.l 6) (.l 0) }, { o := .mv (.l 0) }, { o := .mv (.v 5), g := some (0, true) }, { o := .mv (.v 0), g := some (1, true) }, { o := .mv (.v 3), g := some (2, true) }, { o := .ia (.l 1) (.l 0) 2, g := some (3, true) }, { o := .fa (.l 0) 1, g := some (4, true) }, { o := .ld (.l 0) 1 false, g := some (5, true) }, { o := .ln (.l 0), g := some (6, true) }, { o := .bin .lss (.l 6) (.l 0), g := some (7, true) }, { o := .pk (.l 8) (.l 0) (.b false) }] [] 0 .skip (.exit 4)) (.seq (.blk 5 (.reg [{ o := .mv (.v 2) }, { o := .mv (.v 4) }, { o := .ia (.l 1) (.l 0) 2 }, { o := .fa (.l 0) 1 }, { o := .ld (.l 0) 1 false }, { o := .mv (.v 5) }, { o := .mv (.v 2) }, { o := .mv (.v 4) }, { o := .ia (.l 1) (.l 0) 2 }, { o := .fa (.l 0) 1 }, { o := .ld (.l 0) 1 false }, { o := .mv (.v 5) }, { o := .ia (.l 1) (.l 0) 2 }, { o := .ld (.l 0) 2 true }, { o := .mv (.v 0) }, { o := .mv (.v 3) }, { o := .ia (.l 1) (.l 0) 2 }, { o := .fa (.l 0) 1 }, { o := .ld (.l 0) 1 false }, { o := .mv (.v 5) }, { o := .ia (.l 1) (.l 0) 2 }, { o := .ld (.l 0) 2 true }, { o := .ca N.ref25_Join 0 [] [.l 8, .l 0] }, { o := .mv (.l 0) }, { o := .ex (.l 0) 0 }, { o := .ex (.l 1) 1 }, { o := .ia (.l 21) (.l 20) 2 }, { o := .st (.l 0) (.l 2) 2 [] }] [(2, 23), (4, 23)])) (.reg [{ o := .mv (.v 5) }, { o := .bin .add (.l 0) (.i 1) }, { o := .mv (.l 0), d := some 5 }] [])))
def ref26_Tidy_l3 : C := .loop false [1] K.ref26_Tidy_l3b
def ref26_Tidy_l1b : C := (.seq (.ite [{ o := .mv (.v 3) }, { o := .mv (.v 0) }, { o := .ln (.l 0) }, { o := .bin .lss (.l 2) (.l 0) }] [] 0 .skip (.exit 0)) (.seq (.blk 1 (.seq (.reg [{ o := .mv (.i 0), d := some 4 }] []) (.seq (.blk 2 K.ref26_Tidy_l2) (.seq (.ite [{ o := .mv (.v 4) }, { o := .mv (.v 2) }, { o := .ln (.l 0) }, { o := .bin .lss (.l 2) (.l 0) }, { o := .mv (.l 0) }, { o := .mv (.v 2), g := some (0, true) }, { o := .mv (.v 4), g := some (1, true) }, { o := .ia (.l 1) (.l 0) 2, g := some (2, true) }, { o := .fa (.l 0) 0, g := some (3, true) }, { o := .ld (.l 0) 1 false, g := some (4, true) }, { o := .mv (.v 0), g := some (5, true) }, { o := .mv (.v 3), g := some (6, true) }, { o := .ia (.l 1) (.l 0) 2, g := some (7, true) }, { o := .fa (.l 0) 0, g := some (8, true) }, { o := .ld (.l 0) 1 false, g := some (9, true) }, { o := .ca N.ref23_SameInts 0 [] [.l 5, .l 0], g := some (10, true) }, { o := .pk (.l 11) (.l 0) (.b false) }] [] 0 (.seq (.seq (.reg [{ o := .mv (.i 0), d := some 5 }] []) (.blk 4 K.ref26_Tidy_l3)) (.exit 1)) .skip) (.reg [{ o := .mv (.v 2) }, { o := .mv (.v 4) }, { o := .sc (.l 1) none (some (.l 0)) 2 }, { o := .app (.c (.nil)) (.l 0) false 2 }, { o := .mv (.v 0) }, { o := .mv (.v 3) }, { o := .ia (.l 1) (.l 0) 2 }, { o := .ld (.l 0) 2 true }, { o := .ca N.ref26_CopyWorld 1 [] [.l 0] }, { o := .bsr [.l 0] 2 }, { o := .app (.l 6) (.l 0) false 2 }, { o := .mv (.v 2) }, { o := .mv (.v 4) }, { o := .sc (.l 1) (some (.l 0)) none 2 }, { o := .app (.l 3) (.l 0) false 2 }, { o := .mv (.l 0), d := some 2 }] [(6, 0), (7, 0), (13, 0), (13, 4), (13, 9), (13, 10)]))))) (.reg [{ o := .mv (.v 3) }, { o := .bin .add (.l 0) (.i 1) }, { o := .mv (.l 0), d := some 3 }] [])))
def ref26_Tidy_l1 : C := .loop false [1, 4, 5] K.ref26_Tidy_l1b
/-- /ref26.Tidy -/
def ref26_Tidy : Fn := { nargs := 1, vars := [0, 2, 3, 4, 5, 6], body := (.seq (.reg [{ o := .mv (.c (.nil)), d := some 1 }] []) (.seq (.reg [{ o := .mv (.c (.nil)), d := some 2 }] []) (.seq (.seq (.reg [{ o := .mv (.i 0), d := some 3 }] []) (.blk 0 K.ref26_Tidy_l1)) (.seq (.reg [{ o := .mv (.v 2) }, { o := .mv (.l 0), d := some 1 }] []) .ret)))), res := [(1, none)] }
/-- /ref26.borne -/
def ref26_borne : Fn := { nargs := 3, vars := [0, 1, 2, 3, 4, 6], body := (.seq (.reg [{ o := .bx (.v 0) 2, d := some 3 }, { o := .bx (.v 1) 1, d := some 4 }, { o := .mv (.i 0), d := some 5 }] []) (.seq (.ite [{ o := .ld (.v 3) 2 true }, { o := .ld (.v 4) 1 true }, { o := .ca N.ref26_Valid 0 [] [.l 1, .l 0] }, { o := .un .not (.l 0) }] [] 0 (.seq (.reg [{ o := .mv (.i 6), d := some 5 }] []) .ret) .skip) (.seq (.ite [{ o := .fa (.v 4) 0 }, { o := .ld (.l 0) 1 false }, { o := .ia (.l 0) (.i 0) 2 }, { o := .fa (.l 0) 0 }, { o := .ld (.l 0) 1 false }, { o := .mv (.v 2) }, { o := .ca N.ref26_bearer 0 [] [.l 1, .l 0] }, { o := .bin .lss (.l 0) (.i 0) }] [] 0 (.seq (.reg [{ o := .mv (.i 41), d := some 5 }] []) .ret) .skip) (.seq (.reg [{ o := .mv (.i 0), d := some 5 }] []) .ret)))), res := [(5, none)] }
def ref26_bearer_l1b : C := (.seq (.ite [{ o := .mv (.v 3) }, { o := .mv (.v 0) }, { o := .ln (.l 0) }, { o := .bin .lss (.l 2) (.l 0) }] [] 0 .skip (.exit 0)) (.seq (.blk 1 (.ite [{ o := .mv (.v 0) }, { o := .mv (.v 3) }, { o := .ia (.l 1) (.l 0) 1 }, { o := .ld (.l 0) 1 false }, { o := .mv (.v 1) }, { o := .bin .eql (.l 1) (.l 0) }] [] 0 (.seq (.reg [{ o := .mv (.v 3) }, { o := .mv (.l 0), d := some 2 }] []) .ret) .skip)) (.reg [{ o := .mv (.v 3) }, { o := .bin .add (.l 0) (.i 1) }, { o := .mv (.l 0), d := some 3 }] [])))
def ref26_bearer_l1 : C := .loop true [2] K.ref26_bearer_l1b
/-- /ref26.bearer -/
def ref26_bearer : Fn := { nargs := 2, vars := [0, 1, 4, 5], body := (.seq (.reg [{ o := .mv (.i 0), d := some 2 }] []) (.seq (.seq (.reg [{ o := .mv (.i 0), d := some 3 }] []) (.blk 0 K.ref26_bearer_l1)) (.seq (.reg [{ o := .mv (.i (-1)), d := some 2 }] []) .ret))), res := [(2, none)] }
def ref25_See_l1b : C := (.seq (.ite [{ o := .mv (.v 12) }, { o := .mv (.v 2) }, { o := .ln (.l 0) }, { o := .bin .lss (.l 2) (.l 0) }] [] 0 .skip (.exit 0)) (.seq (.blk 1 (.seq (.reg [{ o := .mv (.v 2) }, { o := .mv (.v 12) }, { o := .ia (.l 1) (.l 0) 1 }, { o := .ld (.l 0) 1 false }, { o := .mv (.l 0), d := some 13 }] []) (.ite [{ o := .fa (.v 6) 1 }, { o := .ld (.l 0) 1 false }, { o := .mv (.v 13) }, { o := .ia (.l 1) (.l 0) 1 }, { o := .ld (.l 0) 1 false }, { o := .mv (.v 4) }, { o := .bin .leq (.l 1) (.l 0) }] [] 0 (.reg [{ o := .mv (.v 10) }, { o := .mv (.v 13) }, { o := .fa (.v 6) 1 }, { o := .ld (.l 0) 1 false }, { o := .mv (.v 13) }, { o := .ia (.l 1) (.l 0) 1 }, { o := .ld (.l 0) 1 false }, { o := .ia (.l 6) (.l 5) 1 }, { o := .st (.l 0) (.l 1) 1 [] }, { o := .mv (.b true), d := some 11 }] []) .skip))) (.reg [{ o := .mv (.v 12) }, { o := .bin .add (.l 0) (.i 1) }, { o := .mv (.l 0), d := some 12 }] [])))
def ref25_See_l1 : C := .loop true [0, 1, 8, 9, 13] K.ref25_See_l1b
/-- /ref25.See -/
def ref25_See : Fn := { nargs := 5, vars := [0, 1, 2, 3, 4, 5, 6, 10, 11, 12, 13, 14, 15, 16], body := (.seq (.reg [{ o := .bx (.v 0) 2, d := some 5 }, { o := .bx (.v 1) 2, d := some 6 }, { o := .al [.t (.int .i64 (0)), .nil] [], d := some 7 }, { o := .mv (.i 0), d := some 8 }] []) (.seq (.seq (.reg [{ o := .ld (.v 5) 2 true }, { o := .ld (.v 6) 2 true }, { o := .mv (.v 2) }, { o := .mv (.v 3) }, { o := .mv (.v 4) }, { o := .ca N.ref25_asked 0 [] [.l 4, .l 3, .l 2, .l 1, .l 0] }, { o := .mv (.l 0), d := some 9 }] []) (.ite [{ o := .mv (.v 9) }, { o := .bin .neq (.l 0) (.i 0) }] [] 0 (.seq (.reg [{ o := .ld (.v 6) 2 true }, { o := .ca N.ref25_Copy 0 [] [.l 0] }, { o := .mv (.v 9) }, { o := .st (.v 7) (.l 1) 2 [] }, { o := .mv (.l 1), d := some 8 }] []) .ret) .skip)) (.seq (.ite [{ o := .mv (.v 3) }, { o := .fa (.v 6) 0 }, { o := .ld (.l 0) 1 false }, { o := .bin .lss (.l 2) (.l 0) }] [] 0 (.seq (.reg [{ o := .ld (.v 6) 2 true }, { o := .ca N.ref25_Copy 0 [] [.l 0] }, { o := .st (.v 7) (.l 0) 2 [] }, { o := .mv (.i 42), d := some 8 }] []) .ret) .skip) (.seq (.reg [{ o := .fa (.v 5) 0 }, { o := .ld (.l 0) 1 false }, { o := .ln (.l 0) }, { o := .ca N.ref25_never 1 [] [.l 0] }, { o := .mv (.l 0), d := some 10 }] []) (.seq (.reg [{ o := .mv (.b false), d := some 11 }] []) (.seq (.seq (.reg [{ o := .mv (.i 0), d := some 12 }] []) (.blk 0 K.ref25_See_l1)) (.seq (.ite [{ o := .mv (.v 11) }, { o := .un .not (.l 0) }] [] 0 (.seq (.reg [{ o := .ld (.v 6) 2 true }, { o := .ca N.ref25_Copy 0 [] [.l 0] }, { o := .st (.v 7) (.l 0) 2 [] }, { o := .mv (.i 43), d := some 8 }] []) .ret) .skip) (.seq (.reg [{ o := .mv (.v 4) }, { o := .ld (.v 5) 2 true }, { o := .mv (.v 10) }, { o := .mv (.v 3) }, { o := .ca N.ref25_Close 0 [] [.l 2, .l 1, .l 0] }, { o := .bd [.t (.int .i64 (0)), .nil] [(0, 1, .l 4), (1, 1, .l 0)] }, { o := .st (.v 7) (.l 0) 2 [] }, { o := .mv (.i 0), d := some 8 }] []) .ret)))))))), res := [(7, some (2, true)), (8, none)] }
def ref25_Absent_l1b : C := (.seq (.ite [{ o := .mv (.v 12) }, { o := .mv (.v 2) }, { o := .ln (.l 0) }, { o := .bin .lss (.l 2) (.l 0) }] [] 0 .skip (.exit 0)) (.seq (.blk 1 (.reg [{ o := .mv (.v 11) }, { o := .mv (.v 2) }, { o := .mv (.v 12) }, { o := .ia (.l 1) (.l 0) 1 }, { o := .ld (.l 0) 1 false }, { o := .ia (.l 4) (.l 0) 1 }, { o := .st (.l 0) (.i 1099511627776) 1 [] }] [])) (.reg [{ o := .mv (.v 12) }, { o := .bin .add (.l 0) (.i 1) }, { o := .mv (.l 0), d := some 12 }] [])))
def ref25_Absent_l1 : C := .loop true [0, 1, 3, 7, 9, 10] K.ref25_Absent_l1b
/-- /ref25.Absent -/
def ref25_Absent : Fn := { nargs := 6, vars := [0, 1, 2, 3, 4, 5, 6, 7, 12, 13, 14, 15, 16], body := (.seq (.reg [{ o := .bx (.v 0) 2, d := some 6 }, { o := .bx (.v 1) 2, d := some 7 }, { o := .al [.t (.int .i64 (0)), .nil] [], d := some 8 }, { o := .mv (.i 0), d := some 9 }] []) (.seq (.seq (.reg [{ o := .ld (.v 6) 2 true }, { o := .ld (.v 7) 2 true }, { o := .mv (.v 2) }, { o := .mv (.v 3) }, { o := .mv (.v 4) }, { o := .ca N.ref25_asked 0 [] [.l 4, .l 3, .l 2, .l 1, .l 0] }, { o := .mv (.l 0), d := some 10 }] []) (.ite [{ o := .mv (.v 10) }, { o := .bin .neq (.l 0) (.i 0) }] [] 0 (.seq (.reg [{ o := .ld (.v 7) 2 true }, { o := .ca N.ref25_Copy 0 [] [.l 0] }, { o := .mv (.v 10) }, { o := .st (.v 8) (.l 1) 2 [] }, { o := .mv (.l 1), d := some 9 }] []) .ret) .skip)) (.seq (.ite [{ o := .mv (.v 5) }, { o := .ca N.ref25_inTime 0 [] [.l 0] }, { o := .un .not (.l 0) }] [] 0 (.seq (.reg [{ o := .ld (.v 7) 2 true }, { o := .ca N.ref25_Copy 0 [] [.l 0] }, { o := .st (.v 8) (.l 0) 2 [] }, { o := .mv (.i 8), d := some 9 }] []) .ret) .skip) (.seq (.ite [{ o := .mv (.v 4) }, { o := .fa (.v 7) 0 }, { o := .ld (.l 0) 1 false }, { o := .bin .lss (.l 2) (.l 0) }] [] 0 (.seq (.reg [{ o := .ld (.v 7) 2 true }, { o := .ca N.ref25_Copy 0 [] [.l 0] }, { o := .st (.v 8) (.l 0) 2 [] }, { o := .mv (.i 42), d := some 9 }] []) .ret) .skip) (.seq (.ite [{ o := .mv (.v 4) }, { o := .mv (.v 3) }, { o := .fa (.v 7) 0 }, { o := .ld (.l 0) 1 false }, { o := .mx [.l 2, .l 0] }, { o := .bin .sub (.l 4) (.l 0) }, { o := .mv (.v 5) }, { o := .bin .leq (.l 1) (.l 0) }] [] 0 (.seq (.reg [{ o := .ld (.v 7) 2 true }, { o := .ca N.ref25_Copy 0 [] [.l 0] }, { o := .st (.v 8) (.l 0) 2 [] }, { o := .mv (.i 0), d := some 9 }] []) .ret) .skip) (.seq (.reg [{ o := .fa (.v 7) 1 }, { o := .ld (.l 0) 1 false }, { o := .app (.c (.nil)) (.l 0) true 1 }, { o := .mv (.l 0), d := some 11 }] []) (.seq (.seq (.reg [{ o := .mv (.i 0), d := some 12 }] []) (.blk 0 K.ref25_Absent_l1)) (.seq (.reg [{ o := .mv (.v 4) }, { o := .ld (.v 6) 2 true }, { o := .ld (.v 6) 2 true }, { o := .mv (.v 11) }, { o := .mv (.v 4) }, { o := .mv (.v 5) }, { o := .bin .sub (.l 1) (.l 0) }, { o := .mv (.v 2) }, { o := .ca N.ref25_close 0 [3] [.l 5, .l 4, .l 1, .l 0] }, { o := .mv (.v 4) }, { o := .ca N.ref25_Close 0 [] [.l 8, .l 1, .l 0] }, { o := .bd [.t (.int .i64 (0)), .nil] [(0, 1, .l 10), (1, 1, .l 0)] }, { o := .st (.v 8) (.l 0) 2 [] }, { o := .mv (.i 0), d := some 9 }] [(1, 9)]) .ret)))))))), res := [(8, some (2, true)), (9, none)] }
def lists_Where_l1b : C := (.its  [{ o := .bin .lss (.v 6) (.v 5) }] [] 0 .skip (.exit 0) (.seq (.blk 1 (.seq (.reg [{ o := .mv (.v 6) }, { o := .mv (.l 0), d := some 4 }] []) (.ite [{ o := .mv (.v 1) }, { o := .mv (.v 4) }, { o := .cw (.l 1) 0 [] [.l 0] }] [] 0 (.reg [{ o := .mv (.v 3) }, { o := .mv (.v 4) }, { o := .bs [.l 0] 1 }, { o := .app (.l 2) (.l 0) true 1 }, { o := .mv (.l 0), d := some 3 }] []) .skip))) (.reg [{ o := .bin .add (.v 6) (.i 1) }, { o := .mv (.l 0), d := some 6 }] [])))
def lists_Where_l1 : C := .loop true [0, 2, 4] K.lists_Where_l1b
/-- /lists.Where -/
def lists_Where : Fn := { nargs := 2, vars := [0, 1, 4, 5, 6, 7, 8], body := (.seq (.reg [{ o := .mv (.c (.nil)), d := some 2 }] []) (.seq (.reg [{ o := .nw 1, d := some 3 }] []) (.seq (.seq (.reg [{ o := .mv (.v 0), d := some 5 }, { o := .mv (.i 0), d := some 6 }] []) (.blk 0 K.lists_Where_l1)) (.seq (.reg [{ o := .mv (.v 3) }, { o := .mv (.l 0), d := some 2 }] []) .ret)))), res := [(2, none)] }
/-- /smoke.Filled.1 -/
def smoke_Filled_1 : Fn := { nargs := 3, vars := [0, 1, 2, 4], body := (.seq (.reg [{ o := .mv (.b false), d := some 3 }] []) (.seq (.reg [{ o := .fa (.v 1) 1 }, { o := .ld (.l 0) 1 false }, { o := .mv (.v 0) }, { o := .ia (.l 1) (.l 0) 1 }, { o := .ld (.l 0) 1 false }, { o := .ld (.v 2) 1 false }, { o := .bin .leq (.l 1) (.l 0) }, { o := .mv (.l 0), d := some 3 }] []) .ret)), res := [(3, none)] }
/-- slices.ContainsFunc[[]int,int] -/
def slices_ContainsFunc_int_int : Fn := { nargs := 2, vars := [0, 1, 4], body := (.seq (.reg [{ o := .mv (.b false), d := some 2 }] []) (.seq (.reg [{ o := .mv (.v 0) }, { o := .mv (.v 1) }, { o := .ca N.slices_IndexFunc_int_int 0 [] [.l 1, .l 0] }, { o := .bin .geq (.l 0) (.i 0) }, { o := .mv (.l 0), d := some 2 }] []) .ret)), res := [(2, none)] }
/-- /firerules.meets.1 -/
def firerules_meets_1 : Fn := { nargs := 2, vars := [0, 1, 3], body := (.seq (.reg [{ o := .mv (.b false), d := some 2 }] []) (.seq (.reg [{ o := .ld (.v 1) 1 false }, { o := .mv (.v 0) }, { o := .ca N.slices_Contains_int_int 0 [] [.l 1, .l 0] }, { o := .mv (.l 0), d := some 2 }] []) .ret)), res := [(2, none)] }
/-- slices.Contains[[]int,int] -/
def slices_Contains_int_int : Fn := { nargs := 2, vars := [0, 1, 4], body := (.seq (.reg [{ o := .mv (.b false), d := some 2 }] []) (.seq (.reg [{ o := .mv (.v 0) }, { o := .mv (.v 1) }, { o := .ca N.slices_Index_int_int 0 [] [.l 1, .l 0] }, { o := .bin .geq (.l 0) (.i 0) }, { o := .mv (.l 0), d := some 2 }] []) .ret)), res := [(2, none)] }
/-- /firerules.near.1 -/
def firerules_near_1 : Fn := { nargs := 4, vars := [0, 1, 2, 3, 5], body := (.seq (.reg [{ o := .mv (.b false), d := some 4 }] []) (.seq (.reg [{ o := .ld (.v 1) 1 true }, { o := .mv (.v 0) }, { o := .ld (.v 2) 1 false }, { o := .ca N.swaps_Possible 0 [] [.l 2, .l 1, .l 0] }, { o := .fa (.v 3) 2 }, { o := .ld (.l 0) 1 false }, { o := .ca N.firerules_meets 0 [] [.l 2, .l 0] }, { o := .mv (.l 0), d := some 4 }] [(5, 0)]) .ret)), res := [(4, none)] }
/-- /swaps.Possible -/
def swaps_Possible : Fn := { nargs := 3, vars := [0, 1, 2, 3, 4, 5, 6], body := (.seq (.reg [{ o := .bx (.v 0) 1, d := some 3 }, { o := .bx (.v 1) 1, d := some 4 }, { o := .bx (.v 2) 1, d := some 5 }, { o := .mv (.c (.nil)), d := some 6 }] []) (.seq (.reg [{ o := .mf N.swaps_Possible_1 [.v 3, .v 4, .v 5] }, { o := .ca N.lists_Where 0 [] [.i 64, .l 0] }, { o := .mv (.l 0), d := some 6 }] []) .ret)), res := [(6, none)] }
/-- /ref01.Span -/
def ref01_Span : Fn := { nargs := 3, vars := [0, 1, 2, 3, 6], body := (.seq (.reg [{ o := .bx (.v 0) 2, d := some 3 }, { o := .mv (.b false), d := some 4 }] []) (.seq (.reg [{ o := .mv (.v 1) }, { o := .fa (.v 3) 0 }, { o := .ld (.l 0) 1 false }, { o := .bin .leq (.l 2) (.l 0) }, { o := .mv (.l 0) }, { o := .fa (.v 3) 0, g := some (0, true) }, { o := .ld (.l 0) 1 false, g := some (1, true) }, { o := .fa (.v 3) 1, g := some (2, true) }, { o := .ld (.l 0) 1 false, g := some (3, true) }, { o := .bin .leq (.l 2) (.l 0), g := some (4, true) }, { o := .pk (.l 5) (.l 0) (.b false) }, { o := .mv (.l 0) }, { o := .fa (.v 3) 1, g := some (0, true) }, { o := .ld (.l 0) 1 false, g := some (1, true) }, { o := .mv (.v 2), g := some (2, true) }, { o := .bin .leq (.l 1) (.l 0), g := some (3, true) }, { o := .pk (.l 4) (.l 0) (.b false) }, { o := .mv (.l 0), d := some 4 }] []) .ret)), res := [(4, none)] }
/-- /ref28.Span -/
def ref28_Span : Fn := { nargs := 1, vars := [0, 1, 2], body := (.seq (.reg [{ o := .bx (.v 0) 2, d := some 1 }, { o := .mv (.b false), d := some 2 }] []) (.seq (.reg [{ o := .fa (.v 1) 0 }, { o := .ld (.l 0) 1 false }, { o := .bin .geq (.l 0) (.i (-1125899906842624)) }, { o := .mv (.l 0) }, { o := .fa (.v 1) 1, g := some (0, true) }, { o := .ld (.l 0) 1 false, g := some (1, true) }, { o := .bin .leq (.l 0) (.i 1125899906842624), g := some (2, true) }, { o := .pk (.l 3) (.l 0) (.b false) }, { o := .mv (.l 0) }, { o := .fa (.v 1) 0, g := some (0, true) }, { o := .ld (.l 0) 1 false, g := some (1, true) }, { o := .fa (.v 1) 1, g := some (2, true) }, { o := .ld (.l 0) 1 false, g := some (3, true) }, { o := .bin .leq (.l 2) (.l 0), g := some (4, true) }, { o := .pk (.l 5) (.l 0) (.b false) }, { o := .mv (.l 0), d := some 2 }] []) .ret)), res := [(2, none)] }
/-- /ref25.inTime -/
def ref25_inTime : Fn := { nargs := 1, vars := [0, 2], body := (.seq (.reg [{ o := .mv (.b false), d := some 1 }] []) (.seq (.reg [{ o := .mv (.v 0) }, { o := .bin .geq (.l 0) (.i 0) }, { o := .mv (.l 0) }, { o := .mv (.v 0), g := some (0, true) }, { o := .bin .leq (.l 0) (.i 2147483648), g := some (1, true) }, { o := .pk (.l 2) (.l 0) (.b false) }, { o := .mv (.l 0), d := some 1 }] []) .ret)), res := [(1, none)] }
def ref25_never_l1b : C := (.seq (.ite [{ o := .mv (.v 3) }, { o := .mv (.v 0) }, { o := .bin .lss (.l 1) (.l 0) }] [] 0 .skip (.exit 0)) (.seq (.blk 1 (.reg [{ o := .mv (.v 2) }, { o := .bs [.i 1099511627776] 1 }, { o := .app (.l 1) (.l 0) true 1 }, { o := .mv (.l 0), d := some 2 }] [])) (.reg [{ o := .mv (.v 3) }, { o := .bin .add (.l 0) (.i 1) }, { o := .mv (.l 0), d := some 3 }] [])))
def ref25_never_l1 : C := .loop true [1] K.ref25_never_l1b
/-- /ref25.never -/
def ref25_never : Fn := { nargs := 1, vars := [0, 2, 3, 4], body := (.seq (.reg [{ o := .mv (.c (.nil)), d := some 1 }] []) (.seq (.reg [{ o := .nw 1, d := some 2 }] []) (.seq (.seq (.reg [{ o := .mv (.i 0), d := some 3 }] []) (.blk 0 K.ref25_never_l1)) (.seq (.reg [{ o := .mv (.v 2) }, { o := .mv (.l 0), d := some 1 }] []) .ret)))), res := [(1, none)] }
/-- /ref25.Close -/
def ref25_Close : Fn := { nargs := 3, vars := [0, 1, 2, 3, 6], body := (.seq (.reg [{ o := .bx (.v 0) 2, d := some 3 }, { o := .mv (.c (.nil)), d := some 4 }] []) (.seq (.reg [{ o := .ld (.v 3) 2 true }, { o := .mv (.v 1) }, { o := .mv (.v 2) }, { o := .ca N.ref25_close 0 [3] [.l 2, .l 1, .l 0, .c (.nil)] }, { o := .mv (.l 0), d := some 4 }] []) .ret)), res := [(4, none)] }
def ref26_Less_l1b : C := (.seq (.ite [{ o := .mv (.v 3) }, { o := .mv (.v 0) }, { o := .ln (.l 0) }, { o := .bin .lss (.l 2) (.l 0) }, { o := .mv (.l 0) }, { o := .mv (.v 3), g := some (0, true) }, { o := .mv (.v 1), g := some (1, true) }, { o := .ln (.l 0), g := some (2, true) }, { o := .bin .lss (.l 2) (.l 0), g := some (3, true) }, { o := .pk (.l 4) (.l 0) (.b false) }] [] 0 .skip (.exit 0)) (.seq (.blk 1 (.ite [{ o := .mv (.v 0) }, { o := .mv (.v 3) }, { o := .ia (.l 1) (.l 0) 1 }, { o := .ld (.l 0) 1 false }, { o := .mv (.v 1) }, { o := .mv (.v 3) }, { o := .ia (.l 1) (.l 0) 1 }, { o := .ld (.l 0) 1 false }, { o := .bin .neq (.l 4) (.l 0) }] [] 0 (.seq (.reg [{ o := .mv (.v 0) }, { o := .mv (.v 3) }, { o := .ia (.l 1) (.l 0) 1 }, { o := .ld (.l 0) 1 false }, { o := .mv (.v 1) }, { o := .mv (.v 3) }, { o := .ia (.l 1) (.l 0) 1 }, { o := .ld (.l 0) 1 false }, { o := .bin .lss (.l 4) (.l 0) }, { o := .mv (.l 0), d := some 2 }] []) .ret) .skip)) (.reg [{ o := .mv (.v 3) }, { o := .bin .add (.l 0) (.i 1) }, { o := .mv (.l 0), d := some 3 }] [])))
def ref26_Less_l1 : C := .loop true [2] K.ref26_Less_l1b
/-- /ref26.Less -/
def ref26_Less : Fn := { nargs := 2, vars := [0, 1, 4, 5], body := (.seq (.reg [{ o := .mv (.b false), d := some 2 }] []) (.seq (.seq (.reg [{ o := .mv (.i 0), d := some 3 }] []) (.blk 0 K.ref26_Less_l1)) (.seq (.reg [{ o := .mv (.v 0) }, { o := .ln (.l 0) }, { o := .mv (.v 1) }, { o := .ln (.l 0) }, { o := .bin .lss (.l 2) (.l 0) }, { o := .mv (.l 0), d := some 2 }] []) .ret))), res := [(2, none)] }
/-- /ref25.Valid -/
def ref25_Valid : Fn := { nargs := 2, vars := [0, 1, 2, 3, 4], body := (.seq (.reg [{ o := .bx (.v 0) 2, d := some 2 }, { o := .bx (.v 1) 2, d := some 3 }, { o := .mv (.b false), d := some 4 }] []) (.seq (.reg [{ o := .ld (.v 2) 2 true }, { o := .ca N.ref01_Check 0 [] [.l 0] }, { o := .bin .eql (.l 0) (.i 0) }, { o := .mv (.l 0) }, { o := .ld (.v 3) 2 true, g := some (0, true) }, { o := .fa (.v 2) 0, g := some (1, true) }, { o := .ld (.l 0) 1 false, g := some (2, true) }, { o := .ln (.l 0), g := some (3, true) }, { o := .ca N.ref25_Plain 0 [] [.l 3, .l 0], g := some (4, true) }, { o := .pk (.l 5) (.l 0) (.b false) }, { o := .mv (.l 0) }, { o := .ld (.v 2) 2 true, g := some (0, true) }, { o := .fa (.v 3) 1, g := some (1, true) }, { o := .ld (.l 0) 1 false, g := some (2, true) }, { o := .fa (.v 3) 0, g := some (3, true) }, { o := .ld (.l 0) 1 false, g := some (4, true) }, { o := .ca N.ref25_Close 0 [] [.l 4, .l 2, .l 0], g := some (5, true) }, { o := .fa (.v 3) 1, g := some (6, true) }, { o := .ld (.l 0) 1 false, g := some (7, true) }, { o := .ca N.ref23_SameInts 0 [] [.l 2, .l 0], g := some (8, true) }, { o := .pk (.l 9) (.l 0) (.b false) }, { o := .mv (.l 0), d := some 4 }] [(18, 9)]) .ret)), res := [(4, none)] }
/-- /ref25.Copy -/
def ref25_Copy : Fn := { nargs := 1, vars := [0, 1, 2], body := (.seq (.reg [{ o := .bx (.v 0) 2, d := some 1 }, { o := .al [.t (.int .i64 (0)), .nil] [], d := some 2 }] []) (.seq (.reg [{ o := .fa (.v 1) 0 }, { o := .ld (.l 0) 1 false }, { o := .fa (.v 1) 1 }, { o := .ld (.l 0) 1 false }, { o := .app (.c (.nil)) (.l 0) true 1 }, { o := .bd [.t (.int .i64 (0)), .nil] [(0, 1, .l 3), (1, 1, .l 0)] }, { o := .st (.v 2) (.l 0) 2 [] }] [(1, 5)]) .ret)), res := [(2, some (2, true))] }
def ref23_SameInts_l1b : C := (.seq (.ite [{ o := .mv (.v 3) }, { o := .mv (.v 0) }, { o := .ln (.l 0) }, { o := .bin .lss (.l 2) (.l 0) }] [] 0 .skip (.exit 0)) (.seq (.blk 1 (.ite [{ o := .mv (.v 0) }, { o := .mv (.v 3) }, { o := .ia (.l 1) (.l 0) 1 }, { o := .ld (.l 0) 1 false }, { o := .mv (.v 1) }, { o := .mv (.v 3) }, { o := .ia (.l 1) (.l 0) 1 }, { o := .ld (.l 0) 1 false }, { o := .bin .neq (.l 4) (.l 0) }] [] 0 (.seq (.reg [{ o := .mv (.b false), d := some 2 }] []) .ret) .skip)) (.reg [{ o := .mv (.v 3) }, { o := .bin .add (.l 0) (.i 1) }, { o := .mv (.l 0), d := some 3 }] [])))
def ref23_SameInts_l1 : C := .loop true [2] K.ref23_SameInts_l1b
/-- /ref23.SameInts -/
def ref23_SameInts : Fn := { nargs := 2, vars := [0, 1, 4, 5], body := (.seq (.reg [{ o := .mv (.b false), d := some 2 }] []) (.seq (.ite [{ o := .mv (.v 0) }, { o := .ln (.l 0) }, { o := .mv (.v 1) }, { o := .ln (.l 0) }, { o := .bin .neq (.l 2) (.l 0) }] [] 0 (.seq (.reg [{ o := .mv (.b false), d := some 2 }] []) .ret) .skip) (.seq (.seq (.reg [{ o := .mv (.i 0), d := some 3 }] []) (.blk 0 K.ref23_SameInts_l1)) (.seq (.reg [{ o := .mv (.b true), d := some 2 }] []) .ret)))), res := [(2, none)] }
def ref25_Join_l1b : C := (.seq (.ite [{ o := .mv (.v 7) }, { o := .fa (.v 2) 1 }, { o := .ld (.l 0) 1 false }, { o := .ln (.l 0) }, { o := .bin .lss (.l 3) (.l 0) }] [] 0 .skip (.exit 0)) (.seq (.blk 1 (.reg [{ o := .fa (.v 6) 1 }, { o := .ld (.l 0) 1 false }, { o := .fa (.v 2) 1 }, { o := .ld (.l 0) 1 false }, { o := .mv (.v 7) }, { o := .ia (.l 1) (.l 0) 1 }, { o := .ld (.l 0) 1 false }, { o := .fa (.v 3) 1 }, { o := .ld (.l 0) 1 false }, { o := .mv (.v 7) }, { o := .ia (.l 1) (.l 0) 1 }, { o := .ld (.l 0) 1 false }, { o := .mn [.l 5, .l 0] }, { o := .bs [.l 0] 1 }, { o := .app (.l 12) (.l 0) true 1 }, { o := .fa (.v 6) 1 }, { o := .st (.l 0) (.l 1) 1 [] }] [(1, 14)])) (.reg [{ o := .mv (.v 7) }, { o := .bin .add (.l 0) (.i 1) }, { o := .mv (.l 0), d := some 7 }] [])))
def ref25_Join_l1 : C := .loop true [0, 1, 5] K.ref25_Join_l1b
/-- /ref25.Join -/
def ref25_Join : Fn := { nargs := 2, vars := [0, 1, 2, 3, 4, 5, 6, 7], body := (.seq (.reg [{ o := .bx (.v 0) 2, d := some 2 }, { o := .bx (.v 1) 2, d := some 3 }, { o := .al [.t (.int .i64 (0)), .nil] [], d := some 4 }, { o := .mv (.i 0), d := some 5 }] []) (.seq (.ite [{ o := .fa (.v 2) 1 }, { o := .ld (.l 0) 1 false }, { o := .ln (.l 0) }, { o := .fa (.v 3) 1 }, { o := .ld (.l 0) 1 false }, { o := .ln (.l 0) }, { o := .bin .neq (.l 3) (.l 0) }] [] 0 (.seq (.reg [{ o := .bd [.t (.int .i64 (0)), .nil] [] }, { o := .st (.v 4) (.l 0) 2 [] }, { o := .mv (.i 6), d := some 5 }] []) .ret) .skip) (.seq (.reg [{ o := .fa (.v 2) 0 }, { o := .ld (.l 0) 1 false }, { o := .fa (.v 3) 0 }, { o := .ld (.l 0) 1 false }, { o := .mx [.l 2, .l 0] }, { o := .bd [.t (.int .i64 (0)), .nil] [(0, 1, .l 0)] }, { o := .al [.t (.int .i64 (0)), .nil] [(1, 1)], d := some 6 }, { o := .st (.l 0) (.l 1) 2 [(1, 1)] }] []) (.seq (.seq (.reg [{ o := .mv (.i 0), d := some 7 }] []) (.blk 0 K.ref25_Join_l1)) (.seq (.reg [{ o := .ld (.v 6) 2 true }, { o := .st (.v 4) (.l 0) 2 [] }, { o := .mv (.i 0), d := some 5 }] []) .ret))))), res := [(4, some (2, true)), (5, none)] }
/-- /ref25.asked -/
def ref25_asked : Fn := { nargs := 5, vars := [0, 1, 2, 3, 4, 5, 6, 10], body := (.seq (.reg [{ o := .bx (.v 0) 2, d := some 5 }, { o := .bx (.v 1) 2, d := some 6 }, { o := .mv (.i 0), d := some 7 }] []) (.seq (.ite [{ o := .ld (.v 5) 2 true }, { o := .ld (.v 6) 2 true }, { o := .ca N.ref25_Valid 0 [] [.l 1, .l 0] }, { o := .un .not (.l 0) }, { o := .mv (.l 0) }, { o := .mv (.v 2), g := some (0, false) }, { o := .ln (.l 0), g := some (1, false) }, { o := .bin .eql (.l 0) (.i 0), g := some (2, false) }, { o := .pk (.l 3) (.b true) (.l 0) }, { o := .mv (.l 0) }, { o := .mv (.v 2), g := some (0, false) }, { o := .fa (.v 5) 0, g := some (1, false) }, { o := .ld (.l 0) 1 false, g := some (2, false) }, { o := .ln (.l 0), g := some (3, false) }, { o := .ca N.ref23_Set 0 [] [.l 3, .l 0], g := some (4, false) }, { o := .un .not (.l 0), g := some (5, false) }, { o := .pk (.l 6) (.b true) (.l 0) }] [] 0 (.seq (.reg [{ o := .mv (.i 6), d := some 7 }] []) .ret) .skip) (.seq (.ite [{ o := .mv (.v 3) }, { o := .ca N.ref25_inTime 0 [] [.l 0] }, { o := .un .not (.l 0) }, { o := .mv (.l 0) }, { o := .mv (.v 4), g := some (0, false) }, { o := .ca N.ref25_inTime 0 [] [.l 0], g := some (1, false) }, { o := .un .not (.l 0), g := some (2, false) }, { o := .pk (.l 3) (.b true) (.l 0) }, { o := .mv (.l 0) }, { o := .mv (.v 3), g := some (0, false) }, { o := .mv (.v 4), g := some (1, false) }, { o := .bin .gtr (.l 1) (.l 0), g := some (2, false) }, { o := .pk (.l 3) (.b true) (.l 0) }] [] 0 (.seq (.reg [{ o := .mv (.i 8), d := some 7 }] []) .ret) .skip) (.seq (.reg [{ o := .mv (.i 0), d := some 7 }] []) .ret)))), res := [(7, none)] }
def ref25_close_l2b : C := (.seq (.ite [{ o := .mv (.v 8) }, { o := .fa (.v 4) 1 }, { o := .ld (.l 0) 1 false }, { o := .ln (.l 0) }, { o := .bin .lss (.l 3) (.l 0) }] [] 0 .skip (.exit 2)) (.seq (.blk 3 (.seq (.reg [{ o := .fa (.v 4) 1 }, { o := .ld (.l 0) 1 false }, { o := .mv (.v 8) }, { o := .ia (.l 1) (.l 0) 10 }, { o := .ld (.l 0) 10 true }, { o := .al [.t (.int .i64 (0)), .t (.int .i64 (0)), .t (.int .i64 (0)), .t (.int .i64 (0)), .t (.bool false), .t (.bool false), .t (.int .i64 (0)), .t (.int .i64 (0)), .t (.int .i64 (0)), .t (.int .i64 (0))] [], d := some 9 }, { o := .st (.l 0) (.l 1) 10 [] }] []) (.seq (.ite [{ o := .mv (.v 3) }, { o := .eqk (.sl) false (.l 0) (.c (.nil)) }, { o := .mv (.l 0) }, { o := .mv (.v 3), g := some (0, false) }, { o := .fa (.v 9) 1, g := some (1, false) }, { o := .ld (.l 0) 1 false, g := some (2, false) }, { o := .ca N.ref23_Has 0 [] [.l 2, .l 0], g := some (3, false) }, { o := .pk (.l 4) (.b true) (.l 0) }, { o := .mv (.l 0) }, { o := .mv (.v 6), g := some (0, true) }, { o := .fa (.v 9) 0, g := some (1, true) }, { o := .ld (.l 0) 1 false, g := some (2, true) }, { o := .fa (.v 9) 1, g := some (3, true) }, { o := .ld (.l 0) 1 false, g := some (4, true) }, { o := .ld (.v 4) 2 true, g := some (5, true) }, { o := .mv (.v 8), g := some (6, true) }, { o := .ca N.ref03_Time 0 [] [.l 1, .l 0, .b false], g := some (7, true) }, { o := .mv (.v 2), g := some (8, true) }, { o := .ca N.ref25_lower 0 [0] [.l 8, .l 6, .l 4, .l 1, .l 0], g := some (9, true) }, { o := .pk (.l 10) (.l 0) (.b false) }] [(11, 17), (13, 17)] 0 (.reg [{ o := .mv (.b true), d := some 7 }] []) .skip) (.ite [{ o := .mv (.v 3) }, { o := .eqk (.sl) false (.l 0) (.c (.nil)) }, { o := .mv (.l 0) }, { o := .mv (.v 3), g := some (0, false) }, { o := .fa (.v 9) 0, g := some (1, false) }, { o := .ld (.l 0) 1 false, g := some (2, false) }, { o := .ca N.ref23_Has 0 [] [.l 2, .l 0], g := some (3, false) }, { o := .pk (.l 4) (.b true) (.l 0) }, { o := .mv (.l 0) }, { o := .mv (.v 6), g := some (0, true) }, { o := .fa (.v 9) 1, g := some (1, true) }, { o := .ld (.l 0) 1 false, g := some (2, true) }, { o := .fa (.v 9) 0, g := some (3, true) }, { o := .ld (.l 0) 1 false, g := some (4, true) }, { o := .ld (.v 4) 2 true, g := some (5, true) }, { o := .mv (.v 8), g := some (6, true) }, { o := .ca N.ref03_Time 0 [] [.l 1, .l 0, .b true], g := some (7, true) }, { o := .mv (.v 2), g := some (8, true) }, { o := .ca N.ref25_lower 0 [0] [.l 8, .l 6, .l 4, .l 1, .l 0], g := some (9, true) }, { o := .pk (.l 10) (.l 0) (.b false) }] [(11, 17), (13, 17)] 0 (.reg [{ o := .mv (.b true), d := some 7 }] []) .skip)))) (.reg [{ o := .mv (.v 8) }, { o := .bin .add (.l 0) (.i 1) }, { o := .mv (.l 0), d := some 8 }] [])))
def ref25_close_l2 : C := .loop true [0, 1, 5, 9] K.ref25_close_l2b
def ref25_close_l1b : C := (.seq (.ite [{ o := .mv (.v 7) }] [] 0 .skip (.exit 0)) (.blk 1 (.seq (.reg [{ o := .mv (.b false), d := some 7 }] []) (.seq (.reg [{ o := .mv (.i 0), d := some 8 }] []) (.blk 2 K.ref25_close_l2)))))
def ref25_close_l1 : C := .loop true [0, 1, 5, 8, 9] K.ref25_close_l1b
/-- /ref25.close -/
def ref25_close : Fn := { nargs := 4, vars := [0, 1, 2, 3, 4, 8, 9, 10, 11, 12], body := (.seq (.reg [{ o := .bx (.v 0) 2, d := some 4 }, { o := .mv (.c (.nil)), d := some 5 }] []) (.seq (.reg [{ o := .mv (.v 1) }, { o := .app (.c (.nil)) (.l 0) true 1 }, { o := .mv (.l 0), d := some 6 }] []) (.seq (.seq (.reg [{ o := .mv (.b true), d := some 7 }] []) (.blk 0 K.ref25_close_l1)) (.seq (.reg [{ o := .mv (.v 6) }, { o := .mv (.l 0), d := some 5 }] []) .ret)))), res := [(5, none)] }
def slices_IndexFunc_int_int_l1b : C := (.its  [{ o := .bin .lss (.v 5) (.v 4) }] [] 0 .skip (.exit 0) (.seq (.blk 1 (.seq (.reg [{ o := .mv (.v 5) }, { o := .mv (.l 0), d := some 3 }] []) (.ite [{ o := .mv (.v 1) }, { o := .mv (.v 0) }, { o := .mv (.v 3) }, { o := .ia (.l 1) (.l 0) 1 }, { o := .ld (.l 0) 1 false }, { o := .cw (.l 4) 0 [] [.l 0] }] [] 0 (.seq (.reg [{ o := .mv (.v 3) }, { o := .mv (.l 0), d := some 2 }] []) .ret) .skip))) (.reg [{ o := .bin .add (.v 5) (.i 1) }, { o := .mv (.l 0), d := some 5 }] [])))
def slices_IndexFunc_int_int_l1 : C := .loop true [2, 3] K.slices_IndexFunc_int_int_l1b
/-- slices.IndexFunc[[]int,int] -/
def slices_IndexFunc_int_int : Fn := { nargs := 2, vars := [0, 1, 4, 5, 7, 8], body := (.seq (.reg [{ o := .mv (.i 0), d := some 2 }] []) (.seq (.seq (.reg [{ o := .mv (.v 0) }, { o := .ln (.l 0), d := some 4 }, { o := .mv (.i 0), d := some 5 }] []) (.blk 0 K.slices_IndexFunc_int_int_l1)) (.seq (.reg [{ o := .mv (.i (-1)), d := some 2 }] []) .ret))), res := [(2, none)] }
def slices_Index_int_int_l1b : C := (.its  [{ o := .bin .lss (.v 5) (.v 4) }] [] 0 .skip (.exit 0) (.seq (.blk 1 (.seq (.reg [{ o := .mv (.v 5) }, { o := .mv (.l 0), d := some 3 }] []) (.ite [{ o := .mv (.v 1) }, { o := .mv (.v 0) }, { o := .mv (.v 3) }, { o := .ia (.l 1) (.l 0) 1 }, { o := .ld (.l 0) 1 false }, { o := .bin .eql (.l 4) (.l 0) }] [] 0 (.seq (.reg [{ o := .mv (.v 3) }, { o := .mv (.l 0), d := some 2 }] []) .ret) .skip))) (.reg [{ o := .bin .add (.v 5) (.i 1) }, { o := .mv (.l 0), d := some 5 }] [])))
def slices_Index_int_int_l1 : C := .loop true [2, 3] K.slices_Index_int_int_l1b
/-- slices.Index[[]int,int] -/
def slices_Index_int_int : Fn := { nargs := 2, vars := [0, 1, 4, 5, 7, 8], body := (.seq (.reg [{ o := .mv (.i 0), d := some 2 }] []) (.seq (.seq (.reg [{ o := .mv (.v 0) }, { o := .ln (.l 0), d := some 4 }, { o := .mv (.i 0), d := some 5 }] []) (.blk 0 K.slices_Index_int_int_l1)) (.seq (.reg [{ o := .mv (.i (-1)), d := some 2 }] []) .ret))), res := [(2, none)] }
/-- /swaps.Possible.1 -/
def swaps_Possible_1 : Fn := { nargs := 4, vars := [0, 1, 2, 3, 4, 5], body := (.seq (.reg [{ o := .bx (.v 0) 1, d := some 4 }, { o := .mv (.b false), d := some 5 }] []) (.seq (.reg [{ o := .fa (.v 1) 0 }, { o := .ld (.l 0) 1 false }, { o := .mf N.swaps_Possible_1_1 [.v 2, .v 4, .v 3] }, { o := .ca N.slices_ContainsFunc_api_World_api_World 0 [] [.l 1, .l 0] }, { o := .mv (.l 0), d := some 5 }] []) .ret)), res := [(5, none)] }
/-- slices.ContainsFunc[[]/api.World,/api.World] -/
def slices_ContainsFunc_api_World_api_World : Fn := { nargs := 2, vars := [0, 1, 4], body := (.seq (.reg [{ o := .mv (.b false), d := some 2 }] []) (.seq (.reg [{ o := .mv (.v 0) }, { o := .mv (.v 1) }, { o := .ca N.slices_IndexFunc_api_World_api_World 0 [] [.l 1, .l 0] }, { o := .bin .geq (.l 0) (.i 0) }, { o := .mv (.l 0), d := some 2 }] []) .ret)), res := [(2, none)] }
/-- /swaps.Possible.1.1 -/
def swaps_Possible_1_1 : Fn := { nargs := 4, vars := [0, 1, 2, 3, 4, 5], body := (.seq (.reg [{ o := .bx (.v 0) 2, d := some 4 }, { o := .mv (.b false), d := some 5 }] []) (.seq (.reg [{ o := .ld (.v 1) 1 false }, { o := .fa (.v 4) 1 }, { o := .ld (.l 0) 1 false }, { o := .ln (.l 0) }, { o := .bin .sub (.l 0) (.i 1) }, { o := .ca N.lists_In 0 [] [.l 4, .i 0, .l 0] }, { o := .mv (.l 0) }, { o := .ld (.v 2) 1 false, g := some (0, true) }, { o := .fa (.v 4) 1, g := some (1, true) }, { o := .ld (.l 0) 1 false, g := some (2, true) }, { o := .ld (.v 1) 1 false, g := some (3, true) }, { o := .ia (.l 1) (.l 0) 2, g := some (4, true) }, { o := .fa (.l 0) 1, g := some (5, true) }, { o := .ld (.l 0) 1 false, g := some (6, true) }, { o := .ln (.l 0), g := some (7, true) }, { o := .bin .lss (.l 7) (.l 0), g := some (8, true) }, { o := .pk (.l 9) (.l 0) (.b false) }, { o := .mv (.l 0) }, { o := .fa (.v 4) 1, g := some (0, true) }, { o := .ld (.l 0) 1 false, g := some (1, true) }, { o := .ld (.v 1) 1 false, g := some (2, true) }, { o := .ia (.l 1) (.l 0) 2, g := some (3, true) }, { o := .fa (.l 0) 1, g := some (4, true) }, { o := .ld (.l 0) 1 false, g := some (5, true) }, { o := .ld (.v 2) 1 false, g := some (6, true) }, { o := .ia (.l 1) (.l 0) 1, g := some (7, true) }, { o := .ld (.l 0) 1 false, g := some (8, true) }, { o := .ld (.v 3) 1 false, g := some (9, true) }, { o := .bin .leq (.l 1) (.l 0), g := some (10, true) }, { o := .pk (.l 11) (.l 0) (.b false) }, { o := .mv (.l 0), d := some 5 }] []) .ret)), res := [(5, none)] }
/-- /lists.In -/
def lists_In : Fn := { nargs := 3, vars := [0, 1, 2, 6], body := (.seq (.reg [{ o := .mv (.b false), d := some 3 }] []) (.seq (.reg [{ o := .mv (.v 0) }, { o := .mv (.v 1) }, { o := .bin .geq (.l 1) (.l 0) }, { o := .mv (.l 0) }, { o := .mv (.v 0), g := some (0, true) }, { o := .mv (.v 2), g := some (1, true) }, { o := .bin .leq (.l 1) (.l 0), g := some (2, true) }, { o := .pk (.l 3) (.l 0) (.b false) }, { o := .mv (.l 0), d := some 3 }] []) .ret)), res := [(3, none)] }
def ref25_Plain_l1b : C := (.seq (.ite [{ o := .mv (.v 4) }, { o := .fa (.v 2) 1 }, { o := .ld (.l 0) 1 false }, { o := .ln (.l 0) }, { o := .bin .lss (.l 3) (.l 0) }] [] 0 .skip (.exit 0)) (.seq (.blk 1 (.ite [{ o := .fa (.v 2) 1 }, { o := .ld (.l 0) 1 false }, { o := .mv (.v 4) }, { o := .ia (.l 1) (.l 0) 1 }, { o := .ld (.l 0) 1 false }, { o := .bin .neq (.l 0) (.i 1099511627776) }, { o := .mv (.l 0) }, { o := .fa (.v 2) 1, g := some (0, true) }, { o := .ld (.l 0) 1 false, g := some (1, true) }, { o := .mv (.v 4), g := some (2, true) }, { o := .ia (.l 1) (.l 0) 1, g := some (3, true) }, { o := .ld (.l 0) 1 false, g := some (4, true) }, { o := .bin .lss (.l 0) (.i 0), g := some (5, true) }, { o := .mv (.l 0), g := some (6, true) }, { o := .fa (.v 2) 1, g := some (0, false) }, { o := .ld (.l 0) 1 false, g := some (1, false) }, { o := .mv (.v 4), g := some (2, false) }, { o := .ia (.l 1) (.l 0) 1, g := some (3, false) }, { o := .ld (.l 0) 1 false, g := some (4, false) }, { o := .bin .gtr (.l 0) (.i 2147483648), g := some (5, false) }, { o := .pk (.l 6) (.b true) (.l 0), g := some (13, true) }, { o := .pk (.l 14) (.l 0) (.b false) }] [] 0 (.seq (.reg [{ o := .mv (.b false), d := some 3 }] []) .ret) .skip)) (.reg [{ o := .mv (.v 4) }, { o := .bin .add (.l 0) (.i 1) }, { o := .mv (.l 0), d := some 4 }] [])))
def ref25_Plain_l1 : C := .loop true [0, 1, 3] K.ref25_Plain_l1b
/-- /ref25.Plain -/
def ref25_Plain : Fn := { nargs := 2, vars := [0, 1, 2, 4, 5], body := (.seq (.reg [{ o := .bx (.v 0) 2, d := some 2 }, { o := .mv (.b false), d := some 3 }] []) (.seq (.ite [{ o := .fa (.v 2) 1 }, { o := .ld (.l 0) 1 false }, { o := .ln (.l 0) }, { o := .mv (.v 1) }, { o := .bin .neq (.l 1) (.l 0) }, { o := .mv (.l 0) }, { o := .fa (.v 2) 0, g := some (0, false) }, { o := .ld (.l 0) 1 false, g := some (1, false) }, { o := .bin .lss (.l 0) (.i 0), g := some (2, false) }, { o := .pk (.l 3) (.b true) (.l 0) }, { o := .mv (.l 0) }, { o := .fa (.v 2) 0, g := some (0, false) }, { o := .ld (.l 0) 1 false, g := some (1, false) }, { o := .bin .gtr (.l 0) (.i 2147483648), g := some (2, false) }, { o := .pk (.l 3) (.b true) (.l 0) }] [] 0 (.seq (.reg [{ o := .mv (.b false), d := some 3 }] []) .ret) .skip) (.seq (.seq (.reg [{ o := .mv (.i 0), d := some 4 }] []) (.blk 0 K.ref25_Plain_l1)) (.seq (.reg [{ o := .mv (.b true), d := some 3 }] []) .ret)))), res := [(3, none)] }
/-- /ref25.lower -/
def ref25_lower : Fn := { nargs := 5, vars := [0, 1, 2, 3, 4, 10, 11], body := (.seq (.reg [{ o := .mv (.b false), d := some 5 }] []) (.seq (.ite [{ o := .mv (.v 3) }, { o := .bin .lss (.l 0) (.i 0) }, { o := .mv (.l 0) }, { o := .mv (.v 0), g := some (0, false) }, { o := .mv (.v 1), g := some (1, false) }, { o := .ia (.l 1) (.l 0) 1, g := some (2, false) }, { o := .ld (.l 0) 1 false, g := some (3, false) }, { o := .bin .geq (.l 0) (.i 1099511627776), g := some (4, false) }, { o := .pk (.l 5) (.b true) (.l 0) }] [] 0 (.seq (.reg [{ o := .mv (.b false), d := some 5 }] []) .ret) .skip) (.seq (.reg [{ o := .mv (.v 4) }, { o := .mv (.v 0) }, { o := .mv (.v 1) }, { o := .ia (.l 1) (.l 0) 1 }, { o := .ld (.l 0) 1 false }, { o := .mv (.v 3) }, { o := .bin .add (.l 1) (.l 0) }, { o := .mx [.l 6, .l 0] }, { o := .mv (.l 0), d := some 6 }] []) (.seq (.ite [{ o := .mv (.v 6) }, { o := .bin .gtr (.l 0) (.i 2147483648) }, { o := .mv (.l 0) }, { o := .mv (.v 6), g := some (0, false) }, { o := .mv (.v 0), g := some (1, false) }, { o := .mv (.v 2), g := some (2, false) }, { o := .ia (.l 1) (.l 0) 1, g := some (3, false) }, { o := .ld (.l 0) 1 false, g := some (4, false) }, { o := .bin .geq (.l 4) (.l 0), g := some (5, false) }, { o := .pk (.l 6) (.b true) (.l 0) }] [] 0 (.seq (.reg [{ o := .mv (.b false), d := some 5 }] []) .ret) .skip) (.seq (.reg [{ o := .mv (.v 0) }, { o := .mv (.v 2) }, { o := .mv (.v 6) }, { o := .ia (.l 2) (.l 1) 1 }, { o := .st (.l 0) (.l 1) 1 [] }] []) (.seq (.reg [{ o := .mv (.b true), d := some 5 }] []) .ret)))))), res := [(5, none)] }
/-- /ref03.Time -/
def ref03_Time : Fn := { nargs := 3, vars := [0, 1, 2, 3, 6], body := (.seq (.reg [{ o := .bx (.v 0) 2, d := some 3 }, { o := .mv (.i 0), d := some 4 }] []) (.seq (.reg [{ o := .ld (.v 3) 2 true }, { o := .mv (.v 1) }, { o := .mv (.v 2) }, { o := .ca N.ref03_walked 0 [] [.l 2, .l 1, .l 0, .i 6, .i 9, .i 12] }, { o := .mv (.l 0), d := some 4 }] []) .ret)), res := [(4, none)] }
def slices_IndexFunc_api_World_api_World_l1b : C := (.its  [{ o := .bin .lss (.v 5) (.v 4) }] [] 0 .skip (.exit 0) (.seq (.blk 1 (.seq (.reg [{ o := .mv (.v 5) }, { o := .mv (.l 0), d := some 3 }] []) (.ite [{ o := .mv (.v 1) }, { o := .mv (.v 0) }, { o := .mv (.v 3) }, { o := .ia (.l 1) (.l 0) 2 }, { o := .ld (.l 0) 2 true }, { o := .cw (.l 4) 0 [] [.l 0] }] [] 0 (.seq (.reg [{ o := .mv (.v 3) }, { o := .mv (.l 0), d := some 2 }] []) .ret) .skip))) (.reg [{ o := .bin .add (.v 5) (.i 1) }, { o := .mv (.l 0), d := some 5 }] [])))
def slices_IndexFunc_api_World_api_World_l1 : C := .loop true [2, 3] K.slices_IndexFunc_api_World_api_World_l1b
/-- slices.IndexFunc[[]/api.World,/api.World] -/
def slices_IndexFunc_api_World_api_World : Fn := { nargs := 2, vars := [0, 1, 4, 5, 7, 8], body := (.seq (.reg [{ o := .mv (.i 0), d := some 2 }] []) (.seq (.seq (.reg [{ o := .mv (.v 0) }, { o := .ln (.l 0), d := some 4 }, { o := .mv (.i 0), d := some 5 }] []) (.blk 0 K.slices_IndexFunc_api_World_api_World_l1)) (.seq (.reg [{ o := .mv (.i (-1)), d := some 2 }] []) .ret))), res := [(2, none)] }
/-- /ref03.walked -/
def ref03_walked : Fn := { nargs := 6, vars := [0, 1, 2, 3, 4, 5, 6, 12, 13, 14, 15, 16, 17], body := (.seq (.reg [{ o := .bx (.v 0) 2, d := some 6 }, { o := .mv (.i 0), d := some 7 }] []) (.seq (.ite [{ o := .ld (.v 6) 2 true }, { o := .ca N.ref01_Check 0 [] [.l 0] }, { o := .bin .neq (.l 0) (.i 0) }, { o := .mv (.l 0) }, { o := .mv (.v 1), g := some (0, false) }, { o := .bin .lss (.l 0) (.i 0), g := some (1, false) }, { o := .pk (.l 2) (.b true) (.l 0) }, { o := .mv (.l 0) }, { o := .mv (.v 1), g := some (0, false) }, { o := .fa (.v 6) 1, g := some (1, false) }, { o := .ld (.l 0) 1 false, g := some (2, false) }, { o := .ln (.l 0), g := some (3, false) }, { o := .bin .geq (.l 3) (.l 0), g := some (4, false) }, { o := .pk (.l 5) (.b true) (.l 0) }, { o := .mv (.l 0) }, { o := .fa (.v 6) 1, g := some (0, false) }, { o := .ld (.l 0) 1 false, g := some (1, false) }, { o := .mv (.v 1), g := some (2, false) }, { o := .ia (.l 1) (.l 0) 10, g := some (3, false) }, { o := .fa (.l 0) 5, g := some (4, false) }, { o := .ld (.l 0) 1 false, g := some (5, false) }, { o := .pk (.l 6) (.b true) (.l 0) }, { o := .mv (.l 0) }, { o := .fa (.v 6) 1, g := some (0, false) }, { o := .ld (.l 0) 1 false, g := some (1, false) }, { o := .mv (.v 1), g := some (2, false) }, { o := .ia (.l 1) (.l 0) 10, g := some (3, false) }, { o := .fa (.l 0) 4, g := some (4, false) }, { o := .ld (.l 0) 1 false, g := some (5, false) }, { o := .un .not (.l 0), g := some (6, false) }, { o := .pk (.l 7) (.b true) (.l 0) }] [] 0 (.seq (.reg [{ o := .mv (.i (-1)), d := some 7 }] []) .ret) .skip) (.seq (.reg [{ o := .fa (.v 6) 1 }, { o := .ld (.l 0) 1 false }, { o := .mv (.v 1) }, { o := .ia (.l 1) (.l 0) 10 }, { o := .ld (.l 0) 10 true }, { o := .al [.t (.int .i64 (0)), .t (.int .i64 (0)), .t (.int .i64 (0)), .t (.int .i64 (0)), .t (.bool false), .t (.bool false), .t (.int .i64 (0)), .t (.int .i64 (0)), .t (.int .i64 (0)), .t (.int .i64 (0))] [], d := some 8 }, { o := .st (.l 0) (.l 1) 10 [] }] []) (.seq (.reg [{ o := .ld (.v 8) 10 true }, { o := .mv (.v 2) }, { o := .ca N.ref03_ends 0 [] [.l 1, .l 0] }, { o := .mv (.l 0) }, { o := .ex (.l 0) 0 }, { o := .ex (.l 1) 1 }, { o := .mv (.l 1), d := some 9 }, { o := .mv (.l 1), d := some 10 }] []) (.seq (.reg [{ o := .fa (.v 6) 0 }, { o := .ld (.l 0) 1 false }, { o := .mv (.v 10) }, { o := .ia (.l 1) (.l 0) 2 }, { o := .fa (.l 0) 0 }, { o := .ld (.l 0) 1 false }, { o := .fa (.v 6) 0 }, { o := .ld (.l 0) 1 false }, { o := .mv (.v 9) }, { o := .ia (.l 1) (.l 0) 2 }, { o := .fa (.l 0) 0 }, { o := .ld (.l 0) 1 false }, { o := .bin .sub (.l 6) (.l 0) }, { o := .mv (.l 0), d := some 11 }] []) (.seq (.reg [{ o := .mv (.v 5) }, { o := .mv (.l 0), d := some 12 }] []) (.seq (.ite [{ o := .mv (.v 11) }, { o := .bin .mul (.i 10) (.l 0) }, { o := .fa (.v 8) 2 }, { o := .ld (.l 0) 1 false }, { o := .bin .gtr (.l 2) (.l 0) }] [] 0 (.reg [{ o := .mv (.v 3) }, { o := .mv (.l 0), d := some 12 }] []) .skip) (.seq (.ite [{ o := .mv (.v 11) }, { o := .bin .mul (.i (-10)) (.l 0) }, { o := .fa (.v 8) 2 }, { o := .ld (.l 0) 1 false }, { o := .bin .gtr (.l 2) (.l 0) }] [] 0 (.reg [{ o := .mv (.v 4) }, { o := .mv (.l 0), d := some 12 }] []) .skip) (.seq (.reg [{ o := .fa (.v 8) 2 }, { o := .ld (.l 0) 1 false }, { o := .bin .mul (.i 10) (.l 0) }, { o := .mv (.v 12) }, { o := .bin .add (.l 1) (.l 0) }, { o := .bin .sub (.l 0) (.i 1) }, { o := .mv (.v 12) }, { o := .bin .quo (.l 1) (.l 0) }, { o := .mv (.l 0), d := some 7 }] []) .ret))))))))), res := [(7, none)] }
/-- /ref03.ends -/
def ref03_ends : Fn := { nargs := 2, vars := [0, 1, 2, 4, 5], body := (.seq (.reg [{ o := .bx (.v 0) 10, d := some 2 }, { o := .mv (.i 0), d := some 3 }, { o := .mv (.i 0), d := some 4 }] []) (.seq (.ite [{ o := .mv (.v 1) }] [] 0 (.seq (.reg [{ o := .fa (.v 2) 1 }, { o := .ld (.l 0) 1 false }, { o := .fa (.v 2) 0 }, { o := .ld (.l 0) 1 false }, { o := .mv (.l 2), d := some 3 }, { o := .mv (.l 1), d := some 4 }] []) .ret) .skip) (.seq (.reg [{ o := .fa (.v 2) 0 }, { o := .ld (.l 0) 1 false }, { o := .fa (.v 2) 1 }, { o := .ld (.l 0) 1 false }, { o := .mv (.l 2), d := some 3 }, { o := .mv (.l 1), d := some 4 }] []) .ret))), res := [(3, none), (4, none)] }
end Go.Ev.K
namespace Go.Ev
class Has2 [Lib] : Prop where
  t_ref26_Copy : Lib.fs N.ref26_Copy = some K.ref26_Copy
  t_ref26_Valid : Lib.fs N.ref26_Valid = some K.ref26_Valid
  t_ref26_CopyWorld : Lib.fs N.ref26_CopyWorld = some K.ref26_CopyWorld
  t_ref26_meet : Lib.fs N.ref26_meet = some K.ref26_meet
  t_ref25_Raise : Lib.fs N.ref25_Raise = some K.ref25_Raise
  t_ref26_Tidy : Lib.fs N.ref26_Tidy = some K.ref26_Tidy
  t_ref26_borne : Lib.fs N.ref26_borne = some K.ref26_borne
  t_ref26_bearer : Lib.fs N.ref26_bearer = some K.ref26_bearer
  t_ref25_See : Lib.fs N.ref25_See = some K.ref25_See
  t_ref25_Absent : Lib.fs N.ref25_Absent = some K.ref25_Absent
  t_lists_Where : Lib.fs N.lists_Where = some K.lists_Where
  t_smoke_Filled_1 : Lib.fs N.smoke_Filled_1 = some K.smoke_Filled_1
  t_slices_ContainsFunc_int_int : Lib.fs N.slices_ContainsFunc_int_int = some K.slices_ContainsFunc_int_int
  t_firerules_meets_1 : Lib.fs N.firerules_meets_1 = some K.firerules_meets_1
  t_slices_Contains_int_int : Lib.fs N.slices_Contains_int_int = some K.slices_Contains_int_int
  t_firerules_near_1 : Lib.fs N.firerules_near_1 = some K.firerules_near_1
  t_swaps_Possible : Lib.fs N.swaps_Possible = some K.swaps_Possible
  t_ref01_Span : Lib.fs N.ref01_Span = some K.ref01_Span
  t_ref28_Span : Lib.fs N.ref28_Span = some K.ref28_Span
  t_ref25_inTime : Lib.fs N.ref25_inTime = some K.ref25_inTime
  t_ref25_never : Lib.fs N.ref25_never = some K.ref25_never
  t_ref25_Close : Lib.fs N.ref25_Close = some K.ref25_Close
  t_ref26_Less : Lib.fs N.ref26_Less = some K.ref26_Less
  t_ref25_Valid : Lib.fs N.ref25_Valid = some K.ref25_Valid
  t_ref25_Copy : Lib.fs N.ref25_Copy = some K.ref25_Copy
  t_ref23_SameInts : Lib.fs N.ref23_SameInts = some K.ref23_SameInts
  t_ref25_Join : Lib.fs N.ref25_Join = some K.ref25_Join
  t_ref25_asked : Lib.fs N.ref25_asked = some K.ref25_asked
  t_ref25_close : Lib.fs N.ref25_close = some K.ref25_close
  t_slices_IndexFunc_int_int : Lib.fs N.slices_IndexFunc_int_int = some K.slices_IndexFunc_int_int
  t_slices_Index_int_int : Lib.fs N.slices_Index_int_int = some K.slices_Index_int_int
  t_swaps_Possible_1 : Lib.fs N.swaps_Possible_1 = some K.swaps_Possible_1
  t_slices_ContainsFunc_api_World_api_World : Lib.fs N.slices_ContainsFunc_api_World_api_World = some K.slices_ContainsFunc_api_World_api_World
  t_swaps_Possible_1_1 : Lib.fs N.swaps_Possible_1_1 = some K.swaps_Possible_1_1
  t_lists_In : Lib.fs N.lists_In = some K.lists_In
  t_ref25_Plain : Lib.fs N.ref25_Plain = some K.ref25_Plain
  t_ref25_lower : Lib.fs N.ref25_lower = some K.ref25_lower
  t_ref03_Time : Lib.fs N.ref03_Time = some K.ref03_Time
  t_slices_IndexFunc_api_World_api_World : Lib.fs N.slices_IndexFunc_api_World_api_World = some K.slices_IndexFunc_api_World_api_World
  t_ref03_walked : Lib.fs N.ref03_walked = some K.ref03_walked
  t_ref03_ends : Lib.fs N.ref03_ends = some K.ref03_ends
namespace K
variable [Lib] [Has2]
theorem t_ref26_Copy : Lib.fs N.ref26_Copy = some K.ref26_Copy := Has2.t_ref26_Copy
theorem t_ref26_Valid : Lib.fs N.ref26_Valid = some K.ref26_Valid := Has2.t_ref26_Valid
theorem t_ref26_CopyWorld : Lib.fs N.ref26_CopyWorld = some K.ref26_CopyWorld := Has2.t_ref26_CopyWorld
theorem t_ref26_meet : Lib.fs N.ref26_meet = some K.ref26_meet := Has2.t_ref26_meet
theorem t_ref25_Raise : Lib.fs N.ref25_Raise = some K.ref25_Raise := Has2.t_ref25_Raise
theorem t_ref26_Tidy : Lib.fs N.ref26_Tidy = some K.ref26_Tidy := Has2.t_ref26_Tidy
theorem t_ref26_borne : Lib.fs N.ref26_borne = some K.ref26_borne := Has2.t_ref26_borne
theorem t_ref26_bearer : Lib.fs N.ref26_bearer = some K.ref26_bearer := Has2.t_ref26_bearer
theorem t_ref25_See : Lib.fs N.ref25_See = some K.ref25_See := Has2.t_ref25_See
theorem t_ref25_Absent : Lib.fs N.ref25_Absent = some K.ref25_Absent := Has2.t_ref25_Absent
theorem t_lists_Where : Lib.fs N.lists_Where = some K.lists_Where := Has2.t_lists_Where
theorem t_smoke_Filled_1 : Lib.fs N.smoke_Filled_1 = some K.smoke_Filled_1 := Has2.t_smoke_Filled_1
theorem t_slices_ContainsFunc_int_int : Lib.fs N.slices_ContainsFunc_int_int = some K.slices_ContainsFunc_int_int := Has2.t_slices_ContainsFunc_int_int
theorem t_firerules_meets_1 : Lib.fs N.firerules_meets_1 = some K.firerules_meets_1 := Has2.t_firerules_meets_1
theorem t_slices_Contains_int_int : Lib.fs N.slices_Contains_int_int = some K.slices_Contains_int_int := Has2.t_slices_Contains_int_int
theorem t_firerules_near_1 : Lib.fs N.firerules_near_1 = some K.firerules_near_1 := Has2.t_firerules_near_1
theorem t_swaps_Possible : Lib.fs N.swaps_Possible = some K.swaps_Possible := Has2.t_swaps_Possible
theorem t_ref01_Span : Lib.fs N.ref01_Span = some K.ref01_Span := Has2.t_ref01_Span
theorem t_ref28_Span : Lib.fs N.ref28_Span = some K.ref28_Span := Has2.t_ref28_Span
theorem t_ref25_inTime : Lib.fs N.ref25_inTime = some K.ref25_inTime := Has2.t_ref25_inTime
theorem t_ref25_never : Lib.fs N.ref25_never = some K.ref25_never := Has2.t_ref25_never
theorem t_ref25_Close : Lib.fs N.ref25_Close = some K.ref25_Close := Has2.t_ref25_Close
theorem t_ref26_Less : Lib.fs N.ref26_Less = some K.ref26_Less := Has2.t_ref26_Less
theorem t_ref25_Valid : Lib.fs N.ref25_Valid = some K.ref25_Valid := Has2.t_ref25_Valid
theorem t_ref25_Copy : Lib.fs N.ref25_Copy = some K.ref25_Copy := Has2.t_ref25_Copy
theorem t_ref23_SameInts : Lib.fs N.ref23_SameInts = some K.ref23_SameInts := Has2.t_ref23_SameInts
theorem t_ref25_Join : Lib.fs N.ref25_Join = some K.ref25_Join := Has2.t_ref25_Join
theorem t_ref25_asked : Lib.fs N.ref25_asked = some K.ref25_asked := Has2.t_ref25_asked
theorem t_ref25_close : Lib.fs N.ref25_close = some K.ref25_close := Has2.t_ref25_close
theorem t_slices_IndexFunc_int_int : Lib.fs N.slices_IndexFunc_int_int = some K.slices_IndexFunc_int_int := Has2.t_slices_IndexFunc_int_int
theorem t_slices_Index_int_int : Lib.fs N.slices_Index_int_int = some K.slices_Index_int_int := Has2.t_slices_Index_int_int
theorem t_swaps_Possible_1 : Lib.fs N.swaps_Possible_1 = some K.swaps_Possible_1 := Has2.t_swaps_Possible_1
theorem t_slices_ContainsFunc_api_World_api_World : Lib.fs N.slices_ContainsFunc_api_World_api_World = some K.slices_ContainsFunc_api_World_api_World := Has2.t_slices_ContainsFunc_api_World_api_World
theorem t_swaps_Possible_1_1 : Lib.fs N.swaps_Possible_1_1 = some K.swaps_Possible_1_1 := Has2.t_swaps_Possible_1_1
theorem t_lists_In : Lib.fs N.lists_In = some K.lists_In := Has2.t_lists_In
theorem t_ref25_Plain : Lib.fs N.ref25_Plain = some K.ref25_Plain := Has2.t_ref25_Plain
theorem t_ref25_lower : Lib.fs N.ref25_lower = some K.ref25_lower := Has2.t_ref25_lower
theorem t_ref03_Time : Lib.fs N.ref03_Time = some K.ref03_Time := Has2.t_ref03_Time
theorem t_slices_IndexFunc_api_World_api_World : Lib.fs N.slices_IndexFunc_api_World_api_World = some K.slices_IndexFunc_api_World_api_World := Has2.t_slices_IndexFunc_api_World_api_World
theorem t_ref03_walked : Lib.fs N.ref03_walked = some K.ref03_walked := Has2.t_ref03_walked
theorem t_ref03_ends : Lib.fs N.ref03_ends = some K.ref03_ends := Has2.t_ref03_ends
end K
end Go.Ev

/- The base of all specifications: calls, encodings of the program's data. -/
namespace Go.Ev
open Go

variable [Lib]

noncomputable def CALL : Oracle := callL Lib.fs

theorem CALL_of {raw f : Nat} {args : List D} {H : Heap} {fn : Fn} {r : D × Heap} (hf : Lib.fs f = some fn) (hn : fn.nargs = args.length)
    (h : (exS CALL fn.body ⟨initVs args fn.vars, H⟩).bind (endR fn.res H.length raw) = some r) (h0 : fn.prim = [] := by rfl) : CALL raw f args H = some r := call_of hf hn h h0
theorem CALL_prim {raw f : Nat} {args : List D} {H : Heap} {fn : Fn} {r : D × Heap} (hf : Lib.fs f = some fn) (h0 : fn.prim ≠ []) (h : primF fn.prim args H = some r) : CALL raw f args H = some r := callL_prim hf h0 h

/-- A loop that goes up, round by round. -/
theorem loop_up {gc : Bool} {dead : List Nat} {c : C} {vs : List D} {H : Heap} (s : Nat → St) (n : Nat) {e : Ex} {st : St}
    (h0 : (⟨dropV dead vs, H⟩ : St) = s 0) (h : ∀ j, j < n → roundC gc dead (s j).H.length (exS CALL c (s j)) = some (s (j + 1)))
    (he : exS CALL c (s n) = some (e, st)) (hn : e ≠ .normal) : exS CALL (.loop gc dead c) ⟨vs, H⟩ = some (e, st) := by
  show loopC gc dead (exS CALL c) ⟨dropV dead vs, H⟩ = _
  rw [h0]
  exact loopC_up s n h (loopC_exit he hn)

/-- A loop's start. -/
theorem loop_is {gc : Bool} {dead : List Nat} {c : C} {vs : List D} {H : Heap} {p : Ex × St} (h : loopC gc dead (exS CALL c) ⟨dropV dead vs, H⟩ = some p) : exS CALL (.loop gc dead c) ⟨vs, H⟩ = some p := h

/-- Types of data, not of the evaluator. -/
class Dat (α : Type) where
  dflt : α
instance : Dat Int := ⟨0⟩
instance : Dat Nat := ⟨0⟩
instance : Dat Bool := ⟨false⟩
instance {α : Type} : Dat (List α) := ⟨[]⟩

/-- An element of a list, by its number. -/
def nth {α : Type} [Dat α] (l : List α) (j : Nat) : α := l.getD j Dat.dflt

theorem nth_some {α : Type} [Dat α] {l : List α} {j : Nat} (h : j < l.length) : l[j]? = some (nth l j) := by simp [nth, h]
theorem map_nth {α β : Type} [Dat α] (f : α → β) {l : List α} {j : Nat} (h : j < l.length) : (l.map f)[j]? = some (f (nth l j)) := by rw [List.getElem?_map, nth_some h]; rfl
theorem map2_nth {α β γ : Type} [Dat α] (f : β → γ) (g : α → β) {l : List α} {j : Nat} (h : j < l.length) : ((l.map g).map f)[j]? = some (f (g (nth l j))) := by rw [List.getElem?_map, map_nth g h]; rfl
theorem nth_mem {α : Type} [Dat α] {l : List α} {j : Nat} (h : j < l.length) : nth l j ∈ l := List.mem_of_getElem? (nth_some h)
theorem nth_eq {α : Type} [Dat α] {l : List α} {j : Nat} {x : α} (h : l[j]? = some x) : nth l j = x := by simp [nth, h]
theorem take_nth {α : Type} [Dat α] {l : List α} {j : Nat} (h : j < l.length) : l.take (j + 1) = l.take j ++ [nth l j] := by
  rw [List.take_succ_eq_append_getElem h]; simp [nth, h]
/- conditions that are known -/
theorem ltI_t {a b : Int} (h : a < b) : (a < b) = True := by simp [h]
theorem ltI_f {a b : Int} (h : b ≤ a) : (a < b) = False := by simp [Int.not_lt.2 h]
theorem leI_t {a b : Int} (h : a ≤ b) : (a ≤ b) = True := by simp [h]
theorem leI_f {a b : Int} (h : b < a) : (a ≤ b) = False := by simp [Int.not_le.2 h]
theorem eqI_t {a b : Int} (h : a = b) : (a = b) = True := by simp [h]
theorem eqI_f {a b : Int} (h : a ≠ b) : (a = b) = False := by simp [h]
theorem ltN_t {a b : Nat} (h : a < b) : (a < b) = True := by simp [h]
theorem ltN_f {a b : Nat} (h : b ≤ a) : (a < b) = False := by simp [Nat.not_lt.2 h]

theorem leN_t {a b : Nat} (h : a ≤ b) : (a ≤ b) = True := by simp [h]
theorem leN_f {a b : Nat} (h : b < a) : (a ≤ b) = False := by simp [Nat.not_le.2 h]

theorem eqN_t {a b : Nat} (h : a = b) : (a = b) = True := by simp [h]
theorem eqN_f {a b : Nat} (h : a ≠ b) : (a = b) = False := by simp [h]

attribute [go_sem] eqN_t eqN_f ltI_t ltI_f leI_t leI_f eqI_t eqI_f ltN_t ltN_f leN_t leN_f wrap_id map_nth map2_nth idx_pos
@[go_sem] theorem q_cast_add (a b : Nat) : ((a + b : Nat) : Int) = (a : Int) + (b : Int) := (rfl)
@[go_sem] theorem q_cast_one : ((1 : Nat) : Int) = 1 := (rfl)
@[go_sem] theorem q_cast_zero : ((0 : Nat) : Int) = 0 := (rfl)
@[go_sem] theorem q_add_sub (a b : Int) : a + b - b = a := Int.add_sub_cancel a b
@[go_sem] theorem q_toNat_zero : (0 : Int).toNat = 0 := (rfl)
@[go_sem] theorem q_toNat_nat (n : Nat) : (n : Int).toNat = n := (rfl)
@[go_sem] theorem q_toNat_one (n : Nat) : ((n : Int) + 1).toNat = n + 1 := (rfl)
@[go_sem] theorem q_izero_add (a : Int) : 0 + a = a := Int.zero_add a
@[go_sem] theorem q_iadd_zero (a : Int) : a + 0 = a := Int.add_zero a
@[go_sem] theorem q_isub_zero (a : Int) : a - 0 = a := Int.sub_zero a

/- encodings -/
abbrev tI (n : Int) : T := .int .i64 n
abbrev tL (l : List Int) : T := .sl (l.map (.int .i64))

/-- Elements of a list that is written on. -/
@[go_sem] theorem mapO_frz_snoc (H : Heap) (n : Nat) (ts : List T) (x : T) : mapO (frz H n) (ts.map .t ++ [.t x]) = some (ts ++ [x]) := by
  have : ts.map D.t ++ [.t x] = (ts ++ [x]).map .t := by simp
  rw [this, mapO_frz_t]
@[go_sem] theorem q_map_append {α β : Type} (f : α → β) (a b : List α) : (a ++ b).map f = a.map f ++ b.map f := List.map_append

end Go.Ev

/- Dice. -/
namespace Go.Ev
open Go
variable [Lib] [Has1] [Has2]

def Mod (n m : Int) : Int := if m < 1 then 0 else if n.tmod m < 0 then n.tmod m + m else n.tmod m

theorem Mod_lo (n m : Int) : 0 ≤ Mod n m := by
  unfold Mod
  split
  · omega
  · have h5 := Int.lt_tmod_of_pos n (b := m) (by omega)
    split <;> omega

theorem Mod_hi (n m : Int) (h : 1 ≤ m) : Mod n m < m := by
  unfold Mod
  rw [if_neg (by omega)]
  have h3 := Int.tmod_lt_of_pos n (b := m) (by omega)
  split <;> omega

theorem mod_ok (n m : Int) (hm : m ≤ 4611686018427387904) : CALL 0 N.made_Mod [I n, I m] [] = some (I (Mod n m), []) := by
  refine CALL_of K.t_made_Mod rfl ?_
  unfold Mod
  by_cases h1 : m < 1
  · simp only [go_sem, K.made_Mod, h1, ↓reduceIte]
  · have h2 : m ≠ 0 := by omega
    have h3 := Int.tmod_lt_of_pos n (b := m) (by omega)
    have h5 := Int.lt_tmod_of_pos n (b := m) (by omega)
    by_cases h4 : n.tmod m < 0
    · simp (disch := omega) only [go_sem, K.made_Mod, h1, ↓reduceIte, h2, h4]
    · simp (disch := omega) only [go_sem, K.made_Mod, h1, ↓reduceIte, h2, h4]

theorem light_ok (l : List Int) : CALL 0 N.made_Light [.t (tL l)] [] = some (B (decide (l.length ≤ 400)), []) := by
  refine CALL_of K.t_made_Light rfl ?_
  simp (disch := omega) only [go_sem, K.made_Light, ↓reduceIte]
  simp only [show ((l.length : Int) ≤ 400) = (l.length ≤ 400) by rw [eq_iff_iff]; omega]

structure Dice where
  L : List Int
  at_ : Nat

def Dice.obj (d : Dice) : Obj := .box [.t (tL d.L), I d.at_]
def Dice.light (d : Dice) : Prop := d.L.length ≤ 400

def Dice.next (d : Dice) (n : Int) : Int × Dice := if d.at_ < d.L.length then (Mod (nth d.L d.at_) n, ⟨d.L, d.at_ + 1⟩) else (0, d)

theorem Dice.next_L (d : Dice) (n : Int) : (d.next n).2.L = d.L := by unfold Dice.next; split <;> rfl
theorem Dice.next_light {d : Dice} (h : d.light) (n : Int) : (d.next n).2.light := by unfold Dice.light; rw [d.next_L]; exact h
theorem Dice.next_lo (d : Dice) (n : Int) : 0 ≤ (d.next n).1 := by unfold Dice.next; split <;> simp [Mod_lo]
theorem Dice.next_hi (d : Dice) {n : Int} (h : 1 ≤ n) : (d.next n).1 < n := by unfold Dice.next; split <;> simp [Mod_hi _ _ h]; omega

theorem next_ok (d : Dice) (n : Int) (hn : n ≤ 4611686018427387904) (hd : d.light) : CALL 0 N.made_Dice_Next [.bp 0 0, I n] [d.obj] = some (I (d.next n).1, [(d.next n).2.obj]) := by
  refine CALL_of K.t_made_Dice_Next rfl ?_
  have hm := mod_ok (nth d.L d.at_) n hn
  unfold Dice.light at hd
  unfold Dice.next Dice.obj
  by_cases h1 : d.at_ < d.L.length
  · simp (disch := omega) only [go_sem, K.made_Dice_Next, ↓reduceIte, ↓if_pos, ↓if_neg, Int.add_sub_cancel, hm, Int.natCast_add]
  · simp (disch := omega) only [go_sem, K.made_Dice_Next, ↓reduceIte, ↓if_pos, ↓if_neg]

/- A box of dice, seen from outside. -/
@[go_sem] theorem ids_dice (d : Dice) : idsObj (some d.obj) = [] := by simp only [Dice.obj, go_sem]
@[go_sem] theorem ren_dice (f : Nat → Option Nat) (d : Dice) : renObj f d.obj = some d.obj := by simp only [Dice.obj, go_sem]
@[go_sem] theorem old_dice (k : Nat) (d : Dice) (r : Heap) : heapOld k (d.obj :: r) = heapOld k r := by simp only [Dice.obj, go_sem]

def Dice.one (d : Dice) (n : Int) : Bool × Dice := (decide ((d.next n).1 = n - 1), (d.next n).2)
theorem Dice.one_light {d : Dice} (h : d.light) (n : Int) : (d.one n).2.light := Dice.next_light h n

theorem one_ok (d : Dice) (n : Int) (h1 : 0 ≤ n) (hn : n ≤ 4611686018427387904) (hd : d.light) : CALL 0 N.made_Dice_One [.bp 0 0, I n] [d.obj] = some (B (d.one n).1, [(d.one n).2.obj]) := by
  refine CALL_of K.t_made_Dice_One rfl ?_
  have hm := next_ok d n hn hd
  unfold Dice.one
  simp (disch := omega) only [go_sem, K.made_Dice_One, ↓reduceIte, hm]

def Dice.of (d : Dice) (l : List Int) : Int × Dice := (nth l (d.next l.length).1.toNat, (d.next l.length).2)
theorem Dice.of_light {d : Dice} (h : d.light) (l : List Int) : (d.of l).2.light := Dice.next_light h _
theorem Dice.of_mem (d : Dice) {l : List Int} (h : l ≠ []) : (d.of l).1 ∈ l := by
  unfold Dice.of
  have hl : 0 < l.length := List.length_pos_iff.2 h
  have := d.next_lo l.length
  have := d.next_hi (n := l.length) (by omega)
  exact nth_mem (by omega)

theorem of_ok (d : Dice) (l : List Int) (hl : l ≠ []) (hl2 : l.length ≤ 4294967296) (hd : d.light) : CALL 0 N.made_Dice_Of [.bp 0 0, .t (tL l)] [d.obj] = some (I (d.of l).1, [(d.of l).2.obj]) := by
  refine CALL_of K.t_made_Dice_Of rfl ?_
  have hm := next_ok d l.length (by omega) hd
  have h0 : 0 < l.length := List.length_pos_iff.2 hl
  have h1 := d.next_lo l.length
  have h2 := d.next_hi (n := l.length) (by omega)
  unfold Dice.of
  simp (disch := omega) only [go_sem, K.made_Dice_Of, ↓reduceIte, hm]

def Dice.someN (d : Dice) : Nat → List Int × Dice
  | 0 => ([], d)
  | k + 1 => (if ((d.someN k).2.next 3).1 = 0 then (d.someN k).1 ++ [(k : Int)] else (d.someN k).1, ((d.someN k).2.next 3).2)

theorem Dice.someN_light {d : Dice} (h : d.light) : ∀ n, (d.someN n).2.light
  | 0 => h
  | n + 1 => Dice.next_light (Dice.someN_light h n) 3

theorem Dice.someN_len (d : Dice) : ∀ n, (d.someN n).1.length ≤ n
  | 0 => Nat.le_refl _
  | n + 1 => by
    have := d.someN_len n
    unfold Dice.someN
    simp only
    split <;> simp <;> omega

theorem some_ok (d : Dice) (n : Nat) (hn : n ≤ 1000000) (hd : d.light) : CALL 0 N.made_Dice_Some [.bp 0 0, I n] [d.obj] = some (.t (tL (d.someN n).1), [(d.someN n).2.obj]) := by
  refine CALL_of K.t_made_Dice_Some rfl ?_
  have hlen := d.someN_len
  have loop : exS CALL K.made_Dice_Some_l1 ⟨[.bp 0 0, I n, .nil, .ref 1 0 0, I 0], [d.obj, .arr 1 false 0 []]⟩ =
      some (.exit 0, ⟨[.bp 0 0, I n, .und, .ref 1 0 (d.someN n).1.length, I n], [(d.someN n).2.obj, .arr 1 false 0 (((d.someN n).1.map (T.int .i64)).map .t)]⟩) := by
    refine loop_up (fun j => ⟨[.bp 0 0, I n, .und, .ref 1 0 (d.someN j).1.length, I j], [(d.someN j).2.obj, .arr 1 false 0 (((d.someN j).1.map (T.int .i64)).map .t)]⟩) n rfl ?_ ?_ (by simp)
    · intro j hj
      have hm := next_ok (d.someN j).2 3 (by omega) (Dice.someN_light hd j)
      have := hlen j
      by_cases h : ((d.someN j).2.next 3).1 = 0
      · simp (disch := omega) only [go_sem, K.made_Dice_Some_l1b, hm, h, Dice.someN, ↓reduceIte]
      · simp (disch := omega) only [go_sem, K.made_Dice_Some_l1b, hm, h, Dice.someN, ↓reduceIte]
    · simp (disch := omega) only [go_sem, K.made_Dice_Some_l1b, ↓reduceIte]
  simp (disch := omega) only [go_sem, K.made_Dice_Some, ↓reduceIte, loop]

end Go.Ev

/- Closures over variables of frozen data; loops that look for the first. -/
namespace Go.Ev
open Go
variable [Lib] [Has1] [Has2]

/-- A loop that ends at the first round of a kind. -/
theorem loop_first {gc : Bool} {dead : List Nat} {c : C} {vs : List D} {H : Heap} (s : Nat → St) (n : Nat) (p : Nat → Bool) (e : Nat → Ex × St) (eN : Ex × St)
    (h0 : (⟨dropV dead vs, H⟩ : St) = s 0) (hs : ∀ j, j < n → p j = false → roundC gc dead (s j).H.length (exS CALL c (s j)) = some (s (j + 1)))
    (he : ∀ j, j < n → p j = true → exS CALL c (s j) = some (e j) ∧ (e j).1 ≠ .normal) (hN : exS CALL c (s n) = some eN) (hn : eN.1 ≠ .normal) :
    exS CALL (.loop gc dead c) ⟨vs, H⟩ = some (match (List.range n).find? p with | some j => e j | none => eN) := by
  show loopC gc dead (exS CALL c) ⟨dropV dead vs, H⟩ = _
  rw [h0]
  cases hf : (List.range n).find? p with
  | none =>
    refine loopC_up s n (fun j hj => hs j hj ?_) (loopC_exit hN hn)
    have := List.find?_eq_none.1 hf j (List.mem_range.2 hj)
    simpa using this
  | some k =>
    obtain ⟨h1, as, bs, h2, h3⟩ := List.find?_eq_some_iff_append.1 hf
    have hk : k < n := List.mem_range.1 (List.mem_of_find?_eq_some hf)
    have hlt : ∀ j, j < k → p j = false := by
      intro j hj
      have hlen : as.length = k := by
        have h4 : (List.range n)[as.length]? = some k := by rw [h2]; simp
        have h5 : as.length < n := by
          have := congrArg List.length h2; simp at this; omega
        rw [List.getElem?_range h5] at h4
        exact Option.some.inj h4
      have : j ∈ as := by
        have h6 : (List.range n)[j]? = some j := List.getElem?_range (by omega)
        rw [h2, List.getElem?_append_left (by omega)] at h6
        exact List.mem_of_getElem? h6
      simpa using h3 j this
    obtain ⟨k1, k2⟩ := he k hk h1
    exact loopC_up s k (fun j hj => hs j (by omega) (hlt j hj)) (loopC_exit k1 k2)

/-- The rounds of 'for again := true; again; {..}'. -/
def closeN {α : Type} (f : α → α × Bool) : Nat → α → α
  | 0, l => l
  | n + 1, l => if (f l).2 then closeN f n (f l).1 else (f l).1

theorem loop_again {α : Type} {gc : Bool} {dead : List Nat} {c : C} {vs : List D} {H : Heap} (S : α → Bool → St) (E : α → Ex × St) (f : α → α × Bool) (inv : α → Prop) (mes : α → Nat)
    (hinv : ∀ l, inv l → inv (f l).1 ∧ ((f l).2 = true → mes (f l).1 < mes l))
    (hs : ∀ l, inv l → roundC gc dead (S l true).H.length (exS CALL c (S l true)) = some (S (f l).1 (f l).2))
    (he : ∀ l, inv l → exS CALL c (S l false) = some (E l) ∧ (E l).1 ≠ .normal) (l : α) (hl : inv l) (h0 : (⟨dropV dead vs, H⟩ : St) = S l true) :
    exS CALL (.loop gc dead c) ⟨vs, H⟩ = some (E (closeN f (mes l + 1) l)) ∧ inv (closeN f (mes l + 1) l) := by
  have key : ∀ (n : Nat) (l : α), inv l → mes l < n → loopC gc dead (exS CALL c) (S l true) = some (E (closeN f n l)) ∧ inv (closeN f n l) := by
    intro n
    induction n with
    | zero => intro l _ h; omega
    | succ n ih =>
      intro l hl hm
      obtain ⟨h1, h2⟩ := hinv l hl
      have hr := hs l hl
      cases hf : (f l).2 with
      | true =>
        rw [hf] at hr
        obtain ⟨k1, k2⟩ := ih (f l).1 h1 (by have := h2 hf; omega)
        simp only [closeN, hf, if_true]
        exact ⟨loopC_step hr k1, k2⟩
      | false =>
        rw [hf] at hr
        obtain ⟨k1, k2⟩ := he (f l).1 h1
        simp only [closeN, hf, Bool.false_eq_true, if_false]
        exact ⟨loopC_step hr (loopC_exit k1 k2), h1⟩
  have := key (mes l + 1) l hl (Nat.lt_succ_self _)
  show loopC gc dead (exS CALL c) ⟨dropV dead vs, H⟩ = _ ∧ _
  rw [h0]; exact this

theorem find_any {n : Nat} {p : Nat → Bool} : ((List.range n).find? p).isSome = (List.range n).any p := by
  rw [List.isSome_find?]

theorem find_lt {n j : Nat} {p : Nat → Bool} (h : (List.range n).find? p = some j) : j < n ∧ p j = true := ⟨List.mem_range.1 (List.mem_of_find?_eq_some h), List.find?_some h⟩

def capsN (m : Nat) : List D := (List.range m).map fun i => .bp i 0
def boxesT (bs : List (List T)) : Heap := bs.map fun cs => .box (cs.map .t)

theorem boxesT_get {bs : List (List T)} {i : Nat} (h : i < bs.length) : (boxesT bs)[i]? = some (.box (bs[i].map .t)) := by simp [boxesT, h]
theorem boxesT_len (bs : List (List T)) : (boxesT bs).length = bs.length := by simp [boxesT]

theorem addNew_app : ∀ (l sel : List Nat), (sel ++ l).Nodup → addNew sel l = sel ++ l
  | [], sel, _ => by simp [addNew]
  | i :: r, sel, h => by
    have : sel.contains i = false := by
      rw [← Bool.not_eq_true, List.contains_iff_mem]
      intro hm
      have := List.nodup_append.1 h
      exact this.2.2 i hm i List.mem_cons_self rfl
    simp only [addNew, this, Bool.false_eq_true, if_false]
    rw [addNew_app r (sel ++ [i]) (by simpa using h)]
    simp

theorem idxOf_range' : ∀ (l : List Nat) (i k : Nat), l.Nodup → l[k]? = some i → idxOf l i = some k
  | [], i, k, _, h => by simp at h
  | a :: l, i, 0, _, h => by simp at h; simp [idxOf, h]
  | a :: l, i, k + 1, hn, h => by
    simp at h
    have hne : a ≠ i := fun e => (List.nodup_cons.1 hn).1 (e ▸ List.mem_of_getElem? h)
    simp only [idxOf, if_neg hne, idxOf_range' l i k (List.nodup_cons.1 hn).2 h, Option.map_some]

theorem idxOf_range {m i : Nat} (h : i < m) : idxOf (List.range m) i = some i := idxOf_range' _ _ _ List.nodup_range (List.getElem?_range h)

theorem mapO_id {α : Type} {f : α → Option α} : ∀ {l : List α}, (∀ x ∈ l, f x = some x) → mapO f l = some l
  | [], _ => rfl
  | a :: l, h => by
    simp only [mapO, h a List.mem_cons_self, Option.bind_some, mapO_id fun x hx => h x (List.mem_cons_of_mem _ hx), Option.map_some]

theorem renObj_pure (f : Nat → Option Nat) (cs : List T) : renObj f (.box (cs.map .t)) = some (.box (cs.map .t)) := by
  simp only [renObj_box, mapO_ren_t, Option.map_some]

theorem pick_get' {H : Heap} : ∀ {l : List Nat} {hs : Heap}, l.length = hs.length → (∀ (k i : Nat) (o : Obj), l[k]? = some i → hs[k]? = some o → H[i]? = some o) → pick H l = some hs
  | [], [], _, _ => rfl
  | [], _ :: _, h, _ => by simp at h
  | _ :: _, [], h, _ => by simp at h
  | i :: l, o :: hs, h, hg => by
    rw [pick_cons, hg 0 i o rfl rfl, Option.bind_some, pickC_eq, pick_get' (l := l) (hs := hs) (by simpa using h) fun k i o hk ho => hg (k + 1) i o (by simpa using hk) (by simpa using ho)]
    rfl

theorem putBack_self {H : Heap} : ∀ {l : List Nat} {os : Heap}, (∀ (k i : Nat) (o : Obj), l[k]? = some i → os[k]? = some o → H[i]? = some o) → putBack H l os = H
  | [], os, _ => by cases os <;> rfl
  | i :: l, [], _ => rfl
  | i :: l, o :: os, hg => by
    simp only [putBack]
    rw [set_self (hg 0 i o rfl rfl)]
    exact putBack_self fun k i o hk ho => hg (k + 1) i o (by simpa using hk) (by simpa using ho)

theorem opCa_over (call : Oracle) (bs : List (List T)) (E : Heap) (f raw : Nat) (args : List D) {r : D} (h : call raw f args (boxesT bs) = some (r, boxesT bs)) (hr : pureD r = true)
    (ha : ∀ H : Heap, argsD H [] 0 args = some args ∧ frozenArrs H [] 0 args = []) (hids : addNew [] (idsL 8 args) = List.range bs.length)
    (hren : mapO (ren (idxOf (List.range bs.length)) 8) args = some args) : opCa (boxesT bs ++ E) call f raw [] args = some (r, boxesT bs ++ E) := by
  generalize hH : boxesT bs ++ E = H
  have hget : ∀ i (hi : i < bs.length), H[i]? = some (.box (bs[i].map .t)) := fun i hi => by
    rw [← hH, List.getElem?_append_left (by rw [boxesT_len]; exact hi), boxesT_get hi]
  obtain ⟨ha, hfz⟩ := ha H
  have hno : idsOf H (List.range bs.length) = [] := by
    simp only [idsOf, List.flatMap_eq_nil_iff, List.mem_range]
    intro i hi
    rw [hget i hi]
    exact idsL_t 8 bs[i]
  have hsel : reach H 3 (List.range bs.length) = List.range bs.length := by
    simp only [reach, hno, addNew]
  have hget2 : ∀ (k i : Nat) (o : Obj), (List.range bs.length)[k]? = some i → (boxesT bs)[k]? = some o → H[i]? = some o := by
    intro k i o hk ho
    have hkl : k < bs.length := by have := (List.getElem?_eq_some_iff.1 hk).1; simpa using this
    rw [List.getElem?_range hkl] at hk
    cases hk
    rw [boxesT_get hkl] at ho
    rw [hget k hkl, ← ho]
  have hpick : pick H (List.range bs.length) = some (boxesT bs) := pick_get' (by simp [boxesT_len]) hget2
  have hro : ∀ f : Nat → Option Nat, mapO (renObj f) (boxesT bs) = some (boxesT bs) := fun f => mapO_id fun o ho => by
    simp only [boxesT, List.mem_map] at ho
    obtain ⟨cs, _, rfl⟩ := ho
    exact renObj_pure f cs
  have hput : putBack H (List.range bs.length) (boxesT bs) = H := putBack_self hget2
  rw [opCa_gen, callG_eq, ha, Option.bind_some, callA_eq, hids, hsel, callS_eq, hren, Option.bind_some, hfz, callR_eq]
  simp only [pins]
  rw [hpick, Option.bind_some, callP_eq, hro, Option.bind_some, callQ_eq, h, Option.bind_some]
  cases hb : bs with
  | nil =>
    subst hb
    have hrr := ren_pure (f := backTo [] H.length) hr
    simp only [depth] at hrr
    simp only [List.length_nil, List.range_zero, boxesT, List.map_nil]
    unfold callW
    split
    · rfl
    · rw [callB_eq, hrr, Option.bind_some, callZ_eq]
      simp [mapO, callY, putBack]
  | cons b bt =>
    rw [← hb]
    have hne : List.range bs.length = 0 :: (List.range' 1 bt.length) := by rw [hb]; simp [List.range_eq_range', List.range'_succ]
    have hrr := ren_pure (f := backTo (List.range bs.length) H.length) hr
    simp only [depth] at hrr
    have hw : callW H H (List.range bs.length) (r, boxesT bs) = callB H H.length (List.range bs.length) (r, boxesT bs) := by
      rw [hne]; rfl
    rw [hw, callB_eq, hrr, Option.bind_some, callZ_eq, hro, Option.bind_some, callY_eq, List.length_range, List.take_of_length_le (by rw [boxesT_len]; exact Nat.le_refl _), hput,
      List.drop_eq_nil_of_le (by rw [boxesT_len]; exact Nat.le_refl _), List.append_nil]

theorem argsD_T (H : Heap) (cs : List D) (hc : ∀ i, argsD H [] i cs = some cs ∧ frozenArrs H [] i cs = []) : ∀ (ts : List T) (i : Nat), argsD H [] i (ts.map .t ++ cs) = some (ts.map .t ++ cs) ∧ frozenArrs H [] i (ts.map .t ++ cs) = []
  | [], i => hc i
  | t :: ts, i => by
    obtain ⟨h1, h2⟩ := argsD_T H cs hc ts (i + 1)
    simp only [List.map_cons, List.cons_append, argsD_cons, frozenArrs_cons, memB, argK_f, argD_t, Option.bind_some, argC_eq, h1, h2, frK_f, arrs_tt]
    exact ⟨rfl, rfl⟩

theorem argsD_bps (H : Heap) : ∀ (l : List Nat) (i : Nat), argsD H [] i (l.map fun i => .bp i 0) = some (l.map fun i => .bp i 0) ∧ frozenArrs H [] i (l.map fun i => .bp i 0) = []
  | [], i => ⟨rfl, rfl⟩
  | a :: l, i => by
    obtain ⟨h1, h2⟩ := argsD_bps H l (i + 1)
    simp only [List.map_cons, argsD_cons, frozenArrs_cons, memB, argK_f, argD_bp, Option.bind_some, argC_eq, h1, h2, frK_f, arrs_bp]
    exact ⟨rfl, rfl⟩

theorem idsL_caps (n m : Nat) : idsL n (capsN m) = List.range m := by
  simp only [idsL, capsN, List.flatMap_map]
  have : ∀ l : List Nat, (l.flatMap fun a => ids n (.bp a 0)) = l := by
    intro l
    induction l with
    | nil => rfl
    | cons a l ih => rw [List.flatMap_cons, ih, ids_bp]; rfl
  exact this _

theorem ren_caps (n m : Nat) : mapO (ren (idxOf (List.range m)) n) (capsN m) = some (capsN m) := mapO_id fun d hd => by
  simp only [capsN, List.mem_map, List.mem_range] at hd
  obtain ⟨k, hk, rfl⟩ := hd
  rw [ren_bp, idxOf_range hk]; rfl

theorem mapO_app {α β : Type} {f : α → Option β} : ∀ {a b : List α} {x y : List β}, mapO f a = some x → mapO f b = some y → mapO f (a ++ b) = some (x ++ y)
  | [], b, x, y, h1, h2 => by simp [mapO] at h1; subst h1; exact h2
  | c :: a, b, x, y, h1, h2 => by
    simp only [mapO, Option.bind_eq_some_iff, Option.map_eq_some_iff] at h1
    obtain ⟨z, hz, r, hr, rfl⟩ := h1
    simp only [List.cons_append, mapO, hz, Option.bind_some, mapO_app hr h2, Option.map_some]

theorem opCa_clos (call : Oracle) (bs : List (List T)) (E : Heap) (f raw : Nat) (ts : List T) {r : D} (h : call raw f (ts.map .t ++ capsN bs.length) (boxesT bs) = some (r, boxesT bs)) (hr : pureD r = true) :
    opCa (boxesT bs ++ E) call f raw [] (ts.map .t ++ capsN bs.length) = some (r, boxesT bs ++ E) :=
  opCa_over call bs E f raw _ h hr (fun H => argsD_T H _ (argsD_bps H _) ts 0)
    (by rw [idsL_app, idsL_t, List.nil_append, idsL_caps, addNew_app _ _ (by simpa using List.nodup_range), List.nil_append])
    (mapO_app (mapO_ren_t _ _ _) (ren_caps _ _))

/-- A closure that is handed on, ahead of which stand frozen data. -/
theorem opCa_fn (call : Oracle) (bs : List (List T)) (E : Heap) (g f raw : Nat) (ts : List T) {r : D} (h : call raw f (ts.map .t ++ [.fn g (capsN bs.length)]) (boxesT bs) = some (r, boxesT bs)) (hr : pureD r = true) :
    opCa (boxesT bs ++ E) call f raw [] (ts.map .t ++ [.fn g (capsN bs.length)]) = some (r, boxesT bs ++ E) :=
  opCa_over call bs E f raw _ h hr (fun H => argsD_T H _ (fun i => ⟨rfl, rfl⟩) ts 0)
    (by rw [idsL_app, idsL_t, List.nil_append, idsL_cons, ids_fn, idsL_caps, idsL_nil, List.append_nil, addNew_app _ _ (by simpa using List.nodup_range), List.nil_append])
    (mapO_app (mapO_ren_t _ _ _) (by rw [mapO_cons, ren_fn, ren_caps]; rfl))

theorem clos_call {f : Nat} {bs : List (List T)} {x : T} {r : D} (E : Heap) (h : CALL 0 f (.t x :: capsN bs.length) (boxesT bs) = some (r, boxesT bs)) (hr : pureD r = true) :
    opCa (boxesT bs ++ E) CALL f 0 [] (.t x :: capsN bs.length) = some (r, boxesT bs ++ E) := opCa_clos CALL bs E f 0 [x] h hr
theorem clos_call0 {f : Nat} {bs : List (List T)} {x : T} {r : D} (h : CALL 0 f (.t x :: capsN bs.length) (boxesT bs) = some (r, boxesT bs)) (hr : pureD r = true) :
    opCa (boxesT bs) CALL f 0 [] (.t x :: capsN bs.length) = some (r, boxesT bs) := by
  have := clos_call [] h hr; rwa [List.append_nil] at this

theorem opCa_clos2 (call : Oracle) (bs : List (List T)) (g f raw : Nat) (x : T) {r : D} (h : call raw f [.t x, .fn g (capsN bs.length)] (boxesT bs) = some (r, boxesT bs)) (hr : pureD r = true) :
    opCa (boxesT bs) call f raw [] [.t x, .fn g (capsN bs.length)] = some (r, boxesT bs) := by
  have := opCa_fn call bs [] g f raw [x] h hr
  rwa [List.append_nil] at this

/- a heap of such variables, and one array behind them -/
section
variable (bs : List (List T)) (o o' : Obj)
@[go_sem] theorem boxesT_length : (boxesT bs).length = bs.length := boxesT_len bs
@[go_sem] theorem boxes_last : (boxesT bs ++ [o])[bs.length]? = some o := by
  rw [List.getElem?_append_right (by rw [boxesT_len]; exact Nat.le_refl _), boxesT_len]; simp
@[go_sem] theorem boxes_set : (boxesT bs ++ [o]).set bs.length o' = boxesT bs ++ [o'] := by
  rw [List.set_append_right _ _ (by rw [boxesT_len]; exact Nat.le_refl _), boxesT_len]; simp
@[go_sem] theorem boxes_take : (boxesT bs ++ [o]).take bs.length = boxesT bs := by
  rw [List.take_append_of_le_length (by rw [boxesT_len]; exact Nat.le_refl _), List.take_of_length_le (by rw [boxesT_len]; exact Nat.le_refl _)]
@[go_sem] theorem boxes_take1 : (boxesT bs ++ [o]).take (bs.length + 1) = boxesT bs ++ [o] := List.take_of_length_le (by simp [boxesT_len])
@[go_sem] theorem boxes_take0 : (boxesT bs).take bs.length = boxesT bs := List.take_of_length_le (by simp [boxesT_len])
@[go_sem] theorem heapOld_app (k : Nat) (a b : Heap) : heapOld k (a ++ b) = (heapOld k a && heapOld k b) := by
  rw [← heapOld_eq, ← heapOld_eq, ← heapOld_eq, List.all_append]
@[go_sem] theorem heapOld_boxes (k : Nat) : heapOld k (boxesT bs) = true := by
  induction bs with
  | nil => rfl
  | cons b r ih =>
    show (allOld k 8 (b.map .t) && heapOld k (boxesT r)) = true
    rw [allOld_t, ih]; rfl
@[go_sem] theorem ltB_succ (n : Nat) : ltB n (n + 1) = true := by rw [ltB_iff]; simp
@[go_sem] theorem ltB_self (n : Nat) : ltB n n = false := by rw [ltB_iff]; simp
theorem allOld_capsN (k n m : Nat) (h : m ≤ k) : allOld k n (capsN m) = true := by
  unfold allOld capsN
  rw [List.all_eq_true]
  intro d hd
  obtain ⟨i, hi, rfl⟩ := List.mem_map.1 hd
  rw [old_bp, ltB_iff]
  have := List.mem_range.1 hi
  simp; omega
@[go_sem] theorem allOld_caps (n m : Nat) : allOld m n (capsN m) = true := allOld_capsN _ _ _ (Nat.le_refl _)
@[go_sem] theorem allOld_caps1 (n m : Nat) : allOld (m + 1) n (capsN m) = true := allOld_capsN _ _ _ (Nat.le_succ _)
end

/-- The numbers for which a test holds. -/
def whereF (n : Nat) (p : Nat → Bool) : List Int := ((List.range n).filter p).map (fun (i : Nat) => (i : Int))
theorem whereF_succ (n : Nat) (p : Nat → Bool) : whereF (n + 1) p = if p n = true then whereF n p ++ [(n : Int)] else whereF n p := by
  unfold whereF
  rw [List.range_succ, List.filter_append, List.map_append]
  by_cases h : p n = true <;> simp [h]
theorem whereF_len (n : Nat) (p : Nat → Bool) : (whereF n p).length ≤ n := by
  unfold whereF
  rw [List.length_map]
  have := List.length_filter_le p (List.range n)
  simpa using this

theorem where_ok (n : Nat) (hn : n ≤ 1000000) (f : Nat) (bs : List (List T)) (p : Nat → Bool) (h : ∀ k, k < n → CALL 0 f (I k :: capsN bs.length) (boxesT bs) = some (B (p k), boxesT bs)) :
    CALL 0 N.lists_Where [I n, .fn f (capsN bs.length)] (boxesT bs) = some (.t (tL (whereF n p)), boxesT bs) := by
  refine CALL_of K.t_lists_Where rfl ?_
  have hlen := fun k => whereF_len k p
  have loop : exS CALL K.lists_Where_l1 ⟨[I n, .fn f (capsN bs.length), .nil, .ref bs.length 0 0, .und, I n, I 0], boxesT bs ++ [.arr 1 false 0 []]⟩ =
      some (.exit 0, ⟨[.und, .fn f (capsN bs.length), .und, .ref bs.length 0 (whereF n p).length, .und, I n, I n], boxesT bs ++ [.arr 1 false 0 (((whereF n p).map (T.int .i64)).map .t)]⟩) := by
    refine loop_up (fun j => ⟨[.und, .fn f (capsN bs.length), .und, .ref bs.length 0 (whereF j p).length, .und, I n, I j], boxesT bs ++ [.arr 1 false 0 (((whereF j p).map (T.int .i64)).map .t)]⟩) n rfl ?_ ?_ (by simp)
    · intro j hj
      have hc := clos_call [.arr 1 false 0 (((whereF j p).map (T.int .i64)).map .t)] (h j hj) rfl
      have := hlen j
      by_cases hp : p j = true
      · simp (disch := omega) only [go_sem, K.lists_Where_l1b, hc, hp, whereF_succ, ↓reduceIte]
      · simp (disch := omega) only [go_sem, K.lists_Where_l1b, hc, hp, whereF_succ, ↓reduceIte]
    · simp (disch := omega) only [go_sem, K.lists_Where_l1b, ↓reduceIte]
  simp (disch := omega) only [go_sem, K.lists_Where, ↓reduceIte, loop]

end Go.Ev

/- Slices of frozen lists; elements' sizes. -/
namespace Go.Ev
open Go
variable [Lib] [Has1] [Has2]

theorem cellsAre_map {α : Type} (sz : Nat) (f : α → T) (h : ∀ a, lenIs sz (f a).cells = true) : ∀ l : List α, cellsAre sz (l.map f) = true
  | [] => rfl
  | a :: l => by rw [List.map_cons, cellsAre_cons, h, cellsAre_map sz f h l]; rfl
@[go_sem] theorem cellsAre_int (k : IntKind) (l : List Int) : cellsAre 1 (l.map (.int k)) = true := cellsAre_map 1 _ (fun _ => rfl) l

theorem all_lenIs (sz : Nat) : ∀ ts : List T, (ts.all fun e => e.cells.length == sz) = cellsAre sz ts
  | [] => rfl
  | t :: ts => by
    rw [List.all_cons, cellsAre_cons, all_lenIs sz ts]
    congr 1
    rw [Bool.eq_iff_iff, lenIs_iff]; simp

section
variable (H : Heap) (sz : Nat) (ts : List T) (i j : Int)
@[go_sem] theorem opSc_hi : opSc H sz (some (.t (.sl ts))) (some none) (some (some i)) = if 0 ≤ i then (if i ≤ ts.length then (if cellsAre sz ts = true then some (.t (.sl (ts.take i.toNat)), H) else none) else none) else none := by
  simp only [opSc, Option.bind_some, sliceD, bound, all_lenIs, idx]
  by_cases h1 : 0 ≤ i
  · rw [if_pos h1, if_pos h1, Option.bind_some]
    by_cases h2 : i ≤ ts.length
    · rw [if_pos h2]
      by_cases h3 : cellsAre sz ts = true
      · rw [if_pos h3, if_pos ⟨by omega, by omega, h3⟩]; rfl
      · rw [if_neg h3, if_neg fun h => h3 h.2.2]; rfl
    · rw [if_neg h2, if_neg fun h => h2 (by omega)]; rfl
  · rw [if_neg h1, if_neg h1]; rfl
@[go_sem] theorem opSc_lo : opSc H sz (some (.t (.sl ts))) (some (some i)) (some none) = if 0 ≤ i then (if i ≤ ts.length then (if cellsAre sz ts = true then some (.t (.sl (ts.drop i.toNat)), H) else none) else none) else none := by
  simp only [opSc, Option.bind_some, sliceD, bound, all_lenIs, idx]
  by_cases h1 : 0 ≤ i
  · rw [if_pos h1, if_pos h1, Option.bind_some]
    by_cases h2 : i ≤ ts.length
    · rw [if_pos h2]
      by_cases h3 : cellsAre sz ts = true
      · rw [if_pos h3, if_pos ⟨by omega, by omega, h3⟩, List.take_of_length_le (by simp)]; rfl
      · rw [if_neg h3, if_neg fun h => h3 h.2.2]; rfl
    · rw [if_neg h2, if_neg fun h => h2 (by omega)]; rfl
  · rw [if_neg h1, if_neg h1]; rfl
@[go_sem] theorem opSc_lohi : opSc H sz (some (.t (.sl ts))) (some (some i)) (some (some j)) = if 0 ≤ i then (if i ≤ j then (if j ≤ ts.length then (if cellsAre sz ts = true then some (.t (.sl ((ts.drop i.toNat).take (j.toNat - i.toNat))), H) else none) else none) else none) else none := by
  simp only [opSc, Option.bind_some, sliceD, bound, all_lenIs, idx]
  by_cases h1 : 0 ≤ i
  · rw [if_pos h1, if_pos h1, Option.bind_some]
    by_cases h0 : i ≤ j
    · rw [if_pos h0, if_pos (by omega : 0 ≤ j), Option.bind_some]
      by_cases h2 : j ≤ ts.length
      · rw [if_pos h2]
        by_cases h3 : cellsAre sz ts = true
        · rw [if_pos h3, if_pos ⟨by omega, by omega, h3⟩]; rfl
        · rw [if_neg h3, if_neg fun h => h3 h.2.2]; rfl
      · rw [if_neg h2, if_neg fun h => h2 (by omega)]; rfl
    · rw [if_neg h0]
      by_cases h2 : 0 ≤ j
      · rw [if_pos h2, Option.bind_some, if_neg fun h => h0 (by omega)]; rfl
      · rw [if_neg h2]; rfl
  · rw [if_neg h1, if_neg h1]; rfl
end

/- one element that has live parts -/
def bsK (H : Heap) (l : List Nat) : Option T → Option (D × Heap)
  | some t => some (.t (.sl [t]), pins H l)
  | none => none
@[go_sem] theorem bsK_some (H : Heap) (l : List Nat) (t : T) : bsK H l (some t) = some (.t (.sl [t]), pins H l) := (rfl)
@[go_sem] theorem opBs_agg (H : Heap) (sz : Nat) (cs : List D) : opBs H sz [.agg cs] = if lenIs sz cs = true then bsK H (arrs H 8 (.agg cs)) (frz H 8 (.agg cs)) else none := by
  simp only [opBs, List.all_cons, List.all_nil, Bool.and_true, D.cells]
  by_cases h : lenIs sz cs = true
  · rw [if_pos h, if_pos (by simpa using lenIs_iff.1 h)]
    simp only [mapO, depth, List.flatMap_cons, List.flatMap_nil, List.append_nil]
    cases frz H 8 (.agg cs) <;> rfl
  · rw [if_neg h, if_neg (by intro e; exact h (lenIs_iff.2 (by simpa using e)))]
@[go_sem] theorem opBs_ref (H : Heap) (id ep n : Nat) : opBs H 1 [.ref id ep n] = bsK H (arrs H 8 (.ref id ep n)) (frz H 8 (.ref id ep n)) := by
  simp only [opBs, List.all_cons, List.all_nil, Bool.and_true, D.cells, List.length_cons, List.length_nil, beq_self_eq_true, if_true, mapO, depth, List.flatMap_cons, List.flatMap_nil, List.append_nil]
  cases frz H 8 (.ref id ep n) <;> rfl

/- results with new objects, of a call that is handed none -/
def backR (H : Heap) (r : D) (os : Heap) : D × Heap := (r, H ++ os)
@[go_sem] theorem backR_eq (H : Heap) (r : D) (os : Heap) : backR H r os = (r, H ++ os) := (rfl)
def backQ (H : Heap) (os : Heap) (r : D) : Option (D × Heap) := (mapO (renObj (backTo [] H.length)) os).map (backR H r)
@[go_sem] theorem backQ_eq (H : Heap) (os : Heap) (r : D) : backQ H os r = (mapO (renObj (backTo [] H.length)) os).map (backR H r) := (rfl)
@[go_sem] theorem backP_new (H : Heap) (r : D) (o : Obj) (os : Heap) : backP H (r, o :: os) = (ren (backTo [] H.length) 8 r).bind (backQ H (o :: os)) := by
  simp only [backP, List.isEmpty_cons, Bool.and_false, Bool.false_eq_true, if_false]
  rfl

end Go.Ev

/- The mine's data; chapters 1 and 3 of the references; small functions on lists of numbers. -/
namespace Go.Ev
open Go
variable [Lib] [Has1] [Has2]

structure Place where
  h : Int
  surf : Bool
instance : Dat Place := ⟨⟨0, false⟩⟩
abbrev Place.e (p : Place) : T := .agg [tI p.h, .bool p.surf]

structure Road where
  frm : Int
  to : Int
  len : Int
  area : Int
  walk : Bool
  closed : Bool
  restL : Int
  restH : Int
  liftL : Int
  liftH : Int
instance : Dat Road := ⟨⟨0, 0, 0, 0, false, false, 0, 0, 0, 0⟩⟩
abbrev Road.e (r : Road) : T := .agg [tI r.frm, tI r.to, tI r.len, tI r.area, .bool r.walk, .bool r.closed, tI r.restL, tI r.restH, tI r.liftL, tI r.liftH]

structure Mine where
  places : List Place
  roads : List Road
instance : Dat Mine := ⟨⟨[], []⟩⟩
abbrev Mine.e (m : Mine) : T := .agg [.sl (m.places.map Place.e), .sl (m.roads.map Road.e)]

structure Road.ok (n : Nat) (r : Road) : Prop where
  f0 : 0 ≤ r.frm
  f1 : r.frm < n
  t0 : 0 ≤ r.to
  t1 : r.to < n
  ne : r.frm ≠ r.to
  l0 : 1 ≤ r.len
  l1 : r.len ≤ 100000
  a0 : 1 ≤ r.area
  a1 : r.area ≤ 1000
  r0 : 1 ≤ r.restL
  r1 : r.restL ≤ r.restH
  r2 : r.restH ≤ 262144
  i0 : -2199023255552 ≤ r.liftL
  i1 : r.liftL ≤ r.liftH
  i2 : r.liftH ≤ 2199023255552

structure Mine.ok (m : Mine) : Prop where
  np : m.places.length ≤ 64
  nr : m.roads.length ≤ 128
  hs : ∀ p ∈ m.places, -10000 ≤ p.h ∧ p.h ≤ 10000
  rs : ∀ r ∈ m.roads, r.ok m.places.length

theorem span01_ok (a b lo hi : Int) : CALL 0 N.ref01_Span [.t (.agg [tI a, tI b]), I lo, I hi] [] = some (B (decide (lo ≤ a ∧ a ≤ b ∧ b ≤ hi)), []) := by
  refine CALL_of K.t_ref01_Span rfl ?_
  by_cases h1 : lo ≤ a <;> by_cases h2 : a ≤ b <;> by_cases h3 : b ≤ hi <;> simp (disch := omega) only [go_sem, K.ref01_Span, ↓reduceIte, h1, h2, h3]

theorem check_ok {m : Mine} (h : m.ok) : CALL 0 N.ref01_Check [.t m.e] [] = some (I 0, []) := by
  refine CALL_of K.t_ref01_Check rfl ?_
  have np := h.np
  have nr := h.nr
  have loop1 : ∀ a b c d e : D, exS CALL K.ref01_Check_l1 ⟨[a, .bp 0 0, b, I 0, c, d, e], [.box [.t (.sl (m.places.map Place.e)), .t (.sl (m.roads.map Road.e))]]⟩ =
      some (.exit 0, ⟨[.und, .bp 0 0, .und, I m.places.length, .und, .und, .und], [.box [.t (.sl (m.places.map Place.e)), .t (.sl (m.roads.map Road.e))]]⟩) := by
    intro a b c d e
    refine loop_up (fun j => ⟨[.und, .bp 0 0, .und, I j, .und, .und, .und], [.box [.t (.sl (m.places.map Place.e)), .t (.sl (m.roads.map Road.e))]]⟩) m.places.length rfl ?_ ?_ (by simp)
    · intro j hj
      have hh := h.hs _ (nth_mem hj)
      simp (disch := omega) only [go_sem, K.ref01_Check_l1b, ↓reduceIte]
    · simp (disch := omega) only [go_sem, K.ref01_Check_l1b, ↓reduceIte]
  have loop2 : ∀ a b c d e : D, exS CALL K.ref01_Check_l2 ⟨[a, .bp 0 0, b, c, d, I 0, e], [.box [.t (.sl (m.places.map Place.e)), .t (.sl (m.roads.map Road.e))]]⟩ =
      some (.exit 2, ⟨[.und, .bp 0 0, .und, .und, .und, I m.roads.length, .und], [.box [.t (.sl (m.places.map Place.e)), .t (.sl (m.roads.map Road.e))]]⟩) := by
    intro a b c d e
    refine loop_up (fun j => ⟨[.und, .bp 0 0, .und, .und, .und, I j, .und], [.box [.t (.sl (m.places.map Place.e)), .t (.sl (m.roads.map Road.e))]]⟩) m.roads.length rfl ?_ ?_ (by simp)
    · intro j hj
      obtain ⟨f0, f1, t0, t1, ne, l0, l1, a0, a1, r0, r1, r2, i0, i1, i2⟩ := h.rs _ (nth_mem hj)
      have s1 := span01_ok (nth m.roads j).restL (nth m.roads j).restH 1 262144
      have s2 := span01_ok (nth m.roads j).liftL (nth m.roads j).liftH (-2199023255552) 2199023255552
      simp (disch := omega) only [go_sem] at s1 s2
      simp (disch := omega) only [go_sem, K.ref01_Check_l2b, ↓reduceIte, s1, s2]
    · simp (disch := omega) only [go_sem, K.ref01_Check_l2b, ↓reduceIte]
  simp (disch := omega) only [go_sem, K.ref01_Check, ↓reduceIte, loop1, loop2]

end Go.Ev

/- Lists of numbers: membership, equality, ascending lists; the library's Index, Contains. -/
namespace Go.Ev
open Go
variable [Lib] [Has1] [Has2]

theorem any_nth {l : List Int} {p : Int → Bool} : ((List.range l.length).find? fun j => p (nth l j)).isSome = l.any p := by
  rw [List.isSome_find?, Bool.eq_iff_iff, List.any_eq_true, List.any_eq_true]
  constructor
  · rintro ⟨j, hj, h⟩
    exact ⟨_, nth_mem (List.mem_range.1 hj), h⟩
  · rintro ⟨x, hx, h⟩
    obtain ⟨j, hj⟩ := List.mem_iff_getElem?.1 hx
    exact ⟨j, List.mem_range.2 (List.getElem?_eq_some_iff.1 hj).1, by rw [nth_eq hj]; exact h⟩

theorem has_ok (l : List Int) (x : Int) (hl : l.length ≤ 4294967296) : CALL 0 N.ref23_Has [.t (tL l), I x] [] = some (B (decide (x ∈ l)), []) := by
  refine CALL_of K.t_ref23_Has rfl ?_
  have loop : ∀ a : D, exS CALL K.ref23_Has_l1 ⟨[.t (tL l), I x, a, I 0], []⟩ =
      some (match (List.range l.length).find? (fun j => decide (nth l j = x)) with
        | some j => (.ret, ⟨[.t (tL l), I x, B true, I j], []⟩)
        | none => (.exit 0, ⟨[.t (tL l), I x, .und, I l.length], []⟩)) := by
    intro a
    refine loop_first (fun j => ⟨[.t (tL l), I x, .und, I j], []⟩) l.length (fun j => decide (nth l j = x)) _ _ rfl ?_ ?_ ?_ (by simp)
    · intro j hj hp
      have hp : ¬ nth l j = x := of_decide_eq_false hp
      simp (disch := omega) only [go_sem, K.ref23_Has_l1b, ↓reduceIte]
    · intro j hj hp
      have hp : nth l j = x := of_decide_eq_true hp
      simp (disch := omega) only [go_sem, K.ref23_Has_l1b, ↓reduceIte, hp]
      simp
    · simp (disch := omega) only [go_sem, K.ref23_Has_l1b, ↓reduceIte]
  have e := any_nth (l := l) (p := fun y => decide (y = x))
  have e2 : l.any (fun y => decide (y = x)) = decide (x ∈ l) := by rw [Bool.eq_iff_iff]; simp
  rw [e2] at e
  simp only [go_sem, K.ref23_Has, ↓reduceIte, loop]
  cases hf : (List.range l.length).find? (fun j => decide (nth l j = x)) with
  | some j => rw [hf] at e; simp (disch := omega) only [go_sem, ↓reduceIte, ← e]
  | none => rw [hf] at e; simp (disch := omega) only [go_sem, ↓reduceIte, ← e, Option.isSome_none]

theorem same_ok (a b : List Int) (hl : a.length ≤ 4294967296) : CALL 0 N.ref23_SameInts [.t (tL a), .t (tL b)] [] = some (B (decide (a = b)), []) := by
  refine CALL_of K.t_ref23_SameInts rfl ?_
  by_cases hlen : a.length = b.length
  · have loop : ∀ c : D, exS CALL K.ref23_SameInts_l1 ⟨[.t (tL a), .t (tL b), c, I 0], []⟩ =
        some (match (List.range a.length).find? (fun j => decide (nth a j ≠ nth b j)) with
          | some j => (.ret, ⟨[.t (tL a), .t (tL b), B false, I j], []⟩)
          | none => (.exit 0, ⟨[.t (tL a), .t (tL b), .und, I a.length], []⟩)) := by
      intro c
      refine loop_first (fun j => ⟨[.t (tL a), .t (tL b), .und, I j], []⟩) a.length (fun j => decide (nth a j ≠ nth b j)) _ _ rfl ?_ ?_ ?_ (by simp)
      · intro j hj hp
        have hp : nth a j = nth b j := by simpa using hp
        simp (disch := omega) only [go_sem, K.ref23_SameInts_l1b, ↓reduceIte]
      · intro j hj hp
        have hp : nth a j ≠ nth b j := by simpa using hp
        simp (disch := omega) only [go_sem, K.ref23_SameInts_l1b, ↓reduceIte]
        simp
      · simp (disch := omega) only [go_sem, K.ref23_SameInts_l1b, ↓reduceIte]
    have e : (a = b) ↔ (List.range a.length).find? (fun j => decide (nth a j ≠ nth b j)) = none := by
      rw [List.find?_eq_none]
      constructor
      · intro h j _; simp [h]
      · intro h
        apply List.ext_getElem?
        intro j
        by_cases hj : j < a.length
        · rw [nth_some hj, nth_some (by omega)]
          have := h j (List.mem_range.2 hj)
          simpa using this
        · rw [List.getElem?_eq_none (by omega), List.getElem?_eq_none (by omega)]
    simp (disch := omega) only [go_sem, K.ref23_SameInts, ↓reduceIte, loop]
    cases hf : (List.range a.length).find? (fun j => decide (nth a j ≠ nth b j)) with
    | some j => rw [hf] at e; simp (disch := omega) only [go_sem, ↓reduceIte, e]; simp
    | none => rw [hf] at e; simp (disch := omega) only [go_sem, ↓reduceIte, e]
  · have hne : a ≠ b := fun h => hlen (by rw [h])
    simp (disch := omega) only [go_sem, K.ref23_SameInts, ↓reduceIte, hne]

/-- Ascending numbers, each once, from 0 to n - 1. -/
def setB (l : List Int) (n : Int) : Bool := (List.range l.length).all fun j => decide (0 ≤ nth l j ∧ nth l j < n ∧ (0 < j → nth l (j - 1) < nth l j))

theorem find_all {n : Nat} {p : Nat → Bool} : ((List.range n).all p) = ((List.range n).find? fun j => !p j).isNone := by
  rw [← Option.not_isSome, List.isSome_find?, List.not_any_eq_all_not]
  simp

theorem set_ok (l : List Int) (n : Int) (hl : l.length ≤ 4294967296) : CALL 0 N.ref23_Set [.t (tL l), I n] [] = some (B (setB l n), []) := by
  refine CALL_of K.t_ref23_Set rfl ?_
  have loop : ∀ c : D, exS CALL K.ref23_Set_l1 ⟨[.t (tL l), I n, c, I 0], []⟩ =
      some (match (List.range l.length).find? (fun j => !decide (0 ≤ nth l j ∧ nth l j < n ∧ (0 < j → nth l (j - 1) < nth l j))) with
        | some j => (.ret, ⟨[.t (tL l), I n, B false, I j], []⟩)
        | none => (.exit 0, ⟨[.t (tL l), I n, .und, I l.length], []⟩)) := by
    intro c
    refine loop_first (fun j => ⟨[.t (tL l), I n, .und, I j], []⟩) l.length _ _ _ rfl ?_ ?_ ?_ (by simp)
    · intro j hj hp
      simp only [Bool.not_eq_false', decide_eq_true_eq] at hp
      obtain ⟨h1, h2, h3⟩ := hp
      cases j with
      | zero => simp (disch := omega) only [go_sem, K.ref23_Set_l1b, ↓reduceIte]
      | succ j =>
        have h3 := h3 (by omega)
        rw [Nat.add_sub_cancel] at h3
        simp (disch := omega) only [go_sem, K.ref23_Set_l1b, ↓reduceIte]
    · intro j hj hp
      simp only [Bool.not_eq_true', decide_eq_false_iff_not] at hp
      refine ⟨?_, by simp⟩
      by_cases h1 : 0 ≤ nth l j
      · by_cases h2 : nth l j < n
        · cases j with
          | zero => exact absurd ⟨h1, h2, fun h => absurd h (by omega)⟩ hp
          | succ j =>
            have h3 : ¬ nth l j < nth l (j + 1) := fun h => hp ⟨h1, h2, fun _ => by simpa using h⟩
            simp (disch := omega) only [go_sem, K.ref23_Set_l1b, ↓reduceIte]
        · simp (disch := omega) only [go_sem, K.ref23_Set_l1b, ↓reduceIte]
      · simp (disch := omega) only [go_sem, K.ref23_Set_l1b, ↓reduceIte]
    · simp (disch := omega) only [go_sem, K.ref23_Set_l1b, ↓reduceIte]
  have e : setB l n = _ := find_all
  simp only [go_sem, K.ref23_Set, ↓reduceIte, loop]
  cases hf : (List.range l.length).find? (fun j => !decide (0 ≤ nth l j ∧ nth l j < n ∧ (0 < j → nth l (j - 1) < nth l j))) with
  | some j => rw [hf] at e; simp (disch := omega) only [go_sem, ↓reduceIte, e, Option.isNone_some]
  | none => rw [hf] at e; simp (disch := omega) only [go_sem, ↓reduceIte, e, Option.isNone_none]

theorem in_ok (x lo hi : Int) : CALL 0 N.lists_In [I x, I lo, I hi] [] = some (B (decide (lo ≤ x ∧ x ≤ hi)), []) := by
  refine CALL_of K.t_lists_In rfl ?_
  by_cases h1 : lo ≤ x <;> by_cases h2 : x ≤ hi <;> simp (disch := omega) only [go_sem, K.lists_In, ↓reduceIte]

theorem index_ok (l : List Int) (x : Int) (hl : l.length ≤ 4294967296) : CALL 0 N.slices_Index_int_int [.t (tL l), I x] [] =
    some (I (match (List.range l.length).find? (fun j => decide (nth l j = x)) with | some j => (j : Int) | none => -1), []) := by
  refine CALL_of K.t_slices_Index_int_int rfl ?_
  have loop : ∀ a b : D, exS CALL K.slices_Index_int_int_l1 ⟨[.t (tL l), I x, a, b, I l.length, I 0], []⟩ =
      some (match (List.range l.length).find? (fun j => decide (nth l j = x)) with
        | some j => (.ret, ⟨[.t (tL l), I x, I j, I j, I l.length, I j], []⟩)
        | none => (.exit 0, ⟨[.t (tL l), I x, .und, .und, I l.length, I l.length], []⟩)) := by
    intro a b
    refine loop_first (fun j => ⟨[.t (tL l), I x, .und, .und, I l.length, I j], []⟩) l.length (fun j => decide (nth l j = x)) _ _ rfl ?_ ?_ ?_ (by simp)
    · intro j hj hp
      have hp : ¬ nth l j = x := of_decide_eq_false hp
      simp (disch := omega) only [go_sem, K.slices_Index_int_int_l1b, ↓reduceIte]
    · intro j hj hp
      have hp : nth l j = x := of_decide_eq_true hp
      simp (disch := omega) only [go_sem, K.slices_Index_int_int_l1b, ↓reduceIte, hp]
      simp
    · simp (disch := omega) only [go_sem, K.slices_Index_int_int_l1b, ↓reduceIte]
  simp (disch := omega) only [go_sem, K.slices_Index_int_int, ↓reduceIte, loop]
  cases hf : (List.range l.length).find? (fun j => decide (nth l j = x)) with
  | some j => simp (disch := omega) only [go_sem, ↓reduceIte]
  | none => simp (disch := omega) only [go_sem, ↓reduceIte]

theorem contains_ok (l : List Int) (x : Int) (hl : l.length ≤ 4294967296) : CALL 0 N.slices_Contains_int_int [.t (tL l), I x] [] = some (B (decide (x ∈ l)), []) := by
  refine CALL_of K.t_slices_Contains_int_int rfl ?_
  have h := index_ok l x hl
  have e := any_nth (l := l) (p := fun y => decide (y = x))
  have e2 : l.any (fun y => decide (y = x)) = decide (x ∈ l) := by rw [Bool.eq_iff_iff]; simp
  rw [e2] at e
  cases hf : (List.range l.length).find? (fun j => decide (nth l j = x)) with
  | some j => rw [hf] at e h; simp (disch := omega) only [go_sem, K.slices_Contains_int_int, ↓reduceIte, ← e, h]
  | none => rw [hf] at e h; simp (disch := omega) only [go_sem, K.slices_Contains_int_int, ↓reduceIte, ← e, h, Option.isSome_none]

theorem indexFunc_ok (l : List Int) (hl : l.length ≤ 4294967296) (f : Nat) (bs : List (List T)) (p : Int → Bool) (h : ∀ x, x ∈ l → CALL 0 f (I x :: capsN bs.length) (boxesT bs) = some (B (p x), boxesT bs)) :
    CALL 0 N.slices_IndexFunc_int_int [.t (tL l), .fn f (capsN bs.length)] (boxesT bs) =
    some (I (match (List.range l.length).find? (fun j => p (nth l j)) with | some j => (j : Int) | none => -1), boxesT bs) := by
  refine CALL_of K.t_slices_IndexFunc_int_int rfl ?_
  have loop : ∀ a b : D, exS CALL K.slices_IndexFunc_int_int_l1 ⟨[.t (tL l), .fn f (capsN bs.length), a, b, I l.length, I 0], boxesT bs⟩ =
      some (match (List.range l.length).find? (fun j => p (nth l j)) with
        | some j => (.ret, ⟨[.t (tL l), .fn f (capsN bs.length), I j, I j, I l.length, I j], boxesT bs⟩)
        | none => (.exit 0, ⟨[.t (tL l), .fn f (capsN bs.length), .und, .und, I l.length, I l.length], boxesT bs⟩)) := by
    intro a b
    refine loop_first (fun j => ⟨[.t (tL l), .fn f (capsN bs.length), .und, .und, I l.length, I j], boxesT bs⟩) l.length (fun j => p (nth l j)) _ _ rfl ?_ ?_ ?_ (by simp)
    · intro j hj hp
      have hc := clos_call0 (h _ (nth_mem hj)) rfl
      simp (disch := omega) only [go_sem, K.slices_IndexFunc_int_int_l1b, ↓reduceIte, hc, hp]
    · intro j hj hp
      have hc := clos_call0 (h _ (nth_mem hj)) rfl
      simp (disch := omega) only [go_sem, K.slices_IndexFunc_int_int_l1b, ↓reduceIte, hp, hc]
      simp
    · simp (disch := omega) only [go_sem, K.slices_IndexFunc_int_int_l1b, ↓reduceIte]
  simp (disch := omega) only [go_sem, K.slices_IndexFunc_int_int, ↓reduceIte, loop]
  cases hf : (List.range l.length).find? (fun j => p (nth l j)) with
  | some j => simp (disch := omega) only [go_sem, ↓reduceIte]
  | none => simp (disch := omega) only [go_sem, ↓reduceIte]

theorem containsFunc_ok (l : List Int) (hl : l.length ≤ 4294967296) (f : Nat) (bs : List (List T)) (p : Int → Bool) (h : ∀ x, x ∈ l → CALL 0 f (I x :: capsN bs.length) (boxesT bs) = some (B (p x), boxesT bs)) :
    CALL 0 N.slices_ContainsFunc_int_int [.t (tL l), .fn f (capsN bs.length)] (boxesT bs) = some (B (l.any p), boxesT bs) := by
  refine CALL_of K.t_slices_ContainsFunc_int_int rfl ?_
  have h := indexFunc_ok l hl f bs p h
  have hc := opCa_clos2 CALL bs f _ 0 (tL l) h rfl
  have e := any_nth (l := l) (p := p)
  cases hf : (List.range l.length).find? (fun j => p (nth l j)) with
  | some j => rw [hf] at e hc; simp (disch := omega) only [go_sem, K.slices_ContainsFunc_int_int, ↓reduceIte, ← e, hc]
  | none => rw [hf] at e hc; simp (disch := omega) only [go_sem, K.slices_ContainsFunc_int_int, ↓reduceIte, ← e, hc, Option.isSome_none]

end Go.Ev

/- Chapter 3 of the references: walking times. Chapter 25: closing times. -/
namespace Go.Ev
open Go
variable [Lib] [Has1] [Has2]

theorem ends_ok (r : Road) (back : Bool) : CALL 0 N.ref03_ends [.t r.e, B back] [] = some (.tup [I (if back then r.to else r.frm), I (if back then r.frm else r.to)], []) := by
  refine CALL_of K.t_ref03_ends rfl ?_
  cases back <;> simp (disch := omega) only [go_sem, K.ref03_ends, ↓reduceIte]

/-- The seconds for a road; -1 if it cannot be walked. -/
def walkT (m : Mine) (k : Nat) (back : Bool) (up down level : Int) : Int :=
  let x := nth m.roads k
  if x.closed = true ∨ x.walk = false then -1 else
  let a := if back then x.to else x.frm
  let b := if back then x.frm else x.to
  let rise := (nth m.places b.toNat).h - (nth m.places a.toNat).h
  let speed := if -10 * rise > x.len then down else if 10 * rise > x.len then up else level
  (10 * x.len + speed - 1).tdiv speed

theorem tdiv_bd {a b : Int} (ha : 0 ≤ a) (hb : 1 ≤ b) : 0 ≤ a.tdiv b ∧ a.tdiv b ≤ a := by
  rw [Int.tdiv_eq_ediv_of_nonneg ha]
  exact ⟨Int.ediv_nonneg ha (by omega), Int.ediv_le_self _ ha⟩

theorem walked_ok {m : Mine} (h : m.ok) (k : Nat) (hk : k < m.roads.length) (back : Bool) (up down level : Int) (hu : 1 ≤ up) (hu2 : up ≤ 100) (hd : 1 ≤ down) (hd2 : down ≤ 100) (hl : 1 ≤ level) (hl2 : level ≤ 100) :
    CALL 0 N.ref03_walked [.t m.e, I k, B back, I up, I down, I level] [] = some (I (walkT m k back up down level), []) := by
  refine CALL_of K.t_ref03_walked rfl ?_
  have hc := check_ok h
  have nr := h.nr
  have np := h.np
  obtain ⟨f0, f1, t0, t1, -, l0, l1, -, -, -, -, -, -, -, -⟩ := h.rs _ (nth_mem hk)
  have he := ends_ok (nth m.roads k) back
  have b1 := h.hs _ (nth_mem (l := m.places) (j := (nth m.roads k).frm.toNat) (by omega))
  have b2 := h.hs _ (nth_mem (l := m.places) (j := (nth m.roads k).to.toNat) (by omega))
  unfold walkT
  generalize hx : nth m.roads k = x at *
  obtain ⟨frm, to, len, area, walk, closed, rl, rh, ll, lh⟩ := x
  simp only at f0 f1 t0 t1 l0 l1 b1 b2 he ⊢
  cases closed with
  | true => simp (disch := omega) only [go_sem, K.ref03_walked, ↓reduceIte, hc, hx]
  | false =>
    cases walk with
    | false => simp (disch := omega) only [go_sem, K.ref03_walked, ↓reduceIte, hc, hx]
    | true =>
      have g1 := tdiv_bd (a := 10 * len + up - 1) (b := up) (by omega) hu
      have g2 := tdiv_bd (a := 10 * len + down - 1) (b := down) (by omega) hd
      have g3 := tdiv_bd (a := 10 * len + level - 1) (b := level) (by omega) hl
      cases back with
      | true =>
        simp only [↓reduceIte] at he ⊢
        have w1 : IntKind.i64.wrap ((nth m.places frm.toNat).h - (nth m.places to.toNat).h) = (nth m.places frm.toNat).h - (nth m.places to.toNat).h := wrap_id (by omega) (by omega)
        by_cases c2 : len < -10 * ((nth m.places frm.toNat).h - (nth m.places to.toNat).h)
        · simp (disch := omega) only [go_sem, K.ref03_walked, ↓reduceIte, hc, hx, he, w1, gt_iff_lt]
        · by_cases c1 : len < 10 * ((nth m.places frm.toNat).h - (nth m.places to.toNat).h)
          · simp (disch := omega) only [go_sem, K.ref03_walked, ↓reduceIte, hc, hx, he, w1, gt_iff_lt]
          · simp (disch := omega) only [go_sem, K.ref03_walked, ↓reduceIte, hc, hx, he, w1, gt_iff_lt]
      | false =>
        simp only [Bool.false_eq_true, ↓reduceIte] at he ⊢
        have w1 : IntKind.i64.wrap ((nth m.places to.toNat).h - (nth m.places frm.toNat).h) = (nth m.places to.toNat).h - (nth m.places frm.toNat).h := wrap_id (by omega) (by omega)
        by_cases c2 : len < -10 * ((nth m.places to.toNat).h - (nth m.places frm.toNat).h)
        · simp (disch := omega) only [go_sem, K.ref03_walked, ↓reduceIte, hc, hx, he, w1, gt_iff_lt]
        · by_cases c1 : len < 10 * ((nth m.places to.toNat).h - (nth m.places frm.toNat).h)
          · simp (disch := omega) only [go_sem, K.ref03_walked, ↓reduceIte, hc, hx, he, w1, gt_iff_lt]
          · simp (disch := omega) only [go_sem, K.ref03_walked, ↓reduceIte, hc, hx, he, w1, gt_iff_lt]

theorem time_ok {m : Mine} (h : m.ok) (k : Nat) (hk : k < m.roads.length) (back : Bool) : CALL 0 N.ref03_Time [.t m.e, I k, B back] [] = some (I (walkT m k back 6 9 12), []) := by
  refine CALL_of K.t_ref03_Time rfl ?_
  have hw := walked_ok h k hk back 6 9 12 (by omega) (by omega) (by omega) (by omega) (by omega) (by omega)
  simp (disch := omega) only [go_sem, K.ref03_Time, ↓reduceIte, hw]

theorem walkT_lo {m : Mine} (h : m.ok) (k : Nat) (hk : k < m.roads.length) (back : Bool) : -1 ≤ walkT m k back 6 9 12 ∧ walkT m k back 6 9 12 ≤ 1000012 := by
  have l0 := (h.rs _ (nth_mem hk)).l0
  have l1 := (h.rs _ (nth_mem hk)).l1
  unfold walkT
  simp only
  split
  · omega
  · generalize hs : (if -10 * _ > (nth m.roads k).len then (9 : Int) else _) = s
    have h1 : 1 ≤ s ∧ s ≤ 12 := by
      rw [← hs]
      split
      · omega
      · split <;> omega
    have g1 := tdiv_bd (a := 10 * (nth m.roads k).len + s - 1) (b := s) (by omega) h1.1
    omega

/-- Times that are as they have to be: from 0 to Never. -/
def bnd (l : List Int) : Prop := ∀ x ∈ l, 0 ≤ x ∧ x ≤ 1099511627776

def lowerC (l : List Int) (p q : Nat) (walk t : Int) : Bool :=
  decide (0 ≤ walk) && decide (nth l p < 1099511627776) && decide (max t (nth l p + walk) ≤ 2147483648) && decide (max t (nth l p + walk) < nth l q)
def lowerF (l : List Int) (p q : Nat) (walk t : Int) : List Int := if lowerC l p q walk t = true then l.set q (max t (nth l p + walk)) else l

theorem lower_ok (l : List Int) (hb : bnd l) (hl : l.length ≤ 64) (p q : Int) (hp : 0 ≤ p) (hp2 : p < l.length) (hq : 0 ≤ q) (hq2 : q < l.length) (walk t : Int) (hw : walk ≤ 1000000000) (ht : t ≤ 1000000000000) (ht0 : -1000000000000 ≤ t) :
    CALL 0 N.ref25_lower [.ref 0 0 l.length, I p, I q, I walk, I t] [.arr 1 false 0 ((l.map (T.int .i64)).map .t)] =
      some (B (lowerC l p.toNat q.toNat walk t), [.arr 1 false 0 (((lowerF l p.toNat q.toNat walk t).map (T.int .i64)).map .t)]) := by
  refine CALL_of K.t_ref25_lower rfl ?_
  have b1 := hb _ (nth_mem (l := l) (j := p.toNat) (by omega))
  have b2 := hb _ (nth_mem (l := l) (j := q.toNat) (by omega))
  clear hb
  unfold lowerF lowerC
  by_cases c1 : 0 ≤ walk
  · by_cases c2 : nth l p.toNat < 1099511627776
    · by_cases c3 : max t (nth l p.toNat + walk) ≤ 2147483648
      · by_cases c4 : max t (nth l p.toNat + walk) < nth l q.toNat
        · simp (disch := omega) only [go_sem, K.ref25_lower, ↓reduceIte]
        · simp (disch := omega) only [go_sem, K.ref25_lower, ↓reduceIte]
      · simp (disch := omega) only [go_sem, K.ref25_lower, ↓reduceIte]
    · simp (disch := omega) only [go_sem, K.ref25_lower, ↓reduceIte]
  · simp (disch := omega) only [go_sem, K.ref25_lower, ↓reduceIte]

/-- Whether a place is among some (none: all). -/
def inOK (into : Option (List Int)) (p : Int) : Bool := match into with
  | none => true
  | some l => decide (p ∈ l)
def intoD (into : Option (List Int)) : D := match into with
  | none => .nil
  | some l => .t (tL l)

def Road.src (r : Road) (back : Bool) : Int := if back then r.to else r.frm
def Road.dst (r : Road) (back : Bool) : Int := if back then r.frm else r.to
theorem Road.src_ok {n : Nat} {r : Road} (h : r.ok n) (back : Bool) : 0 ≤ r.src back ∧ r.src back < n := by
  unfold Road.src; have := h.f0; have := h.f1; have := h.t0; have := h.t1; cases back <;> simp <;> omega
theorem Road.dst_ok {n : Nat} {r : Road} (h : r.ok n) (back : Bool) : 0 ≤ r.dst back ∧ r.dst back < n := by
  unfold Road.dst; have := h.f0; have := h.f1; have := h.t0; have := h.t1; cases back <;> simp <;> omega

def halfF (m : Mine) (t : Int) (into : Option (List Int)) (k : Nat) (back : Bool) (l : List Int) : List Int × Bool :=
  if inOK into ((nth m.roads k).dst back) = true then
    (lowerF l ((nth m.roads k).src back).toNat ((nth m.roads k).dst back).toNat (walkT m k back 6 9 12) t, lowerC l ((nth m.roads k).src back).toNat ((nth m.roads k).dst back).toNat (walkT m k back 6 9 12) t)
  else (l, false)
def stepF (m : Mine) (t : Int) (into : Option (List Int)) (k : Nat) (s : List Int × Bool) : List Int × Bool :=
  let a := halfF m t into k false s.1
  let b := halfF m t into k true a.1
  (b.1, s.2 || a.2 || b.2)
def stepsF (m : Mine) (t : Int) (into : Option (List Int)) (l : List Int) : Nat → List Int × Bool
  | 0 => (l, false)
  | k + 1 => stepF m t into k (stepsF m t into l k)
def roundF (m : Mine) (t : Int) (into : Option (List Int)) (l : List Int) : List Int × Bool := stepsF m t into l m.roads.length

theorem lowerF_len (l : List Int) (p q : Nat) (w t : Int) : (lowerF l p q w t).length = l.length := by unfold lowerF; split <;> simp
theorem halfF_len (m : Mine) (t : Int) (into : Option (List Int)) (k : Nat) (back : Bool) (l : List Int) : (halfF m t into k back l).1.length = l.length := by
  unfold halfF; split
  · exact lowerF_len _ _ _ _ _
  · rfl
theorem stepsF_len (m : Mine) (t : Int) (into : Option (List Int)) (l : List Int) : ∀ k, (stepsF m t into l k).1.length = l.length
  | 0 => rfl
  | k + 1 => by simp only [stepsF, stepF, halfF_len, stepsF_len m t into l k]

theorem bnd_set {l : List Int} (h : bnd l) {q : Nat} {x : Int} (h0 : 0 ≤ x) (h1 : x ≤ 1099511627776) : bnd (l.set q x) := by
  intro y hy
  rcases List.mem_or_eq_of_mem_set hy with hy | hy
  · exact h y hy
  · subst hy; exact ⟨h0, h1⟩
theorem lowerF_bnd {l : List Int} (h : bnd l) {p q : Nat} (hp : p < l.length) {w t : Int} : bnd (lowerF l p q w t) := by
  unfold lowerF
  split
  · rename_i hc
    simp only [lowerC, Bool.and_eq_true, decide_eq_true_eq] at hc
    have := h _ (nth_mem hp)
    exact bnd_set h (by omega) (by omega)
  · exact h

section
variable {m : Mine} (h : m.ok) {t : Int} {into : Option (List Int)}
include h
theorem halfF_bnd {l : List Int} (hl : l.length = m.places.length) (hb : bnd l) {k : Nat} (hk : k < m.roads.length) (back : Bool) : bnd (halfF m t into k back l).1 := by
  have r1 := Road.src_ok (h.rs _ (nth_mem hk)) back
  unfold halfF
  split
  · exact lowerF_bnd hb (by omega)
  · exact hb
theorem stepsF_bnd {l : List Int} (hl : l.length = m.places.length) (hb : bnd l) : ∀ k, k ≤ m.roads.length → bnd (stepsF m t into l k).1
  | 0, _ => hb
  | k + 1, hk => by
    simp only [stepsF, stepF]
    exact halfF_bnd h (by rw [halfF_len, stepsF_len, hl]) (halfF_bnd h (by rw [stepsF_len, hl]) (stepsF_bnd hl hb k (by omega)) (by omega) _) (by omega) _
end

/-- The sum of times: it falls. -/
def sumN (l : List Int) : Nat := (l.map Int.toNat).sum
theorem sumN_set : ∀ {l : List Int} {q : Nat} {x : Int}, q < l.length → 0 ≤ x → x < nth l q → sumN (l.set q x) < sumN l
  | [], q, x, h, _, _ => by simp at h
  | a :: l, 0, x, _, h0, h1 => by
    have h1 : x < a := by simpa [nth] using h1
    simp only [sumN, List.set_cons_zero, List.map_cons, List.sum_cons]; omega
  | a :: l, q + 1, x, h, h0, h1 => by
    have := sumN_set (l := l) (q := q) (x := x) (by simpa using h) h0 (by simpa [nth] using h1)
    simp only [sumN, List.set_cons_succ, List.map_cons, List.sum_cons] at this ⊢; omega

theorem lowerF_sum {l : List Int} (hb : bnd l) {p q : Nat} (hp : p < l.length) (hq : q < l.length) {w t : Int} :
    (lowerC l p q w t = true → sumN (lowerF l p q w t) < sumN l) ∧ (lowerC l p q w t = false → lowerF l p q w t = l) := by
  unfold lowerF
  constructor
  · intro hc
    rw [if_pos hc]
    simp only [lowerC, Bool.and_eq_true, decide_eq_true_eq] at hc
    have := hb _ (nth_mem hp)
    exact sumN_set hq (by omega) hc.2
  · intro hc; rw [if_neg (by simp [hc])]

section
variable {m : Mine} (h : m.ok) {t : Int} {into : Option (List Int)}
include h
theorem halfF_sum {l : List Int} (hl : l.length = m.places.length) (hb : bnd l) {k : Nat} (hk : k < m.roads.length) (back : Bool) :
    ((halfF m t into k back l).2 = true → sumN (halfF m t into k back l).1 < sumN l) ∧ ((halfF m t into k back l).2 = false → (halfF m t into k back l).1 = l) := by
  have r1 := Road.src_ok (h.rs _ (nth_mem hk)) back
  have r2 := Road.dst_ok (h.rs _ (nth_mem hk)) back
  unfold halfF
  split
  · exact lowerF_sum hb (by omega) (by omega)
  · simp
theorem stepsF_sum {l : List Int} (hl : l.length = m.places.length) (hb : bnd l) : ∀ k, k ≤ m.roads.length →
    ((stepsF m t into l k).2 = true → sumN (stepsF m t into l k).1 < sumN l) ∧ ((stepsF m t into l k).2 = false → (stepsF m t into l k).1 = l)
  | 0, _ => ⟨fun h => by simp [stepsF] at h, fun _ => rfl⟩
  | k + 1, hk => by
    obtain ⟨i1, i2⟩ := stepsF_sum hl hb k (by omega)
    have hb1 := stepsF_bnd h (t := t) (into := into) hl hb k (by omega)
    have hl1 : (stepsF m t into l k).1.length = m.places.length := by rw [stepsF_len, hl]
    obtain ⟨a1, a2⟩ := halfF_sum h (t := t) (into := into) hl1 hb1 (k := k) (by omega) false
    have hb2 := halfF_bnd h (t := t) (into := into) hl1 hb1 (k := k) (by omega) false
    obtain ⟨c1, c2⟩ := halfF_sum h (t := t) (into := into) (by rw [halfF_len, hl1]) hb2 (k := k) (by omega) true
    simp only [stepsF, stepF]
    generalize stepsF m t into l k = s at *
    obtain ⟨sl, sb⟩ := s
    simp only at *
    generalize halfF m t into k false sl = a at *
    obtain ⟨al, ab⟩ := a
    simp only at *
    generalize halfF m t into k true al = b at *
    obtain ⟨bl, bb⟩ := b
    simp only at *
    cases sb <;> cases ab <;> cases bb <;> simp_all <;> omega
end

end Go.Ev

/- Chapter 25 of the references: closing times, by the code. -/
namespace Go.Ev
open Go
variable [Lib] [Has1] [Has2]

abbrev mineCells (m : Mine) : List D := [.t (.sl (m.places.map Place.e)), .t (.sl (m.roads.map Road.e))]

theorem eq_into (H : Heap) (into : Option (List Int)) (hi : ∀ l, into = some l → l ≠ []) : opEqk H .sl false (some (intoD into)) (some .nil) = some (B (into.isNone), H) := by
  cases into with
  | none => rfl
  | some l => exact opEqk_sl H _ (by simpa using hi l rfl)

@[go_sem] theorem old_intoD (k n : Nat) (into : Option (List Int)) : old k n (intoD into) = true := by
  cases into <;> simp only [intoD, go_sem]

/-- One road, in both directions. -/
theorem close_step {m : Mine} (h : m.ok) (t : Int) (ht : t ≤ 1000000000000) (ht0 : -1000000000000 ≤ t) (into : Option (List Int)) (hi : ∀ l, into = some l → l ≠ [] ∧ l.length ≤ 64) (l : List Int) (hl : l.length = m.places.length) (hb : bnd l)
    (k : Nat) (hk : k < m.roads.length) (ag : Bool) :
    roundC true [0, 1, 5, 9] 2 (exS CALL K.ref25_close_l2b ⟨[.und, .und, I t, intoD into, .bp 0 0, .und, .ref 1 0 l.length, B ag, I k, .und], [.box (mineCells m), .arr 1 false 0 ((l.map (T.int .i64)).map .t)]⟩) =
      some ⟨[.und, .und, I t, intoD into, .bp 0 0, .und, .ref 1 0 (stepF m t into k (l, ag)).1.length, B (stepF m t into k (l, ag)).2, I (k + 1), .und], [.box (mineCells m), .arr 1 false 0 (((stepF m t into k (l, ag)).1.map (T.int .i64)).map .t)]⟩ := by
  have np := h.np
  have nr := h.nr
  have t1 := time_ok h k hk false
  have t2 := time_ok h k hk true
  have w1 := (walkT_lo h k hk false).2
  have w2 := (walkT_lo h k hk true).2
  obtain ⟨f0, f1, t0, t1', -, -, -, -, -, -, -, -, -, -, -⟩ := h.rs _ (nth_mem hk)
  have e0 := fun H => eq_into H into fun l hl => (hi l hl).1
  have lw1 := lower_ok l hb (by omega) (nth m.roads k).frm (nth m.roads k).to f0 (by omega) t0 (by omega) (walkT m k false 6 9 12) t (by omega) ht ht0
  have lw2 := lower_ok l hb (by omega) (nth m.roads k).to (nth m.roads k).frm t0 (by omega) f0 (by omega) (walkT m k true 6 9 12) t (by omega) ht ht0
  have hl' : (lowerF l (nth m.roads k).frm.toNat (nth m.roads k).to.toNat (walkT m k false 6 9 12) t).length = l.length := lowerF_len ..
  have lw3 := lower_ok _ (lowerF_bnd hb (p := (nth m.roads k).frm.toNat) (q := (nth m.roads k).to.toNat) (w := walkT m k false 6 9 12) (t := t) (by omega)) (by omega) (nth m.roads k).to (nth m.roads k).frm t0 (by omega) f0 (by omega) (walkT m k true 6 9 12) t (by omega) ht ht0
  rw [hl'] at lw3
  simp only [stepF, halfF, Road.src, Road.dst, Bool.false_eq_true, ↓reduceIte]
  generalize hx : nth m.roads k = x at *
  obtain ⟨frm, to, len, area, walk, closed, rl, rh, ll, lh⟩ := x
  simp only at f0 f1 t0 t1' lw1 lw2 lw3 hl' ⊢
  generalize hw1 : walkT m k false 6 9 12 = v1 at *
  generalize hw2 : walkT m k true 6 9 12 = v2 at *
  clear hb
  cases into with
  | none =>
    simp only [intoD, inOK, ↓reduceIte, Option.isNone] at e0 ⊢
    cases c1 : lowerC l frm.toNat to.toNat v1 t <;> cases c2 : lowerC (lowerF l frm.toNat to.toNat v1 t) to.toNat frm.toNat v2 t <;> rw [c1] at lw1 <;> rw [c2] at lw3 <;>
    simp (disch := omega) only [go_sem, K.ref25_close_l2b, ↓reduceIte, hx, e0, t1, t2, lw1, lw3, lowerF_len, Nat.reduceAdd, Nat.reduceSub]
  | some s =>
    have hs := (hi s rfl).2
    have g1 := has_ok s to (by omega)
    have g2 := has_ok s frm (by omega)
    simp only [intoD, inOK, Option.isNone] at e0 ⊢
    by_cases m1 : to ∈ s <;> by_cases m2 : frm ∈ s
    · simp only [m1, m2, decide_true, ↓reduceIte] at g1 g2 ⊢
      cases c1 : lowerC l frm.toNat to.toNat v1 t <;> cases c2 : lowerC (lowerF l frm.toNat to.toNat v1 t) to.toNat frm.toNat v2 t <;> rw [c1] at lw1 <;> rw [c2] at lw3 <;>
      simp (disch := omega) only [go_sem, K.ref25_close_l2b, ↓reduceIte, hx, e0, t1, t2, lw1, lw3, g1, g2, c1, Bool.or_true, Bool.or_false, lowerF_len, Nat.reduceAdd, Nat.reduceSub]
    · simp only [m1, m2, decide_true, decide_false, ↓reduceIte] at g1 g2 ⊢
      cases c1 : lowerC l frm.toNat to.toNat v1 t <;> rw [c1] at lw1 <;> 
      simp (disch := omega) only [go_sem, K.ref25_close_l2b, ↓reduceIte, hx, e0, t1, t2, lw1, g1, g2, c1, Bool.or_true, Bool.or_false, lowerF_len, Nat.reduceAdd, Nat.reduceSub]
    · simp only [m1, m2, decide_true, decide_false, ↓reduceIte] at g1 g2 ⊢
      cases c1 : lowerC l to.toNat frm.toNat v2 t <;> rw [c1] at lw2 <;> 
      simp (disch := omega) only [go_sem, K.ref25_close_l2b, ↓reduceIte, hx, e0, t1, t2, lw2, g1, g2, c1, Bool.or_true, Bool.or_false, lowerF_len, Nat.reduceAdd, Nat.reduceSub]
    · simp only [m1, m2, decide_false, ↓reduceIte] at g1 g2 ⊢
      simp (disch := omega) only [go_sem, K.ref25_close_l2b, ↓reduceIte, hx, e0, t1, t2, g1, g2, Nat.reduceAdd, Nat.reduceSub]

/-- A round over all roads, and rounds until nothing changes. -/
theorem close_ok {m : Mine} (h : m.ok) (t : Int) (ht : t ≤ 1000000000000) (ht0 : -1000000000000 ≤ t) (into : Option (List Int)) (hi : ∀ l, into = some l → l ≠ [] ∧ l.length ≤ 64) (l : List Int) (hl : l.length = m.places.length) (hb : bnd l) :
    CALL 0 N.ref25_close [.t m.e, .t (tL l), I t, intoD into] [] = some (.t (tL (closeN (roundF m t into) (sumN l + 1) l)), []) ∧ (closeN (roundF m t into) (sumN l + 1) l).length = m.places.length ∧ bnd (closeN (roundF m t into) (sumN l + 1) l) := by
  have nr := h.nr
  have inner : ∀ (l : List Int), l.length = m.places.length → bnd l → ∀ (a b c d : D), exS CALL K.ref25_close_l2 ⟨[a, b, I t, intoD into, .bp 0 0, c, .ref 1 0 l.length, B false, I 0, d], [.box (mineCells m), .arr 1 false 0 ((l.map (T.int .i64)).map .t)]⟩ =
      some (.exit 2, ⟨[.und, .und, I t, intoD into, .bp 0 0, .und, .ref 1 0 l.length, B (roundF m t into l).2, I m.roads.length, .und], [.box (mineCells m), .arr 1 false 0 (((roundF m t into l).1.map (T.int .i64)).map .t)]⟩) := by
    intro l hl hb a b c d
    refine loop_up (fun j => ⟨[.und, .und, I t, intoD into, .bp 0 0, .und, .ref 1 0 (stepsF m t into l j).1.length, B (stepsF m t into l j).2, I j, .und], [.box (mineCells m), .arr 1 false 0 (((stepsF m t into l j).1.map (T.int .i64)).map .t)]⟩) m.roads.length rfl ?_ ?_ (by simp)
    · intro j hj
      have := close_step h t ht ht0 into hi (stepsF m t into l j).1 (by rw [stepsF_len, hl]) (stepsF_bnd h hl hb j (by omega)) j hj (stepsF m t into l j).2
      exact this
    · simp (disch := omega) only [go_sem, K.ref25_close_l2b, ↓reduceIte, roundF, stepsF_len]
  have outer := fun (a b c d e : D) => loop_again (gc := true) (dead := [0, 1, 5, 8, 9]) (c := K.ref25_close_l1b) (vs := [a, b, I t, intoD into, .bp 0 0, c, .ref 1 0 l.length, B true, d, e]) (H := [.box (mineCells m), .arr 1 false 0 ((l.map (T.int .i64)).map .t)])
    (fun l ag => ⟨[.und, .und, I t, intoD into, .bp 0 0, .und, .ref 1 0 l.length, B ag, .und, .und], [.box (mineCells m), .arr 1 false 0 ((l.map (T.int .i64)).map .t)]⟩)
    (fun l => (.exit 0, ⟨[.und, .und, I t, intoD into, .bp 0 0, .und, .ref 1 0 l.length, B false, .und, .und], [.box (mineCells m), .arr 1 false 0 ((l.map (T.int .i64)).map .t)]⟩))
    (roundF m t into) (fun l => l.length = m.places.length ∧ bnd l) sumN
    (fun l ⟨hl, hb⟩ => ⟨⟨by rw [roundF, stepsF_len, hl], stepsF_bnd h hl hb _ (Nat.le_refl _)⟩, (stepsF_sum h hl hb _ (Nat.le_refl _)).1⟩)
    (by
      rintro l ⟨hl, hb⟩
      have := inner l hl hb
      have e : (roundF m t into l).1.length = l.length := by rw [roundF, stepsF_len]
      simp (disch := omega) only [go_sem, K.ref25_close_l1b, ↓reduceIte, this, e])
    (by
      rintro l ⟨hl, hb⟩
      simp (disch := omega) only [go_sem, K.ref25_close_l1b, ↓reduceIte, reduceCtorEq, ne_eq, not_false_eq_true, and_self])
    l ⟨hl, hb⟩ rfl
  obtain ⟨-, o2⟩ := outer .und .und .und .und .und
  refine ⟨?_, o2⟩
  refine CALL_of K.t_ref25_close rfl ?_
  have o1 : ∀ a b c d e : D, exS CALL K.ref25_close_l1 ⟨[a, b, I t, intoD into, .bp 0 0, c, .ref 1 0 l.length, B true, d, e], [.box (mineCells m), .arr 1 false 0 ((l.map (T.int .i64)).map .t)]⟩ = _ := fun a b c d e => (outer a b c d e).1
  clear outer inner
  have np := h.np
  have o2 := o2.1
  generalize closeN (roundF m t into) (sumN l + 1) l = l2 at *
  cases into with
  | none =>
    simp only [intoD] at o1
    simp (disch := omega) only [go_sem, K.ref25_close, ↓reduceIte, o1, intoD]
  | some s =>
    simp only [intoD] at o1
    simp (disch := omega) only [go_sem, K.ref25_close, ↓reduceIte, o1, intoD]

end Go.Ev

/- Chapter 25 of the references: whereabouts. -/
namespace Go.Ev
open Go
variable [Lib] [Has1] [Has2]

structure Wh where
  time : Int
  frm : List Int
instance : Dat Wh := ⟨⟨0, []⟩⟩
abbrev Wh.e (w : Wh) : T := .agg [tI w.time, tL w.frm]

def closeF (m : Mine) (t : Int) (into : Option (List Int)) (l : List Int) : List Int := closeN (roundF m t into) (sumN l + 1) l

def inT (t : Int) : Prop := 0 ≤ t ∧ t ≤ 2147483648
instance (t : Int) : Decidable (inT t) := by unfold inT; infer_instance
def plT (x : Int) : Prop := x = 1099511627776 ∨ inT x
instance (t : Int) : Decidable (plT t) := by unfold plT; infer_instance
def plainB (w : Wh) (n : Int) : Bool := decide ((w.frm.length : Int) = n ∧ inT w.time) && (List.range w.frm.length).all fun j => decide (plT (nth w.frm j))
theorem plT_bnd {x : Int} (h : plT x) : 0 ≤ x ∧ x ≤ 1099511627776 := by unfold plT inT at h; omega

theorem inTime_ok (t : Int) : CALL 0 N.ref25_inTime [I t] [] = some (B (decide (inT t)), []) := by
  refine CALL_of K.t_ref25_inTime rfl ?_
  unfold inT
  by_cases h1 : 0 ≤ t <;> by_cases h2 : t ≤ 2147483648 <;> simp (disch := omega) only [go_sem, K.ref25_inTime, ↓reduceIte, h1, h2]

theorem Close_ok {m : Mine} (h : m.ok) (t : Int) (ht : inT t) (l : List Int) (hl : l.length = m.places.length) (hb : bnd l) :
    CALL 0 N.ref25_Close [.t m.e, .t (tL l), I t] [] = some (.t (tL (closeF m t none l)), []) := by
  refine CALL_of K.t_ref25_Close rfl ?_
  unfold inT at ht
  have := (close_ok h t (by omega) (by omega) none (by simp) l hl hb).1
  simp only [intoD] at this
  unfold closeF
  simp (disch := omega) only [go_sem, K.ref25_Close, ↓reduceIte, this]

theorem plain_ok (w : Wh) (n : Int) (hl : w.frm.length ≤ 4294967296) : CALL 0 N.ref25_Plain [.t w.e, I n] [] = some (B (plainB w n), []) := by
  refine CALL_of K.t_ref25_Plain rfl ?_
  obtain ⟨time, frm⟩ := w
  simp only at hl
  have loop : ∀ a b c : D, exS CALL K.ref25_Plain_l1 ⟨[a, b, .bp 0 0, c, I 0], [.box [I time, .t (tL frm)]]⟩ =
      some (match (List.range frm.length).find? (fun j => !decide (plT (nth frm j))) with
        | some j => (.ret, ⟨[.und, .und, .bp 0 0, B false, I j], [.box [I time, .t (tL frm)]]⟩)
        | none => (.exit 0, ⟨[.und, .und, .bp 0 0, .und, I frm.length], [.box [I time, .t (tL frm)]]⟩)) := by
    intro a b c
    refine loop_first (fun j => ⟨[.und, .und, .bp 0 0, .und, I j], [.box [I time, .t (tL frm)]]⟩) frm.length (fun j => !decide (plT (nth frm j))) _ _ rfl ?_ ?_ ?_ (by simp)
    · intro j hj hp
      have hp : plT (nth frm j) := by simpa using hp
      unfold plT inT at hp
      by_cases h1 : nth frm j = 1099511627776
      · simp (disch := omega) only [go_sem, K.ref25_Plain_l1b, ↓reduceIte, h1]
      · simp (disch := omega) only [go_sem, K.ref25_Plain_l1b, ↓reduceIte]
    · intro j hj hp
      have hp : ¬ plT (nth frm j) := by simpa using hp
      unfold plT inT at hp
      by_cases h2 : 0 ≤ nth frm j
      · simp (disch := omega) only [go_sem, K.ref25_Plain_l1b, ↓reduceIte]
        simp
      · simp (disch := omega) only [go_sem, K.ref25_Plain_l1b, ↓reduceIte]
        simp
    · simp (disch := omega) only [go_sem, K.ref25_Plain_l1b, ↓reduceIte]
  unfold plainB
  rw [find_all]
  by_cases h1 : (frm.length : Int) = n
  · by_cases h2 : 0 ≤ time
    · by_cases h3 : time ≤ 2147483648
      · have h4 : inT time := ⟨h2, h3⟩
        simp (disch := omega) only [go_sem, K.ref25_Plain, ↓reduceIte, loop, h1]
        cases hf : (List.range frm.length).find? (fun j => !decide (plT (nth frm j))) with
        | some j => simp (disch := omega) only [go_sem, ↓reduceIte, Option.isNone]
        | none => simp (disch := omega) only [go_sem, ↓reduceIte, Option.isNone, h4, and_self, decide_true]
      · have h4 : ¬ inT time := by unfold inT; omega
        simp (disch := omega) only [go_sem, K.ref25_Plain, ↓reduceIte, loop, h1, h4, and_false, decide_false]
    · have h4 : ¬ inT time := by unfold inT; omega
      simp (disch := omega) only [go_sem, K.ref25_Plain, ↓reduceIte, loop, h1, h4, and_false, decide_false]
  · simp (disch := omega) only [go_sem, K.ref25_Plain, ↓reduceIte, loop, h1, false_and, decide_false]

/-- A valid whereabouts. -/
def validB (m : Mine) (w : Wh) : Bool := plainB w m.places.length && decide (closeF m w.time none w.frm = w.frm)

theorem plainB_spec {w : Wh} {n : Int} (h : plainB w n = true) : (w.frm.length : Int) = n ∧ inT w.time ∧ ∀ x ∈ w.frm, plT x := by
  simp only [plainB, Bool.and_eq_true, decide_eq_true_eq, List.all_eq_true, List.mem_range] at h
  refine ⟨h.1.1, h.1.2, fun x hx => ?_⟩
  obtain ⟨j, hj⟩ := List.mem_iff_getElem?.1 hx
  have := h.2 j (List.getElem?_eq_some_iff.1 hj).1
  rwa [nth_eq hj] at this

theorem closeF_len {m : Mine} (h : m.ok) (t : Int) (ht : inT t) (into : Option (List Int)) (hi : ∀ l, into = some l → l ≠ [] ∧ l.length ≤ 64) {l : List Int} (hl : l.length = m.places.length) (hb : bnd l) : (closeF m t into l).length = m.places.length := by
  unfold inT at ht
  exact (close_ok h t (by omega) (by omega) into hi l hl hb).2.1

theorem closeF_bnd {m : Mine} (h : m.ok) (t : Int) (ht : inT t) (into : Option (List Int)) (hi : ∀ l, into = some l → l ≠ [] ∧ l.length ≤ 64) {l : List Int} (hl : l.length = m.places.length) (hb : bnd l) : bnd (closeF m t into l) := by
  unfold inT at ht
  exact (close_ok h t (by omega) (by omega) into hi l hl hb).2.2

theorem valid_ok {m : Mine} (h : m.ok) (w : Wh) (hl : w.frm.length ≤ 4294967296) : CALL 0 N.ref25_Valid [.t m.e, .t w.e] [] = some (B (validB m w), []) := by
  refine CALL_of K.t_ref25_Valid rfl ?_
  have c := check_ok h
  have p := plain_ok w m.places.length hl
  have np := h.np
  unfold validB
  cases hp : plainB w m.places.length with
  | false =>
    rw [hp] at p
    obtain ⟨time, frm⟩ := w
    simp (disch := omega) only [go_sem, K.ref25_Valid, ↓reduceIte, c, p, Bool.false_and, Nat.reduceAdd, Nat.reduceSub]
  | true =>
    obtain ⟨h1, h2, h3⟩ := plainB_spec hp
    rw [hp] at p
    have hb : bnd w.frm := fun x hx => plT_bnd (h3 x hx)
    have cl := Close_ok h w.time h2 w.frm (by omega) hb
    have ln := closeF_len h w.time h2 none (by simp) (l := w.frm) (by omega) hb
    obtain ⟨time, frm⟩ := w
    simp only at *
    have sm := same_ok (closeF m time none frm) frm (by omega)
    simp (disch := omega) only [go_sem, K.ref25_Valid, ↓reduceIte, c, p, cl, sm, Bool.true_and, Nat.reduceAdd, Nat.reduceSub]

theorem copy_ok (w : Wh) (hl : w.frm.length ≤ 4294967296) : CALL 0 N.ref25_Copy [.t w.e] [] = some (.t w.e, []) := by
  refine CALL_of K.t_ref25_Copy rfl ?_
  obtain ⟨time, frm⟩ := w
  simp only at *
  simp (disch := omega) only [go_sem, K.ref25_Copy, ↓reduceIte, Nat.reduceAdd, Nat.reduceSub]

end Go.Ev

/- Chapter 25 of the references: starts, sights, absences. -/
namespace Go.Ev
open Go
variable [Lib] [Has1] [Has2]

def neverL (n : Nat) : List Int := List.replicate n 1099511627776
theorem neverL_succ (n : Nat) : neverL (n + 1) = neverL n ++ [1099511627776] := List.replicate_succ'
@[simp] theorem neverL_len (n : Nat) : (neverL n).length = n := List.length_replicate
theorem neverL_bnd (n : Nat) : bnd (neverL n) := fun x hx => by rw [List.eq_of_mem_replicate hx]; omega

theorem never_loop (n : Nat) (hn : n ≤ 1000000) (a : D) : exS CALL K.ref25_never_l1 ⟨[I n, a, .ref 0 0 0, I 0], [.arr 1 false 0 []]⟩ =
      some (.exit 0, ⟨[I n, .und, .ref 0 0 n, I n], [.arr 1 false 0 (((neverL n).map (T.int .i64)).map .t)]⟩) := by
  refine loop_up (fun j => ⟨[I n, .und, .ref 0 0 (neverL j).length, I j], [.arr 1 false 0 (((neverL j).map (T.int .i64)).map .t)]⟩) n rfl ?_ ?_ (by simp)
  · intro j hj
    have := neverL_len j
    simp (disch := omega) only [go_sem, K.ref25_never_l1b, neverL_succ, ↓reduceIte]
  · simp (disch := omega) only [go_sem, K.ref25_never_l1b, ↓reduceIte, neverL_len]

theorem never_ok1 (n : Nat) (hn : n ≤ 1000000) : CALL 1 N.ref25_never [I n] [] = some (.ref 0 0 n, [.arr 1 false 0 (((neverL n).map (T.int .i64)).map .t)]) := by
  refine CALL_of K.t_ref25_never rfl ?_
  have := never_loop n hn
  simp (disch := omega) only [go_sem, K.ref25_never, ↓reduceIte, this]

def startF (m : Mine) (p t : Int) : Wh × Int :=
  if p < 0 ∨ (m.places.length : Int) ≤ p then (⟨0, []⟩, 3) else if inT t then (⟨t, closeF m t none ((neverL m.places.length).set p.toNat t)⟩, 0) else (⟨0, []⟩, 8)

theorem start_ok {m : Mine} (h : m.ok) (p t : Int) : CALL 0 N.ref25_Start [.t m.e, I p, I t] [] = some (.tup [.t (startF m p t).1.e, I (startF m p t).2], []) := by
  refine CALL_of K.t_ref25_Start rfl ?_
  have c := check_ok h
  have np := h.np
  have it := inTime_ok t
  have nl := neverL_len m.places.length
  have nv := never_ok1 m.places.length (by omega)
  unfold startF
  by_cases h1 : p < 0
  · simp (disch := omega) only [go_sem, K.ref25_Start, ↓reduceIte, c, h1, true_or]
    rfl
  · by_cases h2 : (m.places.length : Int) ≤ p
    · simp (disch := omega) only [go_sem, K.ref25_Start, ↓reduceIte, c, h1, h2, or_true]
      rfl
    · by_cases h3 : inT t
      · have b : bnd ((neverL m.places.length).set p.toNat t) := bnd_set (neverL_bnd _) h3.1 (by have := h3.2; omega)
        have cl := Close_ok h t h3 ((neverL m.places.length).set p.toNat t) (by simp) b
        simp only [h3, decide_true] at it
        simp (disch := omega) only [go_sem, K.ref25_Start, ↓reduceIte, c, h1, h2, or_self, h3, it, nv, neverL_len, cl]
      · simp only [h3, decide_false] at it
        simp (disch := omega) only [go_sem, K.ref25_Start, ↓reduceIte, c, h1, h2, or_self, h3, it]
        rfl

def possF (w : Wh) (t : Int) : List Int := whereF w.frm.length fun j => decide (nth w.frm j ≤ t)

theorem possible25_ok (w : Wh) (t : Int) (hl : w.frm.length ≤ 1000000) : CALL 0 N.ref25_Possible [.t w.e, I t] [] = some (.t (tL (possF w t)), []) := by
  refine CALL_of K.t_ref25_Possible rfl ?_
  obtain ⟨time, frm⟩ := w
  simp only [possF] at *
  have hlen := fun k => whereF_len k (fun j => decide (nth frm j ≤ t))
  have loop : ∀ a b : D, exS CALL K.ref25_Possible_l1 ⟨[a, I t, .bp 0 0, b, .ref 1 0 0, I 0], [.box [I time, .t (tL frm)], .arr 1 false 0 []]⟩ =
      some (.exit 0, ⟨[.und, I t, .bp 0 0, .und, .ref 1 0 (whereF frm.length (fun j => decide (nth frm j ≤ t))).length, I frm.length], [.box [I time, .t (tL frm)], .arr 1 false 0 (((whereF frm.length (fun j => decide (nth frm j ≤ t))).map (T.int .i64)).map .t)]⟩) := by
    intro a b
    refine loop_up (fun j => ⟨[.und, I t, .bp 0 0, .und, .ref 1 0 (whereF j (fun j => decide (nth frm j ≤ t))).length, I j], [.box [I time, .t (tL frm)], .arr 1 false 0 (((whereF j (fun j => decide (nth frm j ≤ t))).map (T.int .i64)).map .t)]⟩) frm.length rfl ?_ ?_ (by simp)
    · intro j hj
      have := hlen j
      by_cases hp : nth frm j ≤ t
      · simp (disch := omega) only [go_sem, K.ref25_Possible_l1b, whereF_succ, hp, decide_true, ↓reduceIte]
      · simp (disch := omega) only [go_sem, K.ref25_Possible_l1b, whereF_succ, hp, decide_false, ↓reduceIte]
    · simp (disch := omega) only [go_sem, K.ref25_Possible_l1b, ↓reduceIte]
  have := hlen frm.length
  simp (disch := omega) only [go_sem, K.ref25_Possible, ↓reduceIte, loop]

def raiseF (w : Wh) (t : Int) : Wh × Int := if t < w.time ∨ 2147483648 < t then (w, 8) else (⟨t, w.frm⟩, 0)

theorem raise_ok (w : Wh) (t : Int) (hl : w.frm.length ≤ 1000000) : CALL 0 N.ref25_Raise [.t w.e, I t] [] = some (.tup [.t (raiseF w t).1.e, I (raiseF w t).2], []) := by
  refine CALL_of K.t_ref25_Raise rfl ?_
  have c := copy_ok w (by omega)
  obtain ⟨time, frm⟩ := w
  simp only [raiseF] at *
  by_cases h1 : t < time
  · simp (disch := omega) only [go_sem, K.ref25_Raise, ↓reduceIte, c, h1, true_or]
  · by_cases h2 : 2147483648 < t
    · simp (disch := omega) only [go_sem, K.ref25_Raise, ↓reduceIte, c, h1, h2, or_true]
    · simp (disch := omega) only [go_sem, K.ref25_Raise, ↓reduceIte, c, h1, h2, or_self]

def askedF (m : Mine) (w : Wh) (places : List Int) (a b : Int) : Int :=
  if validB m w = true ∧ places ≠ [] ∧ setB places m.places.length = true then (if inT a ∧ inT b ∧ a ≤ b then 0 else 8) else 6

theorem asked_ok {m : Mine} (h : m.ok) (w : Wh) (hl : w.frm.length ≤ 1000000) (places : List Int) (hp : places.length ≤ 1000000) (a b : Int) :
    CALL 0 N.ref25_asked [.t m.e, .t w.e, .t (tL places), I a, I b] [] = some (I (askedF m w places a b), []) := by
  refine CALL_of K.t_ref25_asked rfl ?_
  have v := valid_ok h w (by omega)
  have s := set_ok places m.places.length (by omega)
  have np := h.np
  have ia := inTime_ok a
  have ib := inTime_ok b
  obtain ⟨time, frm⟩ := w
  simp only at *
  unfold askedF
  cases hv : validB m ⟨time, frm⟩ with
  | false =>
    rw [hv] at v
    simp (disch := omega) only [go_sem, K.ref25_asked, ↓reduceIte, v, Bool.false_eq_true, false_and]
  | true =>
    rw [hv] at v
    cases places with
    | nil => simp (disch := omega) only [go_sem, K.ref25_asked, ↓reduceIte, v, ne_eq, not_true_eq_false, false_and, and_false, List.length_nil]
    | cons x xs =>
      have hne : 0 < (x :: xs).length := by simp
      generalize hx : x :: xs = l at *
      have hne2 : l ≠ [] := by intro e; rw [e] at hne; simp at hne
      cases hs : setB l m.places.length with
      | false =>
        rw [hs] at s
        simp (disch := omega) only [go_sem, K.ref25_asked, ↓reduceIte, v, s, hne2, ne_eq, not_false_eq_true, true_and, Bool.false_eq_true, and_false]
      | true =>
        rw [hs] at s
        by_cases h1 : inT a
        · by_cases h2 : inT b
          · simp only [h1, h2, decide_true] at ia ib
            by_cases h3 : a ≤ b
            · simp (disch := omega) only [go_sem, K.ref25_asked, ↓reduceIte, v, s, hne2, ia, ib, h1, h2, h3, ne_eq, not_false_eq_true, and_self]
            · simp (disch := omega) only [go_sem, K.ref25_asked, ↓reduceIte, v, s, hne2, ia, ib, h1, h2, h3, ne_eq, not_false_eq_true, and_self, and_false]
          · simp only [h1, h2, decide_true, decide_false] at ia ib
            simp (disch := omega) only [go_sem, K.ref25_asked, ↓reduceIte, v, s, hne2, ia, ib, h1, h2, ne_eq, not_false_eq_true, and_self, and_false, false_and]
        · simp only [h1, decide_false] at ia
          simp (disch := omega) only [go_sem, K.ref25_asked, ↓reduceIte, v, s, hne2, ia, h1, ne_eq, not_false_eq_true, and_self, and_false, false_and]

end Go.Ev

/- Chapter 25 of the references: See, Absent, Join. -/
namespace Go.Ev
open Go
variable [Lib] [Has1] [Has2]

theorem setB_nth {l : List Int} {n : Int} (h : setB l n = true) {j : Nat} (hj : j < l.length) : 0 ≤ nth l j ∧ nth l j < n ∧ (0 < j → nth l (j - 1) < nth l j) := by
  simp only [setB, List.all_eq_true, List.mem_range, decide_eq_true_eq] at h
  exact h j hj
theorem setB_up {l : List Int} {n : Int} (h : setB l n = true) : ∀ {j : Nat}, j < l.length → (j : Int) ≤ nth l j
  | 0, hj => by have := setB_nth h hj; omega
  | j + 1, hj => by
    have h1 := setB_up h (j := j) (by omega)
    have := (setB_nth h hj).2.2 (by omega)
    simp only [Nat.add_sub_cancel] at this
    omega
theorem setB_len {l : List Int} {n : Nat} (h : setB l n = true) : l.length ≤ n := by
  cases hl : l.length with
  | zero => omega
  | succ k =>
    have h1 := setB_up h (j := k) (by omega)
    have h2 := (setB_nth h (j := k) (by omega)).2.1
    omega

def seeStep (w : Wh) (t p : Int) (s : List Int × Bool) : List Int × Bool := if nth w.frm p.toNat ≤ t then (s.1.set p.toNat (nth w.frm p.toNat), true) else s
def seeN (w : Wh) (l : List Int) (t : Int) (n : Nat) : Nat → List Int × Bool
  | 0 => (neverL n, false)
  | j + 1 => seeStep w t (nth l j) (seeN w l t n j)
theorem seeN_len (w : Wh) (l : List Int) (t : Int) (n : Nat) : ∀ j, (seeN w l t n j).1.length = n
  | 0 => neverL_len n
  | j + 1 => by
    have := seeN_len w l t n j
    simp only [seeN, seeStep]
    split <;> simp [this]
theorem seeN_bnd {w : Wh} (hw : bnd w.frm) (l : List Int) (t : Int) {n : Nat} (hl : ∀ p ∈ l, 0 ≤ p ∧ p < w.frm.length) : ∀ j, j ≤ l.length → bnd (seeN w l t n j).1
  | 0, _ => neverL_bnd n
  | j + 1, hj => by
    have := seeN_bnd hw l t hl (n := n) j (by omega)
    simp only [seeN, seeStep]
    split
    · have hp := hl _ (nth_mem (l := l) (j := j) (by omega))
      have := hw _ (nth_mem (l := w.frm) (j := (nth l j).toNat) (by omega))
      exact bnd_set (by assumption) this.1 this.2
    · exact this

def seeF (m : Mine) (w : Wh) (l : List Int) (a b : Int) : Wh × Int :=
  if askedF m w l a b ≠ 0 then (w, askedF m w l a b) else if a < w.time then (w, 42) else
  if (seeN w l b m.places.length l.length).2 = true then (⟨b, closeF m a none (seeN w l b m.places.length l.length).1⟩, 0) else (w, 43)

theorem askedF_0 {m : Mine} {w : Wh} {l : List Int} {a b : Int} (h : askedF m w l a b = 0) : validB m w = true ∧ l ≠ [] ∧ setB l m.places.length = true ∧ inT a ∧ inT b ∧ a ≤ b := by
  unfold askedF at h
  split at h
  · rename_i h1
    split at h
    · rename_i h2; exact ⟨h1.1, h1.2.1, h1.2.2, h2⟩
    · omega
  · omega

theorem validB_spec {m : Mine} {w : Wh} (h : validB m w = true) : w.frm.length = m.places.length ∧ inT w.time ∧ (∀ x ∈ w.frm, plT x) ∧ closeF m w.time none w.frm = w.frm := by
  simp only [validB, Bool.and_eq_true, decide_eq_true_eq] at h
  obtain ⟨h1, h2, h3⟩ := plainB_spec h.1
  exact ⟨by omega, h2, h3, h.2⟩

theorem see_ok {m : Mine} (h : m.ok) (w : Wh) (hl : w.frm.length ≤ 1000000) (l : List Int) (hp : l.length ≤ 1000000) (a b : Int) :
    CALL 0 N.ref25_See [.t m.e, .t w.e, .t (tL l), I a, I b] [] = some (.tup [.t (seeF m w l a b).1.e, I (seeF m w l a b).2], []) := by
  refine CALL_of K.t_ref25_See rfl ?_
  have as := asked_ok h w hl l hp a b
  have cp := copy_ok w (by omega)
  have np := h.np
  have nv := never_ok1 m.places.length (by omega)
  have nl := neverL_len m.places.length
  unfold seeF
  by_cases h0 : askedF m w l a b = 0
  · obtain ⟨v1, v2, v3, v4, v5, v6⟩ := askedF_0 h0
    obtain ⟨w1, w2, w3, w4⟩ := validB_spec v1
    have hlen := setB_len v3
    rw [h0] at as ⊢
    obtain ⟨time, frm⟩ := w
    simp only at *
    by_cases h1 : a < time
    · simp (disch := omega) only [go_sem, K.ref25_See, ↓reduceIte, as, cp, h1, ne_eq, not_true_eq_false]
    · have hbw : bnd (Wh.frm ⟨time, frm⟩) := fun x hx => plT_bnd (w3 x hx)
      have hb := seeN_bnd hbw l b (n := m.places.length) (fun p hp => by
        obtain ⟨j, hj⟩ := List.mem_iff_getElem?.1 hp
        have := setB_nth v3 (List.getElem?_eq_some_iff.1 hj).1
        rw [nth_eq hj] at this
        simp only
        omega) l.length (Nat.le_refl _)
      have ln := seeN_len ⟨time, frm⟩ l b m.places.length
      have loop : ∀ x y z u v : D, exS CALL K.ref25_See_l1 ⟨[x, y, .t (tL l), I a, I b, .bp 0 0, .bp 1 0, .bp 2 0, z, u, .ref 3 0 m.places.length, B false, I 0, v], [.box (mineCells m), .box [I time, .t (tL frm)], .box [I 0, .nil], .arr 1 false 0 (((neverL m.places.length).map (T.int .i64)).map .t)]⟩ =
          some (.exit 0, ⟨[.und, .und, .t (tL l), I a, I b, .bp 0 0, .bp 1 0, .bp 2 0, .und, .und, .ref 3 0 m.places.length, B (seeN ⟨time, frm⟩ l b m.places.length l.length).2, I l.length, .und], [.box (mineCells m), .box [I time, .t (tL frm)], .box [I 0, .nil], .arr 1 false 0 ((((seeN ⟨time, frm⟩ l b m.places.length l.length).1).map (T.int .i64)).map .t)]⟩) := by
        intro x y z u v
        refine loop_up (fun j => ⟨[.und, .und, .t (tL l), I a, I b, .bp 0 0, .bp 1 0, .bp 2 0, .und, .und, .ref 3 0 m.places.length, B (seeN ⟨time, frm⟩ l b m.places.length j).2, I j, .und], [.box (mineCells m), .box [I time, .t (tL frm)], .box [I 0, .nil], .arr 1 false 0 ((((seeN ⟨time, frm⟩ l b m.places.length j).1).map (T.int .i64)).map .t)]⟩) l.length rfl ?_ ?_ (by simp)
        · intro j hj
          obtain ⟨p1, p2, -⟩ := setB_nth v3 hj
          have lj := ln j
          by_cases hc : nth frm (nth l j).toNat ≤ b
          · simp (disch := omega) only [go_sem, K.ref25_See_l1b, ↓reduceIte, seeN, seeStep, hc]
          · simp (disch := omega) only [go_sem, K.ref25_See_l1b, ↓reduceIte, seeN, seeStep, hc]
        · simp (disch := omega) only [go_sem, K.ref25_See_l1b, ↓reduceIte]
      have cl := Close_ok h a v4 _ (ln l.length) hb
      have ln := ln l.length
      simp (disch := omega) only [go_sem, K.ref25_See, ↓reduceIte, as, h1, nv, loop, ne_eq, not_true_eq_false]
      cases hs : (seeN ⟨time, frm⟩ l b m.places.length l.length).2 with
      | true => simp (disch := omega) only [go_sem, ↓reduceIte, ln, cl]
      | false => simp (disch := omega) only [go_sem, ↓reduceIte, cp, Bool.false_eq_true]
  · obtain ⟨time, frm⟩ := w
    simp only at *
    simp (disch := omega) only [go_sem, K.ref25_See, ↓reduceIte, as, cp, h0, ne_eq, not_false_eq_true]

end Go.Ev

/- Chapter 25 of the references: Absent, Join. -/
namespace Go.Ev
open Go
variable [Lib] [Has1] [Has2]

def absN (l0 l : List Int) : Nat → List Int
  | 0 => l0
  | j + 1 => (absN l0 l j).set (nth l j).toNat 1099511627776
theorem absN_len (l0 l : List Int) : ∀ j, (absN l0 l j).length = l0.length
  | 0 => rfl
  | j + 1 => by simp only [absN, List.length_set, absN_len l0 l j]
theorem absN_bnd {l0 : List Int} (h : bnd l0) (l : List Int) : ∀ j, bnd (absN l0 l j)
  | 0 => h
  | j + 1 => bnd_set (absN_bnd h l j) (by omega) (by omega)

def absF (m : Mine) (w : Wh) (l : List Int) (a b bl : Int) : Wh × Int :=
  if askedF m w l a b ≠ 0 then (w, askedF m w l a b) else if ¬ inT bl then (w, 8) else if b < w.time then (w, 42) else if b - max a w.time ≤ bl then (w, 0) else
  (⟨b, closeF m b none (closeF m (b - bl) (some l) (absN w.frm l l.length))⟩, 0)

theorem abs_ok {m : Mine} (h : m.ok) (w : Wh) (hl : w.frm.length ≤ 1000000) (l : List Int) (hp : l.length ≤ 1000000) (a b bl : Int) :
    CALL 0 N.ref25_Absent [.t m.e, .t w.e, .t (tL l), I a, I b, I bl] [] = some (.tup [.t (absF m w l a b bl).1.e, I (absF m w l a b bl).2], []) := by
  refine CALL_of K.t_ref25_Absent rfl ?_
  have as := asked_ok h w hl l hp a b
  have cp := copy_ok w (by omega)
  have ib := inTime_ok bl
  have np := h.np
  unfold absF
  by_cases h0 : askedF m w l a b = 0
  · obtain ⟨v1, v2, v3, v4, v5, v6⟩ := askedF_0 h0
    obtain ⟨w1, w2, w3, w4⟩ := validB_spec v1
    have hlen := setB_len v3
    rw [h0] at as ⊢
    obtain ⟨time, frm⟩ := w
    simp only at *
    by_cases h1 : inT bl
    · by_cases h2 : b < time
      · simp only [h1, decide_true] at ib
        simp (disch := omega) only [go_sem, K.ref25_Absent, ↓reduceIte, as, ib, cp, h1, h2, ne_eq, not_true_eq_false, not_false_eq_true]
      · simp only [h1, decide_true] at ib
        unfold inT at v4 v5 w2 h1
        by_cases h3 : b - max a time ≤ bl
        · simp (disch := omega) only [go_sem, K.ref25_Absent, ↓reduceIte, as, ib, cp, h1, h2, h3, ne_eq, not_true_eq_false, not_false_eq_true, inT, and_self]
        · have hb : bnd frm := fun x hx => plT_bnd (w3 x hx)
          have ln := absN_len frm l
          have lb := absN_bnd hb l
          have loop : ∀ x y z u v w : D, exS CALL K.ref25_Absent_l1 ⟨[x, y, .t (tL l), z, I b, I bl, .bp 0 0, u, .bp 2 0, v, w, .ref 3 0 frm.length, I 0], [.box (mineCells m), .box [I time, .t (tL frm)], .box [I 0, .nil], .arr 1 false 0 ((frm.map (T.int .i64)).map .t)]⟩ =
              some (.exit 0, ⟨[.und, .und, .t (tL l), .und, I b, I bl, .bp 0 0, .und, .bp 2 0, .und, .und, .ref 3 0 frm.length, I l.length], [.box (mineCells m), .box [I time, .t (tL frm)], .box [I 0, .nil], .arr 1 false 0 (((absN frm l l.length).map (T.int .i64)).map .t)]⟩) := by
            intro x y z u v w
            refine loop_up (fun j => ⟨[.und, .und, .t (tL l), .und, I b, I bl, .bp 0 0, .und, .bp 2 0, .und, .und, .ref 3 0 frm.length, I j], [.box (mineCells m), .box [I time, .t (tL frm)], .box [I 0, .nil], .arr 1 false 0 (((absN frm l j).map (T.int .i64)).map .t)]⟩) l.length rfl ?_ ?_ (by simp)
            · intro j hj
              obtain ⟨p1, p2, -⟩ := setB_nth v3 hj
              have lj := ln j
              simp (disch := omega) only [go_sem, K.ref25_Absent_l1b, ↓reduceIte, absN]
            · simp (disch := omega) only [go_sem, K.ref25_Absent_l1b, ↓reduceIte]
          have hi : ∀ s, some l = some s → s ≠ [] ∧ s.length ≤ 64 := by
            intro s hs; cases hs; exact ⟨v2, by omega⟩
          have ln := ln l.length
          have lb := lb l.length
          have t1 : inT (b - bl) := by unfold inT; omega
          have c1 := close_ok h (b - bl) (by omega) (by omega) (some l) hi _ (by omega) lb
          simp only [intoD] at c1
          have c2 := Close_ok h b v5 (closeF m (b - bl) (some l) (absN frm l l.length)) (closeF_len h _ t1 _ hi (by omega) lb) (closeF_bnd h _ t1 _ hi (by omega) lb)
          have c3 := c1.1
          unfold closeF at c2 ⊢
          clear c1
          simp (disch := omega) only [go_sem, K.ref25_Absent, ↓reduceIte, as, ib, loop, c2, c3, ln, h1, h2, h3, ne_eq, not_true_eq_false, not_false_eq_true, inT, and_self, Nat.reduceAdd, Nat.reduceSub]
    · simp only [h1, decide_false] at ib
      simp (disch := omega) only [go_sem, K.ref25_Absent, ↓reduceIte, as, ib, cp, h1, ne_eq, not_true_eq_false, not_false_eq_true]
  · obtain ⟨time, frm⟩ := w
    simp only at *
    simp (disch := omega) only [go_sem, K.ref25_Absent, ↓reduceIte, as, cp, h0, ne_eq, not_false_eq_true]

def minN (a b : List Int) : Nat → List Int
  | 0 => []
  | j + 1 => minN a b j ++ [min (nth a j) (nth b j)]
theorem minN_len (a b : List Int) : ∀ j, (minN a b j).length = j
  | 0 => rfl
  | j + 1 => by simp [minN, minN_len a b j]

def joinF (a b : Wh) : Wh × Int := if a.frm.length = b.frm.length then (⟨max a.time b.time, minN a.frm b.frm a.frm.length⟩, 0) else (⟨0, []⟩, 6)

theorem join_ok (a b : Wh) (ha : a.frm.length ≤ 1000000) : CALL 0 N.ref25_Join [.t a.e, .t b.e] [] = some (.tup [.t (joinF a b).1.e, I (joinF a b).2], []) := by
  refine CALL_of K.t_ref25_Join rfl ?_
  obtain ⟨t1, l1⟩ := a
  obtain ⟨t2, l2⟩ := b
  simp only [joinF] at *
  by_cases hl : l1.length = l2.length
  · have ln := minN_len l1 l2
    have loop : ∀ x y z : D, exS CALL K.ref25_Join_l1 ⟨[x, y, .bp 0 0, .bp 1 0, .bp 2 0, z, .bp 3 0, I 0], [.box [I t1, .t (tL l1)], .box [I t2, .t (tL l2)], .box [I 0, .nil], .box [I (max t1 t2), .ref 5 0 0], .arr 1 false 0 [], .arr 1 false 0 []]⟩ =
        some (.exit 0, ⟨[.und, .und, .bp 0 0, .bp 1 0, .bp 2 0, .und, .bp 3 0, I l1.length], [.box [I t1, .t (tL l1)], .box [I t2, .t (tL l2)], .box [I 0, .nil], .box [I (max t1 t2), .ref 5 0 l1.length], .arr 1 false 0 [], .arr 1 false 0 (((minN l1 l2 l1.length).map (T.int .i64)).map .t)]⟩) := by
      intro x y z
      refine loop_up (fun j => ⟨[.und, .und, .bp 0 0, .bp 1 0, .bp 2 0, .und, .bp 3 0, I j], [.box [I t1, .t (tL l1)], .box [I t2, .t (tL l2)], .box [I 0, .nil], .box [I (max t1 t2), .ref 5 0 j], .arr 1 false 0 [], .arr 1 false 0 (((minN l1 l2 j).map (T.int .i64)).map .t)]⟩) l1.length rfl ?_ ?_ (by simp)
      · intro j hj
        have lj := ln j
        simp (disch := omega) only [go_sem, K.ref25_Join_l1b, ↓reduceIte, minN, Nat.reduceAdd, Nat.reduceSub]
        done
      · simp (disch := omega) only [go_sem, K.ref25_Join_l1b, ↓reduceIte]
    have ln := ln l1.length
    simp (disch := omega) only [go_sem, K.ref25_Join, ↓reduceIte, loop]
  · simp (disch := omega) only [go_sem, K.ref25_Join, ↓reduceIte, hl]
    rfl

end Go.Ev

