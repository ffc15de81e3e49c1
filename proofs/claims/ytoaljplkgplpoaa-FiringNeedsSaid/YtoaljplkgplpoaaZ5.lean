/- Parts of the proof: see the text that holds the theorem. -/
import Derived.Test.YtoaljplkgplpoaaZ4
set_option linter.all false
set_option maxRecDepth 100000
/- MADE BY PROGRAM (lib.py): the compact code of functions. -/
namespace Go.Ev.K
open Go.Ev
/-- /law34.FiringRaw -/
def law34_FiringRaw : Fn := { nargs := 3, vars := [0, 1, 2, 4, 5, 6, 7, 8, 9, 10, 11, 12, 13], body := (.seq (.reg [{ o := .bx (.v 1) 3, d := some 3 }, { o := .bx (.v 2) 4, d := some 4 }, { o := .mv (.b false), d := some 5 }] []) (.seq (.ite [{ o := .mv (.v 0) }, { o := .ca N.made_Light 0 [] [.l 0] }, { o := .un .not (.l 0) }, { o := .mv (.l 0) }, { o := .fa (.v 3) 0, g := some (0, false) }, { o := .ld (.l 0) 1 false, g := some (1, false) }, { o := .ln (.l 0), g := some (2, false) }, { o := .bin .gtr (.l 0) (.i 80), g := some (3, false) }, { o := .pk (.l 4) (.b true) (.l 0) }] [] 0 (.seq (.reg [{ o := .ca N.law34_awake 0 [] [] }, { o := .mv (.l 0), d := some 5 }] []) .ret) .skip) (.seq (.reg [{ o := .mv (.v 0) }, { o := .ca N.made_Roll 0 [] [.l 0] }, { o := .mv (.l 0), d := some 6 }] []) (.seq (.reg [{ o := .mv (.v 6) }, { o := .bs [.i 1, .i 2, .i 3, .i 0, .i (-1)] 1 }, { o := .ca N.made_Dice_Of 0 [] [.l 1, .l 0] }, { o := .mv (.v 6) }, { o := .fa (.v 4) 3 }, { o := .ld (.l 0) 1 false }, { o := .fa (.v 4) 3 }, { o := .ld (.l 0) 1 false }, { o := .bin .quo (.l 0) (.i 2) }, { o := .bs [.l 3, .i 50, .l 0, .i (-1), .i 2147483648, .i 2147483649] 1 }, { o := .ca N.made_Dice_Of 0 [] [.l 6, .l 0] }, { o := .mv (.l 8), d := some 7 }, { o := .mv (.l 1), d := some 8 }] [(1, 1), (5, 0), (7, 0), (9, 0)]) (.seq (.reg [{ o := .mv (.v 6) }, { o := .ca N.made_Dice_Some 0 [] [.l 0, .i 4] }, { o := .mv (.v 6) }, { o := .ca N.made_Dice_Ints 0 [] [.l 0] }, { o := .mv (.v 6) }, { o := .ca N.made_Dice_One 0 [] [.l 0, .i 2] }, { o := .bd [.nil, .nil, .t (.bool false)] [(0, 1, .l 4), (1, 1, .l 2), (2, 1, .l 0)] }, { o := .al [.nil, .nil, .t (.bool false)] [], d := some 9 }, { o := .st (.l 0) (.l 1) 3 [] }] []) (.seq (.reg [{ o := .mv (.v 6) }, { o := .ca N.law34_scene 0 [] [.l 0] }, { o := .mv (.l 0) }, { o := .ex (.l 0) 0 }, { o := .ex (.l 1) 1 }, { o := .ex (.l 2) 2 }, { o := .al [.nil, .t (.int .i64 (0)), .t (.int .i64 (0))] [], d := some 10 }, { o := .al [.nil, .nil, .t (.bool false)] [], d := some 11 }, { o := .al [.nil] [], d := some 12 }, { o := .st (.l 2) (.l 5) 3 [] }, { o := .st (.l 2) (.l 5) 3 [] }, { o := .st (.l 2) (.l 5) 1 [] }] []) (.seq (.reg [{ o := .ca N.law34_awake 0 [] [] }, { o := .mv (.l 0) }, { o := .ld (.v 3) 3 true, g := some (0, true) }, { o := .ld (.v 4) 4 true, g := some (1, true) }, { o := .ld (.v 9) 3 true, g := some (2, true) }, { o := .ld (.v 12) 1 true, g := some (3, true) }, { o := .mv (.v 7), g := some (4, true) }, { o := .mv (.v 8), g := some (5, true) }, { o := .mv (.v 6), g := some (6, true) }, { o := .ca N.made_Dice_One 0 [] [.l 0, .i 2], g := some (7, true) }, { o := .ca N.law34_agree 0 [] [.l 7, .l 6, .l 5, .l 4, .l 3, .l 2, .l 0], g := some (8, true) }, { o := .pk (.l 9) (.l 0) (.b false) }, { o := .mv (.l 0) }, { o := .ld (.v 10) 3 true, g := some (0, true) }, { o := .ld (.v 4) 4 true, g := some (1, true) }, { o := .ld (.v 11) 3 true, g := some (2, true) }, { o := .ld (.v 12) 1 true, g := some (3, true) }, { o := .mv (.v 7), g := some (4, true) }, { o := .mv (.v 8), g := some (5, true) }, { o := .ca N.law34_agree 0 [] [.l 5, .l 4, .l 3, .l 2, .l 1, .l 0, .b false], g := some (6, true) }, { o := .pk (.l 7) (.l 0) (.b false) }, { o := .mv (.l 0) }, { o := .ld (.v 3) 3 true, g := some (0, true) }, { o := .bd [.t (.int .i64 (0)), .t (.int .i64 (0)), .t (.int .i64 (0)), .t (.int .i64 (0))] [], g := some (1, true) }, { o := .ld (.v 11) 3 true, g := some (2, true) }, { o := .ld (.v 12) 1 true, g := some (3, true) }, { o := .mv (.v 7), g := some (4, true) }, { o := .mv (.v 8), g := some (5, true) }, { o := .ca N.law34_agree 0 [] [.l 5, .l 4, .l 3, .l 2, .l 1, .l 0, .b true], g := some (6, true) }, { o := .pk (.l 7) (.l 0) (.b false) }, { o := .mv (.l 0) }, { o := .ld (.v 10) 3 true, g := some (0, true) }, { o := .ld (.v 4) 4 true, g := some (1, true) }, { o := .ld (.v 9) 3 true, g := some (2, true) }, { o := .bd [.nil] [], g := some (3, true) }, { o := .mv (.v 7), g := some (4, true) }, { o := .mv (.v 8), g := some (5, true) }, { o := .ca N.law34_agree 0 [] [.l 5, .l 4, .l 3, .l 2, .l 1, .l 0, .b true], g := some (6, true) }, { o := .pk (.l 7) (.l 0) (.b false) }, { o := .mv (.l 0), d := some 5 }] [(2, 10), (3, 10), (4, 10), (5, 10)]) .ret))))))), res := [(5, none)] }
def law34_FiringMade_l1b : C := (.seq (.ite [{ o := .mv (.v 7) }, { o := .bin .lss (.l 0) (.i 6) }] [] 0 .skip (.exit 0)) (.seq (.blk 1 (.seq (.reg [{ o := .fa (.v 6) 3 }, { o := .ld (.l 0) 1 false }, { o := .mv (.v 2) }, { o := .fa (.v 3) 1 }, { o := .ld (.l 0) 1 false }, { o := .fa (.v 3) 1 }, { o := .ld (.l 0) 1 false }, { o := .bin .add (.l 0) (.i 1) }, { o := .fa (.v 3) 2 }, { o := .ld (.l 0) 1 false }, { o := .fa (.v 3) 2 }, { o := .ld (.l 0) 1 false }, { o := .bin .sub (.l 0) (.i 1) }, { o := .bs [.i 0, .l 8, .l 5, .l 3, .l 0, .i (-1), .i 5] 1 }, { o := .ca N.made_Dice_Of 0 [] [.l 11, .l 0] }, { o := .bin .add (.l 13) (.l 0) }, { o := .mv (.l 0), d := some 8 }] [(1, 14), (1, 15)]) (.ite [{ o := .ld (.v 3) 3 true }, { o := .ld (.v 6) 4 true }, { o := .ld (.v 4) 3 true }, { o := .ld (.v 5) 1 true }, { o := .mv (.v 2) }, { o := .bs [.i 1, .i 2, .i 3, .i 0] 1 }, { o := .ca N.made_Dice_Of 0 [] [.l 1, .l 0] }, { o := .mv (.v 8) }, { o := .mv (.v 2) }, { o := .ca N.made_Dice_One 0 [] [.l 0, .i 2] }, { o := .ca N.law34_agree 0 [] [.l 9, .l 8, .l 7, .l 6, .l 3, .l 2, .l 0] }, { o := .un .not (.l 0) }] [(0, 6), (0, 7), (0, 10), (1, 6), (1, 7), (1, 10), (2, 6), (2, 7), (2, 10), (3, 6), (3, 7), (3, 10)] 0 (.seq (.reg [{ o := .mv (.b false), d := some 1 }] []) .ret) .skip))) (.reg [{ o := .mv (.v 7) }, { o := .bin .add (.l 0) (.i 1) }, { o := .mv (.l 0), d := some 7 }] [])))
def law34_FiringMade_l1 : C := .loop true [0, 1, 8] K.law34_FiringMade_l1b
/-- /law34.FiringMade -/
def law34_FiringMade : Fn := { nargs := 1, vars := [0, 2, 3, 4, 5, 6, 7, 8, 9], body := (.seq (.reg [{ o := .mv (.b false), d := some 1 }] []) (.seq (.ite [{ o := .mv (.v 0) }, { o := .ca N.made_Light 0 [] [.l 0] }, { o := .un .not (.l 0) }] [] 0 (.seq (.reg [{ o := .ca N.law34_awake 0 [] [] }, { o := .mv (.l 0), d := some 1 }] []) .ret) .skip) (.seq (.reg [{ o := .mv (.v 0) }, { o := .ca N.made_Roll 0 [] [.l 0] }, { o := .mv (.l 0), d := some 2 }] []) (.seq (.reg [{ o := .mv (.v 2) }, { o := .ca N.law34_scene 0 [] [.l 0] }, { o := .mv (.l 0) }, { o := .ex (.l 0) 0 }, { o := .ex (.l 1) 1 }, { o := .ex (.l 2) 2 }, { o := .al [.nil, .t (.int .i64 (0)), .t (.int .i64 (0))] [], d := some 3 }, { o := .al [.nil, .nil, .t (.bool false)] [], d := some 4 }, { o := .al [.nil] [], d := some 5 }, { o := .st (.l 2) (.l 5) 3 [] }, { o := .st (.l 2) (.l 5) 3 [] }, { o := .st (.l 2) (.l 5) 1 [] }] []) (.seq (.ite [{ o := .mv (.v 2) }, { o := .ca N.made_Dice_One 0 [] [.l 0, .i 2] }] [] 0 (.reg [{ o := .ca N.law34_ready 0 [] [] }, { o := .mv (.l 0) }, { o := .ex (.l 0) 0 }, { o := .ex (.l 1) 1 }, { o := .ex (.l 2) 2 }, { o := .st (.v 3) (.l 2) 3 [] }, { o := .st (.v 4) (.l 2) 3 [] }, { o := .st (.v 5) (.l 2) 1 [] }] []) .skip) (.seq (.reg [{ o := .mv (.v 2) }, { o := .ca N.made_Dice_Next 0 [] [.l 0, .i 5] }, { o := .bd [.t (.int .i64 (0)), .t (.int .i64 (0)), .t (.int .i64 (0)), .t (.int .i64 (0))] [(0, 1, .l 0)] }, { o := .al [.t (.int .i64 (0)), .t (.int .i64 (0)), .t (.int .i64 (0)), .t (.int .i64 (0))] [], d := some 6 }, { o := .st (.l 0) (.l 1) 4 [] }] []) (.seq (.ite [{ o := .fa (.v 6) 0 }, { o := .ld (.l 0) 1 false }, { o := .bin .gtr (.l 0) (.i 0) }] [] 0 (.reg [{ o := .mv (.v 2) }, { o := .ca N.made_Dice_Next 0 [] [.l 0, .i 2] }, { o := .bin .add (.i 1) (.l 0) }, { o := .mv (.v 2) }, { o := .bs [.i 500, .i 0, .i 77] 1 }, { o := .ca N.made_Dice_Of 0 [] [.l 1, .l 0] }, { o := .fa (.v 6) 1 }, { o := .st (.l 0) (.l 4) 1 [] }, { o := .fa (.v 6) 3 }, { o := .st (.l 0) (.l 3) 1 [] }] []) .skip) (.seq (.ite [{ o := .fa (.v 6) 0 }, { o := .ld (.l 0) 1 false }, { o := .bin .gtr (.l 0) (.i 1) }] [] 0 (.reg [{ o := .fa (.v 6) 1 }, { o := .ld (.l 0) 1 false }, { o := .bin .sub (.i 3) (.l 0) }, { o := .fa (.v 6) 2 }, { o := .st (.l 0) (.l 1) 1 [] }] []) .skip) (.seq (.seq (.reg [{ o := .mv (.i 0), d := some 7 }] []) (.blk 0 K.law34_FiringMade_l1)) (.seq (.reg [{ o := .ca N.law34_awake 0 [] [] }, { o := .mv (.l 0), d := some 1 }] []) .ret)))))))))), res := [(1, none)] }
def law34_FiringNeeds_l1b : C := (.seq (.ite [{ o := .mv (.v 13) }, { o := .bin .gtr (.l 0) (.i 0) }] [] 0 .skip (.exit 0)) (.seq (.blk 1 (.seq (.reg [{ o := .mv (.v 8) }, { o := .mv (.v 2) }, { o := .bs [.i 0, .i 10, .i 200, .i 301] 1 }, { o := .ca N.made_Dice_Of 0 [] [.l 1, .l 0] }, { o := .bin .add (.l 3) (.l 0) }, { o := .mv (.l 0), d := some 8 }] []) (.seq (.reg [{ o := .al [.nil, .nil, .t (.bool false)] [], d := some 14 }, { o := .al [.nil] [], d := some 15 }, { o := .ld (.v 4) 3 true }, { o := .ld (.v 5) 1 true }, { o := .st (.l 3) (.l 1) 3 [] }, { o := .st (.l 3) (.l 1) 1 [] }] [(3, 5)]) (.seq (.reg [{ o := .mv (.v 2) }, { o := .ca N.made_Dice_Next 0 [] [.l 0, .i 6] }, { o := .bin .gtr (.l 0) (.i 0) }, { o := .fa (.v 14) 2 }, { o := .st (.l 0) (.l 1) 1 [] }] []) (.seq (.ite [{ o := .mv (.v 2) }, { o := .ca N.made_Dice_One 0 [] [.l 0, .i 6] }] [] 0 (.reg [{ o := .ld (.v 6) 1 true }, { o := .st (.v 15) (.l 0) 1 [] }] []) .skip) (.seq (.reg [{ o := .fa (.v 14) 2 }, { o := .ld (.l 0) 1 false }, { o := .mv (.l 0) }, { o := .fa (.v 15) 0, g := some (0, true) }, { o := .ld (.l 0) 1 false, g := some (1, true) }, { o := .ia (.l 0) (.i 0) 2, g := some (2, true) }, { o := .fa (.l 0) 1, g := some (3, true) }, { o := .ld (.l 0) 1 false, g := some (4, true) }, { o := .ia (.l 0) (.i 0) 2, g := some (5, true) }, { o := .fa (.l 0) 1, g := some (6, true) }, { o := .ld (.l 0) 1 false, g := some (7, true) }, { o := .ia (.l 0) (.i 1) 1, g := some (8, true) }, { o := .ld (.l 0) 1 false, g := some (9, true) }, { o := .bin .eql (.l 0) (.i 1099511627776), g := some (10, true) }, { o := .pk (.l 11) (.l 0) (.b false) }, { o := .mv (.l 0), d := some 16 }] []) (.seq (.reg [{ o := .mv (.v 2) }, { o := .ca N.made_Dice_Next 0 [] [.l 0, .i 3] }, { o := .bin .add (.i 1) (.l 0) }, { o := .mv (.l 0), d := some 17 }] []) (.seq (.seq (.reg [{ o := .mv (.v 2) }, { o := .ca N.made_Dice_Next 0 [] [.l 0, .i 4], d := some 26 }] []) (.blk 2 (.ite [{ o := .bin .eql (.v 26) (.i 0) }, { o := .mv (.l 0) }] [] 0 (.seq (.reg [{ o := .ld (.v 3) 3 true }, { o := .ld (.v 7) 4 true }, { o := .ld (.v 14) 3 true }, { o := .ld (.v 15) 1 true }, { o := .mv (.v 17) }, { o := .mv (.v 8) }, { o := .ca N.firing_Arm 0 [] [.l 5, .l 4, .l 3, .l 2, .l 1, .l 0] }, { o := .mv (.l 0) }, { o := .ex (.l 0) 0 }, { o := .ex (.l 1) 1 }, { o := .al [.t (.int .i64 (0)), .t (.int .i64 (0)), .t (.int .i64 (0)), .t (.int .i64 (0))] [], d := some 18 }, { o := .st (.l 0) (.l 2) 4 [] }, { o := .mv (.l 2), d := some 19 }] []) (.seq (.ite [{ o := .mv (.v 19) }, { o := .bin .eql (.l 0) (.i 0) }] [] 0 (.seq (.ite [{ o := .mv (.v 16) }, { o := .un .not (.l 0) }, { o := .mv (.l 0) }, { o := .fa (.v 7) 0, g := some (0, false) }, { o := .ld (.l 0) 1 false, g := some (1, false) }, { o := .bin .neq (.l 0) (.i 0), g := some (2, false) }, { o := .pk (.l 3) (.b true) (.l 0) }] [] 0 (.seq (.reg [{ o := .mv (.b false), d := some 1 }] []) .ret) .skip) (.reg [{ o := .mv (.v 8) }, { o := .mv (.v 17) }, { o := .mv (.l 1), d := some 9 }, { o := .mv (.l 1), d := some 11 }] [])) .skip) (.reg [{ o := .ld (.v 18) 4 true }, { o := .st (.v 7) (.l 0) 4 [] }] []))) (.ite [{ o := .bin .eql (.v 26) (.i 1) }, { o := .mv (.l 0) }] [] 0 (.seq (.reg [{ o := .ld (.v 3) 3 true }, { o := .ld (.v 7) 4 true }, { o := .ld (.v 14) 3 true }, { o := .ld (.v 15) 1 true }, { o := .mv (.v 17) }, { o := .mv (.v 8) }, { o := .ca N.firing_Agree 0 [] [.l 5, .l 4, .l 3, .l 2, .l 1, .l 0] }, { o := .mv (.l 0) }, { o := .ex (.l 0) 0 }, { o := .ex (.l 1) 1 }, { o := .al [.t (.int .i64 (0)), .t (.int .i64 (0)), .t (.int .i64 (0)), .t (.int .i64 (0))] [], d := some 20 }, { o := .st (.l 0) (.l 2) 4 [] }, { o := .mv (.l 2), d := some 21 }] []) (.seq (.ite [{ o := .mv (.v 21) }, { o := .bin .eql (.l 0) (.i 0) }] [] 0 (.seq (.ite [{ o := .mv (.v 16) }, { o := .un .not (.l 0) }, { o := .mv (.l 0) }, { o := .mv (.v 9), g := some (0, false) }, { o := .bin .lss (.l 0) (.i 0), g := some (1, false) }, { o := .pk (.l 2) (.b true) (.l 0) }, { o := .mv (.l 0) }, { o := .mv (.v 8), g := some (0, false) }, { o := .mv (.v 9), g := some (1, false) }, { o := .bin .sub (.l 1) (.l 0), g := some (2, false) }, { o := .fa (.v 3) 1, g := some (3, false) }, { o := .ld (.l 0) 1 false, g := some (4, false) }, { o := .bin .gtr (.l 2) (.l 0), g := some (5, false) }, { o := .pk (.l 6) (.b true) (.l 0) }, { o := .mv (.l 0) }, { o := .mv (.v 17), g := some (0, false) }, { o := .mv (.v 11), g := some (1, false) }, { o := .bin .eql (.l 1) (.l 0), g := some (2, false) }, { o := .pk (.l 3) (.b true) (.l 0) }] [] 0 (.seq (.reg [{ o := .mv (.b false), d := some 1 }] []) .ret) .skip) (.reg [{ o := .mv (.v 8) }, { o := .mv (.v 17) }, { o := .mv (.l 1), d := some 10 }, { o := .mv (.l 1), d := some 12 }] [])) .skip) (.reg [{ o := .ld (.v 20) 4 true }, { o := .st (.v 7) (.l 0) 4 [] }] []))) (.ite [{ o := .bin .eql (.v 26) (.i 2) }, { o := .mv (.l 0) }] [] 0 (.seq (.reg [{ o := .al [.t (.int .i64 (0)), .t (.int .i64 (0)), .t (.int .i64 (0)), .t (.int .i64 (0))] [], d := some 22 }, { o := .ld (.v 3) 3 true }, { o := .ld (.v 7) 4 true }, { o := .ld (.v 14) 3 true }, { o := .ld (.v 15) 1 true }, { o := .mv (.v 8) }, { o := .mv (.v 2) }, { o := .ca N.made_Dice_One 0 [] [.l 0, .i 3] }, { o := .ca N.firing_Fire 0 [] [.l 6, .l 5, .l 4, .l 3, .l 2, .l 0] }, { o := .mv (.l 0) }, { o := .ex (.l 0) 0 }, { o := .ex (.l 1) 1 }, { o := .st (.l 11) (.l 1) 4 [] }, { o := .mv (.l 1), d := some 23 }] [(0, 8), (0, 9), (1, 8), (2, 8), (3, 8), (4, 8)]) (.seq (.ite [{ o := .mv (.v 23) }, { o := .bin .eql (.l 0) (.i 0) }, { o := .mv (.l 0) }, { o := .mv (.v 16), g := some (0, true) }, { o := .un .not (.l 0), g := some (1, true) }, { o := .mv (.l 0), g := some (2, true) }, { o := .mv (.v 10), g := some (0, false) }, { o := .bin .lss (.l 0) (.i 0), g := some (1, false) }, { o := .pk (.l 2) (.b true) (.l 0), g := some (5, true) }, { o := .mv (.l 0), g := some (6, true) }, { o := .mv (.v 8), g := some (0, false) }, { o := .mv (.v 10), g := some (1, false) }, { o := .bin .sub (.l 1) (.l 0), g := some (2, false) }, { o := .fa (.v 3) 1, g := some (3, false) }, { o := .ld (.l 0) 1 false, g := some (4, false) }, { o := .bin .gtr (.l 2) (.l 0), g := some (5, false) }, { o := .pk (.l 6) (.b true) (.l 0), g := some (13, true) }, { o := .mv (.l 0), g := some (14, true) }, { o := .mv (.v 11), g := some (0, false) }, { o := .mv (.v 12), g := some (1, false) }, { o := .bin .eql (.l 1) (.l 0), g := some (2, false) }, { o := .pk (.l 3) (.b true) (.l 0), g := some (18, true) }, { o := .pk (.l 19) (.l 0) (.b false) }] [] 0 (.seq (.reg [{ o := .mv (.b false), d := some 1 }] []) .ret) .skip) (.reg [{ o := .ld (.v 22) 4 true }, { o := .st (.v 7) (.l 0) 4 [] }] []))) (.seq (.reg [{ o := .ld (.v 3) 3 true }, { o := .ld (.v 7) 4 true }, { o := .mv (.v 8) }, { o := .ca N.firing_Abort 0 [] [.l 2, .l 1, .l 0] }, { o := .mv (.l 0) }, { o := .ex (.l 0) 0 }, { o := .ex (.l 1) 1 }, { o := .al [.t (.int .i64 (0)), .t (.int .i64 (0)), .t (.int .i64 (0)), .t (.int .i64 (0))] [], d := some 24 }, { o := .st (.l 0) (.l 2) 4 [] }, { o := .mv (.l 2), d := some 25 }] []) (.seq (.ite [{ o := .mv (.v 25) }, { o := .bin .eql (.l 0) (.i 0) }] [] 0 (.reg [{ o := .mv (.i (-1)), d := some 9 }, { o := .mv (.i (-1)), d := some 10 }, { o := .mv (.i 0), d := some 11 }, { o := .mv (.i 0), d := some 12 }] []) .skip) (.reg [{ o := .ld (.v 24) 4 true }, { o := .st (.v 7) (.l 0) 4 [] }] [])))))))) (.ite [{ o := .ld (.v 3) 3 true }, { o := .ld (.v 7) 4 true }, { o := .ca N.firing_Valid 0 [] [.l 1, .l 0] }, { o := .un .not (.l 0) }] [] 0 (.seq (.reg [{ o := .mv (.b false), d := some 1 }] []) .ret) .skip))))))))) (.reg [{ o := .mv (.v 13) }, { o := .bin .sub (.l 0) (.i 1) }, { o := .mv (.l 0), d := some 13 }] [])))
def law34_FiringNeeds_l1 : C := .loop true [0, 1, 14, 15, 16, 17, 18, 19, 20, 21, 22, 23, 24, 25, 26] K.law34_FiringNeeds_l1b
/-- /law34.FiringNeeds -/
def law34_FiringNeeds : Fn := { nargs := 1, vars := [0, 2, 3, 4, 5, 6, 7, 8, 9, 10, 11, 12, 13, 14, 15, 16, 17, 18, 19, 20, 21, 22, 23, 24, 25, 26, 88], body := (.seq (.reg [{ o := .mv (.b false), d := some 1 }] []) (.seq (.ite [{ o := .mv (.v 0) }, { o := .ca N.made_Light 0 [] [.l 0] }, { o := .un .not (.l 0) }] [] 0 (.seq (.reg [{ o := .ca N.law34_awake 0 [] [] }, { o := .mv (.l 0), d := some 1 }] []) .ret) .skip) (.seq (.reg [{ o := .mv (.v 0) }, { o := .ca N.made_Roll 0 [] [.l 0] }, { o := .mv (.l 0), d := some 2 }] []) (.seq (.reg [{ o := .ca N.law34_ready 0 [] [] }, { o := .mv (.l 0) }, { o := .ex (.l 0) 0 }, { o := .ex (.l 1) 1 }, { o := .ex (.l 2) 2 }, { o := .al [.nil, .t (.int .i64 (0)), .t (.int .i64 (0))] [], d := some 3 }, { o := .al [.nil, .nil, .t (.bool false)] [], d := some 4 }, { o := .al [.nil] [], d := some 5 }, { o := .st (.l 2) (.l 5) 3 [] }, { o := .st (.l 2) (.l 5) 3 [] }, { o := .st (.l 2) (.l 5) 1 [] }] []) (.seq (.reg [{ o := .ld (.v 5) 1 true }, { o := .ca N.ref26_Copy_v2 3 [] [.l 0] }, { o := .al [.nil] [], d := some 6 }, { o := .st (.l 0) (.l 1) 1 [] }] []) (.seq (.reg [{ o := .fa (.v 6) 0 }, { o := .ld (.l 0) 1 false }, { o := .ia (.l 0) (.i 0) 2 }, { o := .fa (.l 0) 1 }, { o := .ld (.l 0) 1 false }, { o := .ia (.l 0) (.i 0) 2 }, { o := .fa (.l 0) 1 }, { o := .ld (.l 0) 1 false }, { o := .ia (.l 0) (.i 1) 1 }, { o := .st (.l 0) (.i 5000) 1 [] }] []) (.seq (.reg [{ o := .al [.t (.int .i64 (0)), .t (.int .i64 (0)), .t (.int .i64 (0)), .t (.int .i64 (0))] [], d := some 7 }] []) (.seq (.reg [{ o := .mv (.i 0), d := some 8 }, { o := .mv (.i (-1)), d := some 9 }, { o := .mv (.i (-1)), d := some 10 }, { o := .mv (.i 0), d := some 11 }, { o := .mv (.i 0), d := some 12 }] []) (.seq (.seq (.reg [{ o := .mv (.v 2) }, { o := .ca N.made_Dice_Next 0 [] [.l 0, .i 30] }, { o := .mv (.l 0), d := some 13 }] []) (.blk 0 K.law34_FiringNeeds_l1)) (.seq (.reg [{ o := .ca N.law34_awake 0 [] [] }, { o := .mv (.l 0), d := some 1 }] []) .ret)))))))))), res := [(1, none)] }
/-- /law34.awake -/
def law34_awake : Fn := { nargs := 0, vars := [0, 1, 2, 3, 4, 5, 6, 7, 8, 9, 11], body := (.seq (.reg [{ o := .mv (.b false), d := some 0 }] []) (.seq (.reg [{ o := .ca N.law34_ready 0 [] [] }, { o := .mv (.l 0) }, { o := .ex (.l 0) 0 }, { o := .ex (.l 1) 1 }, { o := .ex (.l 2) 2 }, { o := .al [.nil, .t (.int .i64 (0)), .t (.int .i64 (0))] [], d := some 1 }, { o := .al [.nil, .nil, .t (.bool false)] [], d := some 2 }, { o := .al [.nil] [], d := some 3 }, { o := .st (.l 2) (.l 5) 3 [] }, { o := .st (.l 2) (.l 5) 3 [] }, { o := .st (.l 2) (.l 5) 1 [] }] []) (.seq (.reg [{ o := .ld (.v 1) 3 true }, { o := .bd [.t (.int .i64 (0)), .t (.int .i64 (0)), .t (.int .i64 (0)), .t (.int .i64 (0))] [] }, { o := .ld (.v 2) 3 true }, { o := .ld (.v 3) 1 true }, { o := .ca N.firing_Arm 0 [] [.l 3, .l 2, .l 1, .l 0, .i 1, .i 100] }, { o := .mv (.l 0) }, { o := .ex (.l 0) 0 }, { o := .ex (.l 1) 1 }, { o := .al [.t (.int .i64 (0)), .t (.int .i64 (0)), .t (.int .i64 (0)), .t (.int .i64 (0))] [], d := some 4 }, { o := .st (.l 0) (.l 2) 4 [] }, { o := .mv (.l 2), d := some 5 }] []) (.seq (.reg [{ o := .ld (.v 1) 3 true }, { o := .ld (.v 4) 4 true }, { o := .ld (.v 2) 3 true }, { o := .ld (.v 3) 1 true }, { o := .ca N.firing_Agree 0 [] [.l 3, .l 2, .l 1, .l 0, .i 2, .i 200] }, { o := .mv (.l 0) }, { o := .ex (.l 0) 0 }, { o := .ex (.l 1) 1 }, { o := .al [.t (.int .i64 (0)), .t (.int .i64 (0)), .t (.int .i64 (0)), .t (.int .i64 (0))] [], d := some 6 }, { o := .st (.l 0) (.l 2) 4 [] }, { o := .mv (.l 2), d := some 7 }] []) (.seq (.reg [{ o := .ld (.v 1) 3 true }, { o := .ld (.v 6) 4 true }, { o := .ld (.v 2) 3 true }, { o := .ld (.v 3) 1 true }, { o := .ca N.firing_Fire 0 [] [.l 3, .l 2, .l 1, .l 0, .i 300, .b false] }, { o := .mv (.l 0) }, { o := .ex (.l 0) 0 }, { o := .ex (.l 1) 1 }, { o := .al [.t (.int .i64 (0)), .t (.int .i64 (0)), .t (.int .i64 (0)), .t (.int .i64 (0))] [], d := some 8 }, { o := .st (.l 0) (.l 2) 4 [] }, { o := .mv (.l 2), d := some 9 }] []) (.seq (.reg [{ o := .ld (.v 1) 3 true }, { o := .ld (.v 4) 4 true }, { o := .ld (.v 2) 3 true }, { o := .ld (.v 3) 1 true }, { o := .ca N.firing_Agree 0 [] [.l 3, .l 2, .l 1, .l 0, .i 1, .i 200] }, { o := .mv (.l 0) }, { o := .ex (.l 0) 0 }, { o := .ex (.l 1) 1 }, { o := .al [.t (.int .i64 (0)), .t (.int .i64 (0)), .t (.int .i64 (0)), .t (.int .i64 (0))] [] }, { o := .st (.l 0) (.l 2) 4 [] }, { o := .mv (.l 2), d := some 10 }] []) (.seq (.reg [{ o := .mv (.v 5) }, { o := .bin .eql (.l 0) (.i 0) }, { o := .mv (.l 0) }, { o := .mv (.v 7), g := some (0, true) }, { o := .bin .eql (.l 0) (.i 0), g := some (1, true) }, { o := .pk (.l 2) (.l 0) (.b false) }, { o := .mv (.l 0) }, { o := .mv (.v 9), g := some (0, true) }, { o := .bin .eql (.l 0) (.i 0), g := some (1, true) }, { o := .pk (.l 2) (.l 0) (.b false) }, { o := .mv (.l 0) }, { o := .mv (.v 10), g := some (0, true) }, { o := .bin .eql (.l 0) (.i 19), g := some (1, true) }, { o := .pk (.l 2) (.l 0) (.b false) }, { o := .mv (.l 0) }, { o := .fa (.v 4) 0, g := some (0, true) }, { o := .ld (.l 0) 1 false, g := some (1, true) }, { o := .bin .eql (.l 0) (.i 1), g := some (2, true) }, { o := .pk (.l 3) (.l 0) (.b false) }, { o := .mv (.l 0) }, { o := .fa (.v 8) 0, g := some (0, true) }, { o := .ld (.l 0) 1 false, g := some (1, true) }, { o := .bin .eql (.l 0) (.i 3), g := some (2, true) }, { o := .pk (.l 3) (.l 0) (.b false) }, { o := .mv (.l 0) }, { o := .fa (.v 8) 3, g := some (0, true) }, { o := .ld (.l 0) 1 false, g := some (1, true) }, { o := .bin .eql (.l 0) (.i 300), g := some (2, true) }, { o := .pk (.l 3) (.l 0) (.b false) }, { o := .mv (.l 0) }, { o := .ld (.v 1) 3 true, g := some (0, true) }, { o := .ld (.v 4) 4 true, g := some (1, true) }, { o := .ca N.firing_Due 0 [] [.l 1, .l 0, .i 150], g := some (2, true) }, { o := .bin .eql (.l 0) (.i 250), g := some (3, true) }, { o := .pk (.l 4) (.l 0) (.b false) }, { o := .mv (.l 0), d := some 0 }] []) .ret))))))), res := [(0, none)] }
def made_Dice_Ints_l1b : C := (.seq (.ite [{ o := .mv (.v 3) }, { o := .bin .gtr (.l 0) (.i 0) }] [] 0 .skip (.exit 0)) (.seq (.blk 1 (.reg [{ o := .mv (.v 2) }, { o := .mv (.v 0) }, { o := .ca N.made_Dice_Next 0 [] [.l 0, .i 9] }, { o := .bin .sub (.l 0) (.i 1) }, { o := .bs [.l 0] 1 }, { o := .app (.l 4) (.l 0) true 1 }, { o := .mv (.l 0), d := some 2 }] [])) (.reg [{ o := .mv (.v 3) }, { o := .bin .sub (.l 0) (.i 1) }, { o := .mv (.l 0), d := some 3 }] [])))
def made_Dice_Ints_l1 : C := .loop true [1] K.made_Dice_Ints_l1b
/-- (*/made.Dice).Ints -/
def made_Dice_Ints : Fn := { nargs := 1, vars := [0, 2, 3, 4], body := (.seq (.reg [{ o := .mv (.c (.nil)), d := some 1 }] []) (.seq (.reg [{ o := .nw 1, d := some 2 }] []) (.seq (.seq (.reg [{ o := .mv (.v 0) }, { o := .ca N.made_Dice_Next 0 [] [.l 0, .i 5] }, { o := .mv (.l 0), d := some 3 }] []) (.blk 0 K.made_Dice_Ints_l1)) (.seq (.reg [{ o := .mv (.v 2) }, { o := .mv (.l 0), d := some 1 }] []) .ret)))), res := [(1, none)] }
/-- /law34.scene -/
def law34_scene : Fn := { nargs := 1, vars := [0, 2, 3, 4, 5, 6, 7, 8, 9, 10, 11], body := (.seq (.reg [{ o := .al [.nil, .t (.int .i64 (0)), .t (.int .i64 (0))] [], d := some 1 }, { o := .al [.nil, .nil, .t (.bool false)] [], d := some 2 }, { o := .al [.nil] [], d := some 3 }] []) (.seq (.reg [{ o := .mv (.v 0) }, { o := .ca N.made_Dice_Mine 0 [] [.l 0] }, { o := .al [.nil, .nil] [], d := some 4 }, { o := .st (.l 0) (.l 1) 2 [] }] []) (.seq (.reg [{ o := .al [.nil, .t (.int .i64 (0)), .t (.int .i64 (0))] [], d := some 5 }, { o := .fa (.v 4) 0 }, { o := .ld (.l 0) 1 false }, { o := .ln (.l 0) }, { o := .bin .sub (.l 0) (.i 1) }, { o := .bs [.l 0] 1 }, { o := .mv (.v 0) }, { o := .bs [.i 299, .i 9] 1 }, { o := .ca N.made_Dice_Of 0 [] [.l 1, .l 0] }, { o := .bin .add (.i 1) (.l 0) }, { o := .mv (.v 0) }, { o := .bs [.i 1799, .i 9] 1 }, { o := .ca N.made_Dice_Of 0 [] [.l 1, .l 0] }, { o := .bin .add (.i 1) (.l 0) }, { o := .bd [.nil, .t (.int .i64 (0)), .t (.int .i64 (0))] [(0, 1, .l 8), (1, 1, .l 4), (2, 1, .l 0)] }, { o := .st (.l 14) (.l 0) 3 [] }] [(0, 9), (0, 13), (2, 9), (2, 13), (5, 9), (5, 13), (7, 7), (11, 1)]) (.seq (.reg [{ o := .mv (.v 0) }, { o := .ld (.v 4) 2 true }, { o := .ca N.made_Dice_Belief 0 [] [.l 1, .l 0] }, { o := .al [.nil] [], d := some 6 }, { o := .st (.l 0) (.l 1) 1 [] }] []) (.seq (.reg [{ o := .ld (.v 4) 2 true }, { o := .fa (.v 5) 0 }, { o := .ld (.l 0) 1 false }, { o := .ca N.ref32_Border 0 [] [.l 2, .l 0] }, { o := .mv (.l 0), d := some 7 }] []) (.seq (.reg [{ o := .al [.nil] [], d := some 8 }, { o := .ld (.v 4) 2 true }, { o := .ld (.v 6) 1 true }, { o := .mv (.v 7) }, { o := .ld (.v 6) 1 true }, { o := .ca N.made_Last 0 [] [.l 0] }, { o := .mv (.v 0) }, { o := .ca N.made_Dice_Next 0 [] [.l 0, .i 50] }, { o := .bin .add (.l 2) (.l 0) }, { o := .ca N.ref32_Seal 0 [] [.l 7, .l 6, .l 5, .l 0] }, { o := .mv (.l 0) }, { o := .ex (.l 0) 0 }, { o := .ex (.l 1) 1 }, { o := .st (.l 12) (.l 1) 1 [] }, { o := .mv (.l 1), d := some 9 }] [(0, 6), (0, 8), (0, 10), (1, 6), (1, 8), (2, 6), (2, 8)]) (.seq (.ite [{ o := .mv (.v 9) }, { o := .bin .neq (.l 0) (.i 0) }] [] 0 (.reg [{ o := .ld (.v 6) 1 true }, { o := .st (.v 8) (.l 0) 1 [] }] []) .skip) (.seq (.reg [{ o := .bs [.i 1] 1 }, { o := .bs [.i 2] 1 }, { o := .mv (.v 0) }, { o := .ca N.made_Dice_Next 0 [] [.l 0, .i 6] }, { o := .bin .gtr (.l 0) (.i 0) }, { o := .bd [.nil, .nil, .t (.bool false)] [(0, 1, .l 4), (1, 1, .l 3), (2, 1, .l 0)] }, { o := .al [.nil, .nil, .t (.bool false)] [], d := some 10 }, { o := .st (.l 0) (.l 1) 3 [] }] []) (.seq (.reg [{ o := .ld (.v 5) 3 true }, { o := .ld (.v 10) 3 true }, { o := .ld (.v 8) 1 true }, { o := .st (.v 1) (.l 2) 3 [] }, { o := .st (.v 2) (.l 2) 3 [] }, { o := .st (.v 3) (.l 2) 1 [] }] [(1, 4), (2, 4), (2, 5)]) .ret))))))))), res := [(1, some (3, true)), (2, some (3, true)), (3, some (1, true))] }
/-- /law34.agree -/
def law34_agree : Fn := { nargs := 7, vars := [0, 1, 2, 3, 4, 5, 6, 7, 8, 9, 10, 14, 15, 16, 17, 18, 19, 20, 21, 22, 23, 24, 25, 26, 27, 28, 29, 30], body := (.seq (.reg [{ o := .bx (.v 0) 3, d := some 7 }, { o := .bx (.v 1) 4, d := some 8 }, { o := .bx (.v 2) 3, d := some 9 }, { o := .bx (.v 3) 1, d := some 10 }, { o := .mv (.b false), d := some 11 }] []) (.seq (.reg [{ o := .ld (.v 7) 3 true }, { o := .ld (.v 8) 4 true }, { o := .ld (.v 9) 3 true }, { o := .ld (.v 10) 1 true }, { o := .mv (.v 4) }, { o := .mv (.v 5) }, { o := .ca N.firing_Arm 0 [] [.l 5, .l 4, .l 3, .l 2, .l 1, .l 0] }, { o := .mv (.l 0) }, { o := .ex (.l 0) 0 }, { o := .ex (.l 1) 1 }, { o := .al [.t (.int .i64 (0)), .t (.int .i64 (0)), .t (.int .i64 (0)), .t (.int .i64 (0))] [], d := some 12 }, { o := .st (.l 0) (.l 2) 4 [] }, { o := .mv (.l 2), d := some 13 }] []) (.seq (.reg [{ o := .ld (.v 7) 3 true }, { o := .ld (.v 8) 4 true }, { o := .ld (.v 9) 3 true }, { o := .ld (.v 10) 1 true }, { o := .mv (.v 4) }, { o := .mv (.v 5) }, { o := .ca N.ref34_Arm 0 [] [.l 5, .l 4, .l 3, .l 2, .l 1, .l 0] }, { o := .mv (.l 0) }, { o := .ex (.l 0) 0 }, { o := .ex (.l 1) 1 }, { o := .al [.t (.int .i64 (0)), .t (.int .i64 (0)), .t (.int .i64 (0)), .t (.int .i64 (0))] [], d := some 14 }, { o := .st (.l 0) (.l 2) 4 [] }, { o := .mv (.l 2), d := some 15 }] []) (.seq (.reg [{ o := .ld (.v 7) 3 true }, { o := .ld (.v 8) 4 true }, { o := .ld (.v 9) 3 true }, { o := .ld (.v 10) 1 true }, { o := .mv (.v 4) }, { o := .mv (.v 5) }, { o := .ca N.firing_Agree 0 [] [.l 5, .l 4, .l 3, .l 2, .l 1, .l 0] }, { o := .mv (.l 0) }, { o := .ex (.l 0) 0 }, { o := .ex (.l 1) 1 }, { o := .al [.t (.int .i64 (0)), .t (.int .i64 (0)), .t (.int .i64 (0)), .t (.int .i64 (0))] [], d := some 16 }, { o := .st (.l 0) (.l 2) 4 [] }, { o := .mv (.l 2), d := some 17 }] []) (.seq (.reg [{ o := .ld (.v 7) 3 true }, { o := .ld (.v 8) 4 true }, { o := .ld (.v 9) 3 true }, { o := .ld (.v 10) 1 true }, { o := .mv (.v 4) }, { o := .mv (.v 5) }, { o := .ca N.ref34_Agree 0 [] [.l 5, .l 4, .l 3, .l 2, .l 1, .l 0] }, { o := .mv (.l 0) }, { o := .ex (.l 0) 0 }, { o := .ex (.l 1) 1 }, { o := .al [.t (.int .i64 (0)), .t (.int .i64 (0)), .t (.int .i64 (0)), .t (.int .i64 (0))] [], d := some 18 }, { o := .st (.l 0) (.l 2) 4 [] }, { o := .mv (.l 2), d := some 19 }] []) (.seq (.reg [{ o := .ld (.v 7) 3 true }, { o := .ld (.v 8) 4 true }, { o := .ld (.v 9) 3 true }, { o := .ld (.v 10) 1 true }, { o := .mv (.v 5) }, { o := .mv (.v 6) }, { o := .ca N.firing_Fire 0 [] [.l 5, .l 4, .l 3, .l 2, .l 1, .l 0] }, { o := .mv (.l 0) }, { o := .ex (.l 0) 0 }, { o := .ex (.l 1) 1 }, { o := .al [.t (.int .i64 (0)), .t (.int .i64 (0)), .t (.int .i64 (0)), .t (.int .i64 (0))] [], d := some 20 }, { o := .st (.l 0) (.l 2) 4 [] }, { o := .mv (.l 2), d := some 21 }] []) (.seq (.reg [{ o := .ld (.v 7) 3 true }, { o := .ld (.v 8) 4 true }, { o := .ld (.v 9) 3 true }, { o := .ld (.v 10) 1 true }, { o := .mv (.v 5) }, { o := .mv (.v 6) }, { o := .ca N.ref34_Fire 0 [] [.l 5, .l 4, .l 3, .l 2, .l 1, .l 0] }, { o := .mv (.l 0) }, { o := .ex (.l 0) 0 }, { o := .ex (.l 1) 1 }, { o := .al [.t (.int .i64 (0)), .t (.int .i64 (0)), .t (.int .i64 (0)), .t (.int .i64 (0))] [], d := some 22 }, { o := .st (.l 0) (.l 2) 4 [] }, { o := .mv (.l 2), d := some 23 }] []) (.seq (.reg [{ o := .ld (.v 7) 3 true }, { o := .ld (.v 8) 4 true }, { o := .mv (.v 5) }, { o := .ca N.firing_Abort 0 [] [.l 2, .l 1, .l 0] }, { o := .mv (.l 0) }, { o := .ex (.l 0) 0 }, { o := .ex (.l 1) 1 }, { o := .al [.t (.int .i64 (0)), .t (.int .i64 (0)), .t (.int .i64 (0)), .t (.int .i64 (0))] [], d := some 24 }, { o := .st (.l 0) (.l 2) 4 [] }, { o := .mv (.l 2), d := some 25 }] []) (.seq (.reg [{ o := .ld (.v 7) 3 true }, { o := .ld (.v 8) 4 true }, { o := .mv (.v 5) }, { o := .ca N.ref34_Abort 0 [] [.l 2, .l 1, .l 0] }, { o := .mv (.l 0) }, { o := .ex (.l 0) 0 }, { o := .ex (.l 1) 1 }, { o := .al [.t (.int .i64 (0)), .t (.int .i64 (0)), .t (.int .i64 (0)), .t (.int .i64 (0))] [], d := some 26 }, { o := .st (.l 0) (.l 2) 4 [] }, { o := .mv (.l 2), d := some 27 }] []) (.seq (.reg [{ o := .ld (.v 12) 4 true }, { o := .ld (.v 14) 4 true }, { o := .eqk (.ints 4) false (.l 1) (.l 0) }, { o := .mv (.l 0) }, { o := .mv (.v 13), g := some (0, true) }, { o := .mv (.v 15), g := some (1, true) }, { o := .bin .eql (.l 1) (.l 0), g := some (2, true) }, { o := .pk (.l 3) (.l 0) (.b false) }, { o := .mv (.l 0) }, { o := .ld (.v 16) 4 true, g := some (0, true) }, { o := .ld (.v 18) 4 true, g := some (1, true) }, { o := .eqk (.ints 4) false (.l 1) (.l 0), g := some (2, true) }, { o := .pk (.l 3) (.l 0) (.b false) }, { o := .mv (.l 0) }, { o := .mv (.v 17), g := some (0, true) }, { o := .mv (.v 19), g := some (1, true) }, { o := .bin .eql (.l 1) (.l 0), g := some (2, true) }, { o := .pk (.l 3) (.l 0) (.b false) }, { o := .mv (.l 0) }, { o := .ld (.v 20) 4 true, g := some (0, true) }, { o := .ld (.v 22) 4 true, g := some (1, true) }, { o := .eqk (.ints 4) false (.l 1) (.l 0), g := some (2, true) }, { o := .pk (.l 3) (.l 0) (.b false) }, { o := .mv (.l 0) }, { o := .mv (.v 21), g := some (0, true) }, { o := .mv (.v 23), g := some (1, true) }, { o := .bin .eql (.l 1) (.l 0), g := some (2, true) }, { o := .pk (.l 3) (.l 0) (.b false) }, { o := .mv (.l 0) }, { o := .ld (.v 24) 4 true, g := some (0, true) }, { o := .ld (.v 26) 4 true, g := some (1, true) }, { o := .eqk (.ints 4) false (.l 1) (.l 0), g := some (2, true) }, { o := .pk (.l 3) (.l 0) (.b false) }, { o := .mv (.l 0) }, { o := .mv (.v 25), g := some (0, true) }, { o := .mv (.v 27), g := some (1, true) }, { o := .bin .eql (.l 1) (.l 0), g := some (2, true) }, { o := .pk (.l 3) (.l 0) (.b false) }, { o := .mv (.l 0) }, { o := .ld (.v 7) 3 true, g := some (0, true) }, { o := .ld (.v 8) 4 true, g := some (1, true) }, { o := .ca N.firing_Valid 0 [] [.l 1, .l 0], g := some (2, true) }, { o := .ld (.v 7) 3 true, g := some (3, true) }, { o := .ld (.v 8) 4 true, g := some (4, true) }, { o := .ca N.ref34_Valid 0 [] [.l 1, .l 0], g := some (5, true) }, { o := .eqk (.bool) false (.l 3) (.l 0), g := some (6, true) }, { o := .pk (.l 7) (.l 0) (.b false) }, { o := .mv (.l 0) }, { o := .ld (.v 7) 3 true, g := some (0, true) }, { o := .ld (.v 9) 3 true, g := some (1, true) }, { o := .ld (.v 10) 1 true, g := some (2, true) }, { o := .ca N.firing_Safe 0 [] [.l 2, .l 1, .l 0], g := some (3, true) }, { o := .ld (.v 7) 3 true, g := some (4, true) }, { o := .ld (.v 9) 3 true, g := some (5, true) }, { o := .ld (.v 10) 1 true, g := some (6, true) }, { o := .ca N.ref34_Safe 0 [] [.l 2, .l 1, .l 0], g := some (7, true) }, { o := .eqk (.bool) false (.l 4) (.l 0), g := some (8, true) }, { o := .pk (.l 9) (.l 0) (.b false) }, { o := .mv (.l 0) }, { o := .ld (.v 7) 3 true, g := some (0, true) }, { o := .ld (.v 8) 4 true, g := some (1, true) }, { o := .mv (.v 5), g := some (2, true) }, { o := .ca N.firing_Due 0 [] [.l 2, .l 1, .l 0], g := some (3, true) }, { o := .ld (.v 7) 3 true, g := some (4, true) }, { o := .ld (.v 8) 4 true, g := some (5, true) }, { o := .mv (.v 5), g := some (6, true) }, { o := .ca N.ref34_Due 0 [] [.l 2, .l 1, .l 0], g := some (7, true) }, { o := .bin .eql (.l 4) (.l 0), g := some (8, true) }, { o := .pk (.l 9) (.l 0) (.b false) }, { o := .mv (.l 0), d := some 11 }] [(42, 0), (43, 0), (52, 45), (53, 45), (54, 45), (63, 56), (64, 56)]) .ret)))))))))), res := [(11, none)] }
/-- /law34.ready -/
def law34_ready : Fn := { nargs := 0, vars := [0, 1, 2, 3], body := (.seq (.reg [{ o := .al [.nil, .t (.int .i64 (0)), .t (.int .i64 (0))] [], d := some 0 }, { o := .al [.nil, .nil, .t (.bool false)] [], d := some 1 }, { o := .al [.nil] [], d := some 2 }] []) (.seq (.reg [{ o := .bs [.i 0, .i 1099511627776] 1 }, { o := .bd [.t (.int .i64 (0)), .nil] [(1, 1, .l 0)] }, { o := .al [.t (.int .i64 (0)), .nil] [], d := some 3 }, { o := .st (.l 0) (.l 1) 2 [] }] []) (.seq (.reg [{ o := .bs [.i 1] 1 }, { o := .bd [.nil, .t (.int .i64 (0)), .t (.int .i64 (0))] [(0, 1, .l 0), (1, 1, .i 300), (2, 1, .i 1800)] }, { o := .bs [.i 0] 1 }, { o := .bs [.i 2] 1 }, { o := .bd [.nil, .nil, .t (.bool false)] [(0, 1, .l 1), (1, 1, .l 0), (2, 1, .b true)] }, { o := .bs [.i 1] 1 }, { o := .ld (.v 3) 2 true }, { o := .bs [.l 0] 2 }, { o := .bd [.nil, .nil] [(0, 1, .l 2), (1, 1, .l 0)] }, { o := .bs [.l 0] 2 }, { o := .bd [.nil] [(0, 1, .l 0)] }, { o := .st (.v 0) (.l 9) 3 [] }, { o := .st (.v 1) (.l 7) 3 [] }, { o := .st (.v 2) (.l 2) 1 [] }] [(0, 0), (2, 12), (3, 12), (5, 12), (5, 13), (6, 12), (6, 13), (7, 12), (7, 13), (9, 12), (9, 13)]) .ret))), res := [(0, some (3, true)), (1, some (3, true)), (2, some (1, true))] }
/-- /firing.Arm -/
def firing_Arm : Fn := { nargs := 6, vars := [0, 1, 2, 3, 4, 5, 6, 7, 8, 9, 12, 13, 14], body := (.seq (.reg [{ o := .bx (.v 0) 3, d := some 6 }, { o := .bx (.v 1) 4, d := some 7 }, { o := .bx (.v 2) 3, d := some 8 }, { o := .bx (.v 3) 1, d := some 9 }, { o := .al [.t (.int .i64 (0)), .t (.int .i64 (0)), .t (.int .i64 (0)), .t (.int .i64 (0))] [], d := some 10 }, { o := .mv (.i 0), d := some 11 }] []) (.seq (.seq (.reg [{ o := .ld (.v 6) 3 true }, { o := .ld (.v 7) 4 true }, { o := .ld (.v 8) 3 true }, { o := .ld (.v 9) 1 true }, { o := .mv (.v 5) }, { o := .bd [.nil, .t (.int .i64 (0)), .t (.int .i64 (0)), .t (.int .i64 (0)), .t (.int .i64 (0)), .t (.int .i64 (0)), .t (.int .i64 (0)), .nil, .nil, .t (.bool false), .nil, .t (.int .i64 (0)), .t (.int .i64 (0))] [(0, 3, .l 4), (3, 4, .l 3), (7, 3, .l 2), (10, 1, .l 1), (11, 1, .l 0), (12, 1, .i 0)] }, { o := .mv (.v 4) }, { o := .bin .leq (.l 0) (.i 0) }, { o := .ca N.firing_request_check 0 [] [.l 2, .l 0] }, { o := .mv (.l 0), d := some 12 }] []) (.ite [{ o := .mv (.v 12) }, { o := .bin .neq (.l 0) (.i 0) }] [] 0 (.seq (.reg [{ o := .ld (.v 7) 4 true }, { o := .mv (.v 12) }, { o := .st (.v 10) (.l 1) 4 [] }, { o := .mv (.l 1), d := some 11 }] []) .ret) .skip)) (.seq (.reg [{ o := .mv (.v 4) }, { o := .mv (.v 5) }, { o := .bd [.t (.int .i64 (0)), .t (.int .i64 (0)), .t (.int .i64 (0)), .t (.int .i64 (0))] [(0, 1, .i 1), (1, 1, .l 1), (3, 1, .l 0)] }, { o := .st (.v 10) (.l 0) 4 [] }, { o := .mv (.i 0), d := some 11 }] []) .ret))), res := [(10, some (4, true)), (11, none)] }
/-- /firing.Agree -/
def firing_Agree : Fn := { nargs := 6, vars := [0, 1, 2, 3, 4, 5, 6, 7, 8, 9, 12, 13, 14], body := (.seq (.reg [{ o := .bx (.v 0) 3, d := some 6 }, { o := .bx (.v 1) 4, d := some 7 }, { o := .bx (.v 2) 3, d := some 8 }, { o := .bx (.v 3) 1, d := some 9 }, { o := .al [.t (.int .i64 (0)), .t (.int .i64 (0)), .t (.int .i64 (0)), .t (.int .i64 (0))] [], d := some 10 }, { o := .mv (.i 0), d := some 11 }] []) (.seq (.seq (.reg [{ o := .ld (.v 6) 3 true }, { o := .ld (.v 7) 4 true }, { o := .ld (.v 8) 3 true }, { o := .ld (.v 9) 1 true }, { o := .mv (.v 5) }, { o := .bd [.nil, .t (.int .i64 (0)), .t (.int .i64 (0)), .t (.int .i64 (0)), .t (.int .i64 (0)), .t (.int .i64 (0)), .t (.int .i64 (0)), .nil, .nil, .t (.bool false), .nil, .t (.int .i64 (0)), .t (.int .i64 (0))] [(0, 3, .l 4), (3, 4, .l 3), (7, 3, .l 2), (10, 1, .l 1), (11, 1, .l 0), (12, 1, .i 1)] }, { o := .mv (.v 4) }, { o := .bin .leq (.l 0) (.i 0) }, { o := .mv (.l 0) }, { o := .mv (.v 4), g := some (0, false) }, { o := .fa (.v 7) 1, g := some (1, false) }, { o := .ld (.l 0) 1 false, g := some (2, false) }, { o := .bin .eql (.l 2) (.l 0), g := some (3, false) }, { o := .pk (.l 4) (.b true) (.l 0) }, { o := .ca N.firing_request_check 0 [] [.l 8, .l 0] }, { o := .mv (.l 0), d := some 12 }] []) (.ite [{ o := .mv (.v 12) }, { o := .bin .neq (.l 0) (.i 0) }] [] 0 (.seq (.reg [{ o := .ld (.v 7) 4 true }, { o := .mv (.v 12) }, { o := .st (.v 10) (.l 1) 4 [] }, { o := .mv (.l 1), d := some 11 }] []) .ret) .skip)) (.seq (.reg [{ o := .mv (.v 4) }, { o := .mv (.v 5) }, { o := .fa (.v 7) 0 }, { o := .st (.l 0) (.i 2) 1 [] }, { o := .fa (.v 7) 2 }, { o := .st (.l 0) (.l 4) 1 [] }, { o := .fa (.v 7) 3 }, { o := .st (.l 0) (.l 5) 1 [] }] []) (.seq (.reg [{ o := .ld (.v 7) 4 true }, { o := .st (.v 10) (.l 0) 4 [] }, { o := .mv (.i 0), d := some 11 }] []) .ret)))), res := [(10, some (4, true)), (11, none)] }
/-- /firing.Fire -/
def firing_Fire : Fn := { nargs := 6, vars := [0, 1, 2, 3, 4, 5, 6, 7, 8, 9, 12, 13, 14], body := (.seq (.reg [{ o := .bx (.v 0) 3, d := some 6 }, { o := .bx (.v 1) 4, d := some 7 }, { o := .bx (.v 2) 3, d := some 8 }, { o := .bx (.v 3) 1, d := some 9 }, { o := .al [.t (.int .i64 (0)), .t (.int .i64 (0)), .t (.int .i64 (0)), .t (.int .i64 (0))] [], d := some 10 }, { o := .mv (.i 0), d := some 11 }] []) (.seq (.seq (.reg [{ o := .ld (.v 6) 3 true }, { o := .ld (.v 7) 4 true }, { o := .ld (.v 8) 3 true }, { o := .ld (.v 9) 1 true }, { o := .mv (.v 4) }, { o := .bd [.nil, .t (.int .i64 (0)), .t (.int .i64 (0)), .t (.int .i64 (0)), .t (.int .i64 (0)), .t (.int .i64 (0)), .t (.int .i64 (0)), .nil, .nil, .t (.bool false), .nil, .t (.int .i64 (0)), .t (.int .i64 (0))] [(0, 3, .l 4), (3, 4, .l 3), (7, 3, .l 2), (10, 1, .l 1), (11, 1, .l 0), (12, 1, .i 2)] }, { o := .ca N.firing_request_check 0 [] [.l 0, .b false] }, { o := .mv (.l 0), d := some 12 }] []) (.ite [{ o := .mv (.v 12) }, { o := .bin .neq (.l 0) (.i 0) }] [] 0 (.seq (.reg [{ o := .ld (.v 7) 4 true }, { o := .mv (.v 12) }, { o := .st (.v 10) (.l 1) 4 [] }, { o := .mv (.l 1), d := some 11 }] []) .ret) .skip)) (.seq (.reg [{ o := .mv (.v 4) }, { o := .fa (.v 7) 0 }, { o := .st (.l 0) (.i 3) 1 [] }, { o := .fa (.v 7) 3 }, { o := .st (.l 0) (.l 3) 1 [] }] []) (.seq (.ite [{ o := .mv (.v 5) }] [] 0 (.reg [{ o := .fa (.v 7) 0 }, { o := .st (.l 0) (.i 4) 1 [] }] []) .skip) (.seq (.reg [{ o := .ld (.v 7) 4 true }, { o := .st (.v 10) (.l 0) 4 [] }, { o := .mv (.i 0), d := some 11 }] []) .ret))))), res := [(10, some (4, true)), (11, none)] }
/-- /firing.Abort -/
def firing_Abort : Fn := { nargs := 3, vars := [0, 1, 2, 3, 4, 6, 7], body := (.seq (.reg [{ o := .bx (.v 0) 3, d := some 3 }, { o := .bx (.v 1) 4, d := some 4 }, { o := .al [.t (.int .i64 (0)), .t (.int .i64 (0)), .t (.int .i64 (0)), .t (.int .i64 (0))] [], d := some 5 }, { o := .mv (.i 0), d := some 6 }] []) (.seq (.blk 0 (.ite [{ o := .ld (.v 3) 3 true }, { o := .ld (.v 4) 4 true }, { o := .ca N.firing_Valid 0 [] [.l 1, .l 0] }, { o := .un .not (.l 0) }, { o := .mv (.l 0) }] [] 0 (.seq (.reg [{ o := .ld (.v 4) 4 true }, { o := .st (.v 5) (.l 0) 4 [] }, { o := .mv (.i 6), d := some 6 }] []) .ret) (.ite [{ o := .fa (.v 4) 0 }, { o := .ld (.l 0) 1 false }, { o := .bin .eql (.l 0) (.i 0) }, { o := .mv (.l 0) }] [] 0 (.seq (.reg [{ o := .ld (.v 4) 4 true }, { o := .st (.v 5) (.l 0) 4 [] }, { o := .mv (.i 10), d := some 6 }] []) .ret) (.ite [{ o := .ld (.v 4) 4 true }, { o := .mv (.v 2) }, { o := .ca N.firing_timely 0 [] [.l 1, .l 0] }, { o := .un .not (.l 0) }, { o := .mv (.l 0) }] [] 0 (.seq (.reg [{ o := .ld (.v 4) 4 true }, { o := .st (.v 5) (.l 0) 4 [] }, { o := .mv (.i 8), d := some 6 }] []) .ret) (.ite [{ o := .fa (.v 4) 0 }, { o := .ld (.l 0) 1 false }, { o := .bin .eql (.l 0) (.i 4) }, { o := .mv (.l 0) }, { o := .mv (.v 2), g := some (0, true) }, { o := .fa (.v 4) 3, g := some (1, true) }, { o := .ld (.l 0) 1 false, g := some (2, true) }, { o := .bin .sub (.l 2) (.l 0), g := some (3, true) }, { o := .fa (.v 3) 2, g := some (4, true) }, { o := .ld (.l 0) 1 false, g := some (5, true) }, { o := .bin .lss (.l 2) (.l 0), g := some (6, true) }, { o := .pk (.l 7) (.l 0) (.b false) }, { o := .mv (.l 0) }] [] 0 (.seq (.reg [{ o := .ld (.v 4) 4 true }, { o := .st (.v 5) (.l 0) 4 [] }, { o := .mv (.i 10), d := some 6 }] []) .ret) .skip))))) (.seq (.reg [{ o := .bd [.t (.int .i64 (0)), .t (.int .i64 (0)), .t (.int .i64 (0)), .t (.int .i64 (0))] [] }, { o := .st (.v 5) (.l 0) 4 [] }, { o := .mv (.i 0), d := some 6 }] []) .ret))), res := [(5, some (4, true)), (6, none)] }
/-- /firing.Valid -/
def firing_Valid : Fn := { nargs := 2, vars := [0, 1, 2, 3, 4, 34, 50], body := (.seq (.reg [{ o := .bx (.v 0) 3, d := some 2 }, { o := .bx (.v 1) 4, d := some 3 }, { o := .mv (.b false), d := some 4 }] []) (.seq (.ite [{ o := .fa (.v 2) 0 }, { o := .ld (.l 0) 1 false }, { o := .ln (.l 0) }, { o := .bin .eql (.l 0) (.i 0) }, { o := .mv (.l 0) }, { o := .fa (.v 2) 0, g := some (0, false) }, { o := .ld (.l 0) 1 false, g := some (1, false) }, { o := .ca N.lists_Rising 0 [] [.l 0, .i 0, .i 63], g := some (2, false) }, { o := .un .not (.l 0), g := some (3, false) }, { o := .pk (.l 4) (.b true) (.l 0) }, { o := .mv (.l 0) }, { o := .fa (.v 2) 1, g := some (0, false) }, { o := .ld (.l 0) 1 false, g := some (1, false) }, { o := .ca N.lists_In 0 [] [.l 0, .i 1, .i 100000], g := some (2, false) }, { o := .un .not (.l 0), g := some (3, false) }, { o := .pk (.l 4) (.b true) (.l 0) }, { o := .mv (.l 0) }, { o := .fa (.v 2) 2, g := some (0, false) }, { o := .ld (.l 0) 1 false, g := some (1, false) }, { o := .ca N.lists_In 0 [] [.l 0, .i 1, .i 100000], g := some (2, false) }, { o := .un .not (.l 0), g := some (3, false) }, { o := .pk (.l 4) (.b true) (.l 0) }, { o := .mv (.l 0) }, { o := .fa (.v 3) 3, g := some (0, false) }, { o := .ld (.l 0) 1 false, g := some (1, false) }, { o := .ca N.lists_In 0 [] [.l 0, .i 0, .i 2147483648], g := some (2, false) }, { o := .un .not (.l 0), g := some (3, false) }, { o := .pk (.l 4) (.b true) (.l 0) }] [] 0 (.seq (.reg [{ o := .mv (.b false), d := some 4 }] []) .ret) .skip) (.seq (.seq (.reg [{ o := .fa (.v 3) 0 }, { o := .ld (.l 0) 1 false, d := some 5 }] []) (.blk 0 (.ite [{ o := .bin .eql (.v 5) (.i 0) }, { o := .mv (.l 0) }] [] 0 (.seq (.reg [{ o := .ld (.v 3) 4 true }, { o := .bd [.t (.int .i64 (0)), .t (.int .i64 (0)), .t (.int .i64 (0)), .t (.int .i64 (0))] [] }, { o := .eqk (.ints 4) false (.l 1) (.l 0) }, { o := .mv (.l 0), d := some 4 }] []) .ret) (.ite [{ o := .bin .eql (.v 5) (.i 1) }, { o := .mv (.l 0) }] [] 0 (.seq (.reg [{ o := .fa (.v 3) 1 }, { o := .ld (.l 0) 1 false }, { o := .bin .gtr (.l 0) (.i 0) }, { o := .mv (.l 0) }, { o := .fa (.v 3) 2, g := some (0, true) }, { o := .ld (.l 0) 1 false, g := some (1, true) }, { o := .bin .eql (.l 0) (.i 0), g := some (2, true) }, { o := .pk (.l 3) (.l 0) (.b false) }, { o := .mv (.l 0), d := some 4 }] []) .ret) (.seq (.seq (.reg [{ o := .bin .eql (.v 5) (.i 2) }, { o := .mv (.l 0), d := some 6 }] []) (.itv 6 .skip (.seq (.reg [{ o := .bin .eql (.v 5) (.i 3) }, { o := .mv (.l 0), d := some 6 }] []) (.itv 6 .skip (.reg [{ o := .bin .eql (.v 5) (.i 4) }, { o := .mv (.l 0), d := some 6 }] []))))) (.itv 6 (.seq (.reg [{ o := .fa (.v 3) 1 }, { o := .ld (.l 0) 1 false }, { o := .bin .gtr (.l 0) (.i 0) }, { o := .mv (.l 0) }, { o := .fa (.v 3) 2, g := some (0, true) }, { o := .ld (.l 0) 1 false, g := some (1, true) }, { o := .bin .gtr (.l 0) (.i 0), g := some (2, true) }, { o := .pk (.l 3) (.l 0) (.b false) }, { o := .mv (.l 0) }, { o := .fa (.v 3) 1, g := some (0, true) }, { o := .ld (.l 0) 1 false, g := some (1, true) }, { o := .fa (.v 3) 2, g := some (2, true) }, { o := .ld (.l 0) 1 false, g := some (3, true) }, { o := .bin .neq (.l 2) (.l 0), g := some (4, true) }, { o := .pk (.l 5) (.l 0) (.b false) }, { o := .mv (.l 0), d := some 4 }] []) .ret) .skip)))))) (.seq (.reg [{ o := .mv (.b false), d := some 4 }] []) .ret)))), res := [(4, none)] }
/-- /firing.Due -/
def firing_Due : Fn := { nargs := 3, vars := [0, 1, 2, 3, 4, 6, 18, 19], body := (.seq (.reg [{ o := .bx (.v 0) 3, d := some 3 }, { o := .bx (.v 1) 4, d := some 4 }, { o := .mv (.i 0), d := some 5 }] []) (.seq (.ite [{ o := .ld (.v 3) 3 true }, { o := .ld (.v 4) 4 true }, { o := .ca N.firing_Valid 0 [] [.l 1, .l 0] }, { o := .un .not (.l 0) }, { o := .mv (.l 0) }, { o := .mv (.v 2), g := some (0, false) }, { o := .fa (.v 4) 3, g := some (1, false) }, { o := .ld (.l 0) 1 false, g := some (2, false) }, { o := .bin .lss (.l 2) (.l 0), g := some (3, false) }, { o := .pk (.l 4) (.b true) (.l 0) }] [] 0 (.seq (.reg [{ o := .mv (.i 0), d := some 5 }] []) .ret) .skip) (.seq (.seq (.reg [{ o := .fa (.v 4) 0 }, { o := .ld (.l 0) 1 false, d := some 6 }] []) (.blk 0 (.seq (.seq (.reg [{ o := .bin .eql (.v 6) (.i 1) }, { o := .mv (.l 0), d := some 7 }] []) (.itv 7 .skip (.reg [{ o := .bin .eql (.v 6) (.i 2) }, { o := .mv (.l 0), d := some 7 }] []))) (.itv 7 (.seq (.reg [{ o := .fa (.v 3) 1 }, { o := .ld (.l 0) 1 false }, { o := .mv (.v 2) }, { o := .fa (.v 4) 3 }, { o := .ld (.l 0) 1 false }, { o := .bin .sub (.l 2) (.l 0) }, { o := .bin .sub (.l 4) (.l 0) }, { o := .mx [.i 0, .l 0] }, { o := .mv (.l 0), d := some 5 }] []) .ret) (.ite [{ o := .bin .eql (.v 6) (.i 4) }, { o := .mv (.l 0) }] [] 0 (.seq (.reg [{ o := .fa (.v 3) 2 }, { o := .ld (.l 0) 1 false }, { o := .mv (.v 2) }, { o := .fa (.v 4) 3 }, { o := .ld (.l 0) 1 false }, { o := .bin .sub (.l 2) (.l 0) }, { o := .bin .sub (.l 4) (.l 0) }, { o := .mx [.i 0, .l 0] }, { o := .mv (.l 0), d := some 5 }] []) .ret) .skip))))) (.seq (.reg [{ o := .mv (.i 0), d := some 5 }] []) .ret)))), res := [(5, none)] }
def ref32_Border_l1b : C := (.seq (.ite [{ o := .mv (.v 5) }, { o := .fa (.v 2) 1 }, { o := .ld (.l 0) 1 false }, { o := .ln (.l 0) }, { o := .bin .lss (.l 3) (.l 0) }] [] 0 .skip (.exit 0)) (.seq (.blk 1 (.seq (.reg [{ o := .fa (.v 2) 1 }, { o := .ld (.l 0) 1 false }, { o := .mv (.v 5) }, { o := .ia (.l 1) (.l 0) 10 }, { o := .ld (.l 0) 10 true }, { o := .al [.t (.int .i64 (0)), .t (.int .i64 (0)), .t (.int .i64 (0)), .t (.int .i64 (0)), .t (.bool false), .t (.bool false), .t (.int .i64 (0)), .t (.int .i64 (0)), .t (.int .i64 (0)), .t (.int .i64 (0))] [], d := some 6 }, { o := .st (.l 0) (.l 1) 10 [] }] []) (.seq (.reg [{ o := .ld (.v 2) 2 true }, { o := .mv (.v 5) }, { o := .ca N.ref03_Time 0 [] [.l 1, .l 0, .b false] }, { o := .bin .geq (.l 0) (.i 0) }, { o := .mv (.l 0) }, { o := .ld (.v 2) 2 true, g := some (0, false) }, { o := .mv (.v 5), g := some (1, false) }, { o := .ca N.ref03_Time 0 [] [.l 1, .l 0, .b true], g := some (2, false) }, { o := .bin .geq (.l 0) (.i 0), g := some (3, false) }, { o := .pk (.l 4) (.b true) (.l 0) }, { o := .mv (.l 0), d := some 7 }] []) (.ite [{ o := .fa (.v 6) 5 }, { o := .ld (.l 0) 1 false }, { o := .un .not (.l 0) }, { o := .mv (.l 0) }, { o := .mv (.v 7), g := some (0, true) }, { o := .pk (.l 1) (.l 0) (.b false) }, { o := .mv (.l 0) }, { o := .mv (.v 1), g := some (0, true) }, { o := .fa (.v 6) 0, g := some (1, true) }, { o := .ld (.l 0) 1 false, g := some (2, true) }, { o := .ca N.ref23_Has 0 [] [.l 2, .l 0], g := some (3, true) }, { o := .mv (.v 1), g := some (4, true) }, { o := .fa (.v 6) 1, g := some (5, true) }, { o := .ld (.l 0) 1 false, g := some (6, true) }, { o := .ca N.ref23_Has 0 [] [.l 2, .l 0], g := some (7, true) }, { o := .eqk (.bool) true (.l 4) (.l 0), g := some (8, true) }, { o := .pk (.l 9) (.l 0) (.b false) }] [(13, 0)] 0 (.reg [{ o := .mv (.v 4) }, { o := .mv (.v 5) }, { o := .bs [.l 0] 1 }, { o := .app (.l 2) (.l 0) true 1 }, { o := .mv (.l 0), d := some 4 }] []) .skip)))) (.reg [{ o := .mv (.v 5) }, { o := .bin .add (.l 0) (.i 1) }, { o := .mv (.l 0), d := some 5 }] [])))
def ref32_Border_l1 : C := .loop true [0, 3, 6, 7] K.ref32_Border_l1b
/-- /ref32.Border -/
def ref32_Border : Fn := { nargs := 2, vars := [0, 1, 2, 4, 5, 6, 7, 8], body := (.seq (.reg [{ o := .bx (.v 0) 2, d := some 2 }, { o := .mv (.c (.nil)), d := some 3 }] []) (.seq (.reg [{ o := .nw 1, d := some 4 }] []) (.seq (.seq (.reg [{ o := .mv (.i 0), d := some 5 }] []) (.blk 0 K.ref32_Border_l1)) (.seq (.reg [{ o := .mv (.v 4) }, { o := .mv (.l 0), d := some 3 }] []) .ret)))), res := [(3, none)] }
def ref32_Seal_l2b : C := (.seq (.ite [{ o := .mv (.v 12) }, { o := .fa (.v 10) 0 }, { o := .ld (.l 0) 1 false }, { o := .mv (.v 11) }, { o := .ia (.l 1) (.l 0) 2 }, { o := .fa (.l 0) 1 }, { o := .ld (.l 0) 1 false }, { o := .ln (.l 0) }, { o := .bin .lss (.l 7) (.l 0) }] [] 0 .skip (.exit 2)) (.seq (.blk 3 (.seq (.reg [{ o := .fa (.v 10) 0 }, { o := .ld (.l 0) 1 false }, { o := .mv (.v 11) }, { o := .ia (.l 1) (.l 0) 2 }, { o := .fa (.l 0) 1 }, { o := .ld (.l 0) 1 false }, { o := .mv (.v 12) }, { o := .ia (.l 1) (.l 0) 2 }, { o := .ld (.l 0) 2 true }, { o := .al [.t (.int .i64 (0)), .nil] [], d := some 13 }, { o := .st (.l 0) (.l 1) 2 [] }] []) (.seq (.ite [{ o := .mv (.v 3) }, { o := .fa (.v 13) 0 }, { o := .ld (.l 0) 1 false }, { o := .bin .lss (.l 2) (.l 0) }, { o := .mv (.l 0) }, { o := .mv (.v 3), g := some (0, false) }, { o := .bin .gtr (.l 0) (.i 2147483648), g := some (1, false) }, { o := .pk (.l 2) (.b true) (.l 0) }] [] 0 (.seq (.reg [{ o := .ld (.v 5) 1 true }, { o := .st (.v 6) (.l 0) 1 [] }, { o := .mv (.i 8), d := some 7 }] []) .ret) .skip) (.reg [{ o := .fa (.v 10) 0 }, { o := .ld (.l 0) 1 false }, { o := .mv (.v 11) }, { o := .ia (.l 1) (.l 0) 2 }, { o := .fa (.l 0) 1 }, { o := .ld (.l 0) 1 false }, { o := .mv (.v 12) }, { o := .ld (.v 8) 2 true }, { o := .ld (.v 13) 2 true }, { o := .mv (.v 3) }, { o := .ca N.ref32_seal 0 [] [.l 2, .l 1, .l 0] }, { o := .ia (.l 5) (.l 4) 2 }, { o := .st (.l 0) (.l 1) 2 [] }] [(1, 11), (3, 11), (5, 11)])))) (.reg [{ o := .mv (.v 12) }, { o := .bin .add (.l 0) (.i 1) }, { o := .mv (.l 0), d := some 12 }] [])))
def ref32_Seal_l2 : C := .loop true [0, 1, 2, 4, 7, 9, 13] K.ref32_Seal_l2b
def ref32_Seal_l1b : C := (.seq (.ite [{ o := .mv (.v 11) }, { o := .fa (.v 10) 0 }, { o := .ld (.l 0) 1 false }, { o := .ln (.l 0) }, { o := .bin .lss (.l 3) (.l 0) }] [] 0 .skip (.exit 0)) (.seq (.blk 1 (.seq (.reg [{ o := .mv (.i 0), d := some 12 }] []) (.blk 2 K.ref32_Seal_l2))) (.reg [{ o := .mv (.v 11) }, { o := .bin .add (.l 0) (.i 1) }, { o := .mv (.l 0), d := some 11 }] [])))
def ref32_Seal_l1 : C := .loop true [0, 1, 2, 4, 7, 9, 12, 13] K.ref32_Seal_l1b
/-- /ref32.Seal -/
def ref32_Seal : Fn := { nargs := 4, vars := [0, 1, 2, 3, 4, 5, 8, 9, 10, 11, 12, 13, 14, 15], body := (.seq (.reg [{ o := .bx (.v 0) 2, d := some 4 }, { o := .bx (.v 1) 1, d := some 5 }, { o := .al [.nil] [], d := some 6 }, { o := .mv (.i 0), d := some 7 }] []) (.seq (.reg [{ o := .ld (.v 5) 1 true }, { o := .ca N.ref26_Copy_v1 2 [] [.l 0] }, { o := .st (.v 5) (.l 0) 1 [] }] []) (.seq (.ite [{ o := .ld (.v 4) 2 true }, { o := .ld (.v 5) 1 true }, { o := .ca N.ref26_Valid 0 [] [.l 1, .l 0] }, { o := .un .not (.l 0) }] [] 0 (.seq (.reg [{ o := .ld (.v 5) 1 true }, { o := .st (.v 6) (.l 0) 1 [] }, { o := .mv (.i 6), d := some 7 }] []) .ret) .skip) (.seq (.reg [{ o := .ld (.v 4) 2 true }, { o := .mv (.v 2) }, { o := .ca N.ref32_Barred 0 [] [.l 1, .l 0] }, { o := .mv (.l 0) }, { o := .ex (.l 0) 0 }, { o := .ex (.l 1) 1 }, { o := .al [.nil, .nil] [], d := some 8 }, { o := .st (.l 0) (.l 2) 2 [] }, { o := .mv (.l 2), d := some 9 }] []) (.seq (.ite [{ o := .mv (.v 9) }, { o := .bin .neq (.l 0) (.i 0) }] [] 0 (.seq (.reg [{ o := .ld (.v 5) 1 true }, { o := .mv (.v 9) }, { o := .st (.v 6) (.l 1) 1 [] }, { o := .mv (.l 1), d := some 7 }] []) .ret) .skip) (.seq (.reg [{ o := .ld (.v 5) 1 true }, { o := .ca N.ref26_Copy_v1 2 [] [.l 0] }, { o := .al [.nil] [], d := some 10 }, { o := .st (.l 0) (.l 1) 1 [] }] []) (.seq (.seq (.reg [{ o := .mv (.i 0), d := some 11 }] []) (.blk 0 K.ref32_Seal_l1)) (.seq (.reg [{ o := .fa (.v 10) 0 }, { o := .ld (.l 0) 1 false }, { o := .ca N.ref26_Tidy 0 [] [.l 0] }, { o := .fa (.v 10) 0 }, { o := .st (.l 0) (.l 1) 1 [] }] []) (.seq (.reg [{ o := .ld (.v 10) 1 true }, { o := .st (.v 6) (.l 0) 1 [] }, { o := .mv (.i 0), d := some 7 }] []) .ret))))))))), res := [(6, some (1, true)), (7, none)] }
def made_Last_l2b : C := (.seq (.ite [{ o := .mv (.v 5) }, { o := .fa (.v 1) 0 }, { o := .ld (.l 0) 1 false }, { o := .mv (.v 4) }, { o := .ia (.l 1) (.l 0) 2 }, { o := .fa (.l 0) 1 }, { o := .ld (.l 0) 1 false }, { o := .ln (.l 0) }, { o := .bin .lss (.l 7) (.l 0) }] [] 0 .skip (.exit 2)) (.seq (.blk 3 (.reg [{ o := .mv (.v 3) }, { o := .fa (.v 1) 0 }, { o := .ld (.l 0) 1 false }, { o := .mv (.v 4) }, { o := .ia (.l 1) (.l 0) 2 }, { o := .fa (.l 0) 1 }, { o := .ld (.l 0) 1 false }, { o := .mv (.v 5) }, { o := .ia (.l 1) (.l 0) 2 }, { o := .fa (.l 0) 0 }, { o := .ld (.l 0) 1 false }, { o := .mx [.l 10, .l 0] }, { o := .mv (.l 0), d := some 3 }] [])) (.reg [{ o := .mv (.v 5) }, { o := .bin .add (.l 0) (.i 1) }, { o := .mv (.l 0), d := some 5 }] [])))
def made_Last_l2 : C := .loop true [0, 2] K.made_Last_l2b
def made_Last_l1b : C := (.seq (.ite [{ o := .mv (.v 4) }, { o := .fa (.v 1) 0 }, { o := .ld (.l 0) 1 false }, { o := .ln (.l 0) }, { o := .bin .lss (.l 3) (.l 0) }] [] 0 .skip (.exit 0)) (.seq (.blk 1 (.seq (.reg [{ o := .mv (.i 0), d := some 5 }] []) (.blk 2 K.made_Last_l2))) (.reg [{ o := .mv (.v 4) }, { o := .bin .add (.l 0) (.i 1) }, { o := .mv (.l 0), d := some 4 }] [])))
def made_Last_l1 : C := .loop true [0, 2, 5] K.made_Last_l1b
/-- /made.Last -/
def made_Last : Fn := { nargs := 1, vars := [0, 1, 2, 3, 4, 5], body := (.seq (.reg [{ o := .bx (.v 0) 1, d := some 1 }, { o := .mv (.i 0), d := some 2 }] []) (.seq (.reg [{ o := .mv (.i 0), d := some 3 }] []) (.seq (.seq (.reg [{ o := .mv (.i 0), d := some 4 }] []) (.blk 0 K.made_Last_l1)) (.seq (.reg [{ o := .mv (.v 3) }, { o := .mv (.l 0), d := some 2 }] []) .ret)))), res := [(2, none)] }
/-- /ref34.Arm -/
def ref34_Arm : Fn := { nargs := 6, vars := [0, 1, 2, 3, 4, 5, 6, 7, 8, 9, 12, 13, 14], body := (.seq (.reg [{ o := .bx (.v 0) 3, d := some 6 }, { o := .bx (.v 1) 4, d := some 7 }, { o := .bx (.v 2) 3, d := some 8 }, { o := .bx (.v 3) 1, d := some 9 }, { o := .al [.t (.int .i64 (0)), .t (.int .i64 (0)), .t (.int .i64 (0)), .t (.int .i64 (0))] [], d := some 10 }, { o := .mv (.i 0), d := some 11 }] []) (.seq (.seq (.reg [{ o := .ld (.v 6) 3 true }, { o := .ld (.v 7) 4 true }, { o := .ld (.v 8) 3 true }, { o := .ld (.v 9) 1 true }, { o := .mv (.v 4) }, { o := .mv (.v 5) }, { o := .ca N.ref34_step 0 [] [.l 5, .l 4, .l 3, .l 2, .i 0, .l 1, .l 0] }, { o := .mv (.l 0), d := some 12 }] []) (.ite [{ o := .mv (.v 12) }, { o := .bin .neq (.l 0) (.i 0) }] [] 0 (.seq (.reg [{ o := .ld (.v 7) 4 true }, { o := .mv (.v 12) }, { o := .st (.v 10) (.l 1) 4 [] }, { o := .mv (.l 1), d := some 11 }] []) .ret) .skip)) (.seq (.reg [{ o := .mv (.v 4) }, { o := .mv (.v 5) }, { o := .bd [.t (.int .i64 (0)), .t (.int .i64 (0)), .t (.int .i64 (0)), .t (.int .i64 (0))] [(0, 1, .i 1), (1, 1, .l 1), (3, 1, .l 0)] }, { o := .st (.v 10) (.l 0) 4 [] }, { o := .mv (.i 0), d := some 11 }] []) .ret))), res := [(10, some (4, true)), (11, none)] }
/-- /ref34.Agree -/
def ref34_Agree : Fn := { nargs := 6, vars := [0, 1, 2, 3, 4, 5, 6, 7, 8, 9, 12, 13, 14], body := (.seq (.reg [{ o := .bx (.v 0) 3, d := some 6 }, { o := .bx (.v 1) 4, d := some 7 }, { o := .bx (.v 2) 3, d := some 8 }, { o := .bx (.v 3) 1, d := some 9 }, { o := .al [.t (.int .i64 (0)), .t (.int .i64 (0)), .t (.int .i64 (0)), .t (.int .i64 (0))] [], d := some 10 }, { o := .mv (.i 0), d := some 11 }] []) (.seq (.seq (.reg [{ o := .ld (.v 6) 3 true }, { o := .ld (.v 7) 4 true }, { o := .ld (.v 8) 3 true }, { o := .ld (.v 9) 1 true }, { o := .mv (.v 4) }, { o := .mv (.v 5) }, { o := .ca N.ref34_step 0 [] [.l 5, .l 4, .l 3, .l 2, .i 1, .l 1, .l 0] }, { o := .mv (.l 0), d := some 12 }] []) (.ite [{ o := .mv (.v 12) }, { o := .bin .neq (.l 0) (.i 0) }] [] 0 (.seq (.reg [{ o := .ld (.v 7) 4 true }, { o := .mv (.v 12) }, { o := .st (.v 10) (.l 1) 4 [] }, { o := .mv (.l 1), d := some 11 }] []) .ret) .skip)) (.seq (.reg [{ o := .fa (.v 7) 1 }, { o := .ld (.l 0) 1 false }, { o := .mv (.v 4) }, { o := .mv (.v 5) }, { o := .bd [.t (.int .i64 (0)), .t (.int .i64 (0)), .t (.int .i64 (0)), .t (.int .i64 (0))] [(0, 1, .i 2), (1, 1, .l 2), (2, 1, .l 1), (3, 1, .l 0)] }, { o := .st (.v 10) (.l 0) 4 [] }, { o := .mv (.i 0), d := some 11 }] []) .ret))), res := [(10, some (4, true)), (11, none)] }
/-- /ref34.Fire -/
def ref34_Fire : Fn := { nargs := 6, vars := [0, 1, 2, 3, 4, 5, 6, 7, 8, 9, 12, 13, 14], body := (.seq (.reg [{ o := .bx (.v 0) 3, d := some 6 }, { o := .bx (.v 1) 4, d := some 7 }, { o := .bx (.v 2) 3, d := some 8 }, { o := .bx (.v 3) 1, d := some 9 }, { o := .al [.t (.int .i64 (0)), .t (.int .i64 (0)), .t (.int .i64 (0)), .t (.int .i64 (0))] [], d := some 10 }, { o := .mv (.i 0), d := some 11 }] []) (.seq (.seq (.reg [{ o := .ld (.v 6) 3 true }, { o := .ld (.v 7) 4 true }, { o := .ld (.v 8) 3 true }, { o := .ld (.v 9) 1 true }, { o := .mv (.v 4) }, { o := .ca N.ref34_step 0 [] [.l 4, .l 3, .l 2, .l 1, .i 2, .i 1, .l 0] }, { o := .mv (.l 0), d := some 12 }] []) (.ite [{ o := .mv (.v 12) }, { o := .bin .neq (.l 0) (.i 0) }] [] 0 (.seq (.reg [{ o := .ld (.v 7) 4 true }, { o := .mv (.v 12) }, { o := .st (.v 10) (.l 1) 4 [] }, { o := .mv (.l 1), d := some 11 }] []) .ret) .skip)) (.seq (.reg [{ o := .mv (.v 4) }, { o := .fa (.v 7) 0 }, { o := .st (.l 0) (.i 3) 1 [] }, { o := .fa (.v 7) 3 }, { o := .st (.l 0) (.l 3) 1 [] }] []) (.seq (.ite [{ o := .mv (.v 5) }] [] 0 (.reg [{ o := .fa (.v 7) 0 }, { o := .st (.l 0) (.i 4) 1 [] }] []) .skip) (.seq (.reg [{ o := .ld (.v 7) 4 true }, { o := .st (.v 10) (.l 0) 4 [] }, { o := .mv (.i 0), d := some 11 }] []) .ret))))), res := [(10, some (4, true)), (11, none)] }
/-- /ref34.Abort -/
def ref34_Abort : Fn := { nargs := 3, vars := [0, 1, 2, 3, 4, 6, 7], body := (.seq (.reg [{ o := .bx (.v 0) 3, d := some 3 }, { o := .bx (.v 1) 4, d := some 4 }, { o := .al [.t (.int .i64 (0)), .t (.int .i64 (0)), .t (.int .i64 (0)), .t (.int .i64 (0))] [], d := some 5 }, { o := .mv (.i 0), d := some 6 }] []) (.seq (.blk 0 (.ite [{ o := .ld (.v 3) 3 true }, { o := .ld (.v 4) 4 true }, { o := .ca N.ref34_Valid 0 [] [.l 1, .l 0] }, { o := .un .not (.l 0) }, { o := .mv (.l 0) }] [] 0 (.seq (.reg [{ o := .ld (.v 4) 4 true }, { o := .st (.v 5) (.l 0) 4 [] }, { o := .mv (.i 6), d := some 6 }] []) .ret) (.ite [{ o := .fa (.v 4) 0 }, { o := .ld (.l 0) 1 false }, { o := .bin .eql (.l 0) (.i 0) }, { o := .mv (.l 0) }] [] 0 (.seq (.reg [{ o := .ld (.v 4) 4 true }, { o := .st (.v 5) (.l 0) 4 [] }, { o := .mv (.i 10), d := some 6 }] []) .ret) (.ite [{ o := .mv (.v 2) }, { o := .bin .lss (.l 0) (.i 0) }, { o := .mv (.l 0) }, { o := .mv (.v 2), g := some (0, false) }, { o := .bin .gtr (.l 0) (.i 2147483648), g := some (1, false) }, { o := .pk (.l 2) (.b true) (.l 0) }, { o := .mv (.l 0) }, { o := .mv (.v 2), g := some (0, false) }, { o := .fa (.v 4) 3, g := some (1, false) }, { o := .ld (.l 0) 1 false, g := some (2, false) }, { o := .bin .lss (.l 2) (.l 0), g := some (3, false) }, { o := .pk (.l 4) (.b true) (.l 0) }, { o := .mv (.l 0) }] [] 0 (.seq (.reg [{ o := .ld (.v 4) 4 true }, { o := .st (.v 5) (.l 0) 4 [] }, { o := .mv (.i 8), d := some 6 }] []) .ret) (.ite [{ o := .fa (.v 4) 0 }, { o := .ld (.l 0) 1 false }, { o := .bin .eql (.l 0) (.i 4) }, { o := .mv (.l 0) }, { o := .mv (.v 2), g := some (0, true) }, { o := .fa (.v 4) 3, g := some (1, true) }, { o := .ld (.l 0) 1 false, g := some (2, true) }, { o := .bin .sub (.l 2) (.l 0), g := some (3, true) }, { o := .fa (.v 3) 2, g := some (4, true) }, { o := .ld (.l 0) 1 false, g := some (5, true) }, { o := .bin .lss (.l 2) (.l 0), g := some (6, true) }, { o := .pk (.l 7) (.l 0) (.b false) }, { o := .mv (.l 0) }] [] 0 (.seq (.reg [{ o := .ld (.v 4) 4 true }, { o := .st (.v 5) (.l 0) 4 [] }, { o := .mv (.i 10), d := some 6 }] []) .ret) .skip))))) (.seq (.reg [{ o := .bd [.t (.int .i64 (0)), .t (.int .i64 (0)), .t (.int .i64 (0)), .t (.int .i64 (0))] [] }, { o := .st (.v 5) (.l 0) 4 [] }, { o := .mv (.i 0), d := some 6 }] []) .ret))), res := [(5, some (4, true)), (6, none)] }
end Go.Ev.K
namespace Go.Ev
class Has3 [Lib] : Prop where
  t_law34_FiringRaw : Lib.fs N.law34_FiringRaw = some K.law34_FiringRaw
  t_law34_FiringMade : Lib.fs N.law34_FiringMade = some K.law34_FiringMade
  t_law34_FiringNeeds : Lib.fs N.law34_FiringNeeds = some K.law34_FiringNeeds
  t_law34_awake : Lib.fs N.law34_awake = some K.law34_awake
  t_made_Dice_Ints : Lib.fs N.made_Dice_Ints = some K.made_Dice_Ints
  t_law34_scene : Lib.fs N.law34_scene = some K.law34_scene
  t_law34_agree : Lib.fs N.law34_agree = some K.law34_agree
  t_law34_ready : Lib.fs N.law34_ready = some K.law34_ready
  t_firing_Arm : Lib.fs N.firing_Arm = some K.firing_Arm
  t_firing_Agree : Lib.fs N.firing_Agree = some K.firing_Agree
  t_firing_Fire : Lib.fs N.firing_Fire = some K.firing_Fire
  t_firing_Abort : Lib.fs N.firing_Abort = some K.firing_Abort
  t_firing_Valid : Lib.fs N.firing_Valid = some K.firing_Valid
  t_firing_Due : Lib.fs N.firing_Due = some K.firing_Due
  t_ref32_Border : Lib.fs N.ref32_Border = some K.ref32_Border
  t_ref32_Seal : Lib.fs N.ref32_Seal = some K.ref32_Seal
  t_made_Last : Lib.fs N.made_Last = some K.made_Last
  t_ref34_Arm : Lib.fs N.ref34_Arm = some K.ref34_Arm
  t_ref34_Agree : Lib.fs N.ref34_Agree = some K.ref34_Agree
  t_ref34_Fire : Lib.fs N.ref34_Fire = some K.ref34_Fire
  t_ref34_Abort : Lib.fs N.ref34_Abort = some K.ref34_Abort
namespace K
variable [Lib] [Has3]
theorem t_law34_FiringRaw : Lib.fs N.law34_FiringRaw = some K.law34_FiringRaw := Has3.t_law34_FiringRaw
theorem t_law34_FiringMade : Lib.fs N.law34_FiringMade = some K.law34_FiringMade := Has3.t_law34_FiringMade
theorem t_law34_FiringNeeds : Lib.fs N.law34_FiringNeeds = some K.law34_FiringNeeds := Has3.t_law34_FiringNeeds
theorem t_law34_awake : Lib.fs N.law34_awake = some K.law34_awake := Has3.t_law34_awake
theorem t_made_Dice_Ints : Lib.fs N.made_Dice_Ints = some K.made_Dice_Ints := Has3.t_made_Dice_Ints
theorem t_law34_scene : Lib.fs N.law34_scene = some K.law34_scene := Has3.t_law34_scene
theorem t_law34_agree : Lib.fs N.law34_agree = some K.law34_agree := Has3.t_law34_agree
theorem t_law34_ready : Lib.fs N.law34_ready = some K.law34_ready := Has3.t_law34_ready
theorem t_firing_Arm : Lib.fs N.firing_Arm = some K.firing_Arm := Has3.t_firing_Arm
theorem t_firing_Agree : Lib.fs N.firing_Agree = some K.firing_Agree := Has3.t_firing_Agree
theorem t_firing_Fire : Lib.fs N.firing_Fire = some K.firing_Fire := Has3.t_firing_Fire
theorem t_firing_Abort : Lib.fs N.firing_Abort = some K.firing_Abort := Has3.t_firing_Abort
theorem t_firing_Valid : Lib.fs N.firing_Valid = some K.firing_Valid := Has3.t_firing_Valid
theorem t_firing_Due : Lib.fs N.firing_Due = some K.firing_Due := Has3.t_firing_Due
theorem t_ref32_Border : Lib.fs N.ref32_Border = some K.ref32_Border := Has3.t_ref32_Border
theorem t_ref32_Seal : Lib.fs N.ref32_Seal = some K.ref32_Seal := Has3.t_ref32_Seal
theorem t_made_Last : Lib.fs N.made_Last = some K.made_Last := Has3.t_made_Last
theorem t_ref34_Arm : Lib.fs N.ref34_Arm = some K.ref34_Arm := Has3.t_ref34_Arm
theorem t_ref34_Agree : Lib.fs N.ref34_Agree = some K.ref34_Agree := Has3.t_ref34_Agree
theorem t_ref34_Fire : Lib.fs N.ref34_Fire = some K.ref34_Fire := Has3.t_ref34_Fire
theorem t_ref34_Abort : Lib.fs N.ref34_Abort = some K.ref34_Abort := Has3.t_ref34_Abort
end K
end Go.Ev

/- MADE BY PROGRAM (lib.py): the compact code of functions. -/
namespace Go.Ev.K
open Go.Ev
/-- /ref34.Valid -/
def ref34_Valid : Fn := { nargs := 2, vars := [0, 1, 2, 3, 4], body := (.seq (.reg [{ o := .bx (.v 0) 3, d := some 2 }, { o := .bx (.v 1) 4, d := some 3 }, { o := .mv (.b false), d := some 4 }] []) (.seq (.ite [{ o := .ld (.v 2) 3 true }, { o := .ca N.ref34_blast 0 [] [.l 0] }, { o := .un .not (.l 0) }, { o := .mv (.l 0) }, { o := .fa (.v 3) 0, g := some (0, false) }, { o := .ld (.l 0) 1 false, g := some (1, false) }, { o := .bin .lss (.l 0) (.i 0), g := some (2, false) }, { o := .pk (.l 3) (.b true) (.l 0) }, { o := .mv (.l 0) }, { o := .fa (.v 3) 0, g := some (0, false) }, { o := .ld (.l 0) 1 false, g := some (1, false) }, { o := .bin .gtr (.l 0) (.i 4), g := some (2, false) }, { o := .pk (.l 3) (.b true) (.l 0) }, { o := .mv (.l 0) }, { o := .fa (.v 3) 3, g := some (0, false) }, { o := .ld (.l 0) 1 false, g := some (1, false) }, { o := .bin .lss (.l 0) (.i 0), g := some (2, false) }, { o := .pk (.l 3) (.b true) (.l 0) }, { o := .mv (.l 0) }, { o := .fa (.v 3) 3, g := some (0, false) }, { o := .ld (.l 0) 1 false, g := some (1, false) }, { o := .bin .gtr (.l 0) (.i 2147483648), g := some (2, false) }, { o := .pk (.l 3) (.b true) (.l 0) }] [] 0 (.seq (.reg [{ o := .mv (.b false), d := some 4 }] []) .ret) .skip) (.seq (.ite [{ o := .fa (.v 3) 0 }, { o := .ld (.l 0) 1 false }, { o := .bin .eql (.l 0) (.i 0) }] [] 0 (.seq (.reg [{ o := .ld (.v 3) 4 true }, { o := .bd [.t (.int .i64 (0)), .t (.int .i64 (0)), .t (.int .i64 (0)), .t (.int .i64 (0))] [] }, { o := .eqk (.ints 4) false (.l 1) (.l 0) }, { o := .mv (.l 0), d := some 4 }] []) .ret) .skip) (.seq (.ite [{ o := .fa (.v 3) 0 }, { o := .ld (.l 0) 1 false }, { o := .bin .eql (.l 0) (.i 1) }] [] 0 (.seq (.reg [{ o := .fa (.v 3) 1 }, { o := .ld (.l 0) 1 false }, { o := .bin .gtr (.l 0) (.i 0) }, { o := .mv (.l 0) }, { o := .fa (.v 3) 2, g := some (0, true) }, { o := .ld (.l 0) 1 false, g := some (1, true) }, { o := .bin .eql (.l 0) (.i 0), g := some (2, true) }, { o := .pk (.l 3) (.l 0) (.b false) }, { o := .mv (.l 0), d := some 4 }] []) .ret) .skip) (.seq (.reg [{ o := .fa (.v 3) 1 }, { o := .ld (.l 0) 1 false }, { o := .bin .gtr (.l 0) (.i 0) }, { o := .mv (.l 0) }, { o := .fa (.v 3) 2, g := some (0, true) }, { o := .ld (.l 0) 1 false, g := some (1, true) }, { o := .bin .gtr (.l 0) (.i 0), g := some (2, true) }, { o := .pk (.l 3) (.l 0) (.b false) }, { o := .mv (.l 0) }, { o := .fa (.v 3) 1, g := some (0, true) }, { o := .ld (.l 0) 1 false, g := some (1, true) }, { o := .fa (.v 3) 2, g := some (2, true) }, { o := .ld (.l 0) 1 false, g := some (3, true) }, { o := .bin .neq (.l 2) (.l 0), g := some (4, true) }, { o := .pk (.l 5) (.l 0) (.b false) }, { o := .mv (.l 0), d := some 4 }] []) .ret))))), res := [(4, none)] }
/-- /firing.Safe -/
def firing_Safe : Fn := { nargs := 3, vars := [0, 1, 2, 3, 4, 5, 6], body := (.seq (.reg [{ o := .bx (.v 0) 3, d := some 3 }, { o := .bx (.v 1) 3, d := some 4 }, { o := .bx (.v 2) 1, d := some 5 }, { o := .mv (.b false), d := some 6 }] []) (.seq (.reg [{ o := .ld (.v 3) 3 true }, { o := .bd [.t (.int .i64 (0)), .t (.int .i64 (0)), .t (.int .i64 (0)), .t (.int .i64 (0))] [] }, { o := .ca N.firing_Valid 0 [] [.l 1, .l 0] }, { o := .mv (.l 0) }, { o := .ld (.v 4) 3 true, g := some (0, true) }, { o := .ca N.keys_Valid 0 [] [.l 0], g := some (1, true) }, { o := .pk (.l 2) (.l 0) (.b false) }, { o := .mv (.l 0) }, { o := .fa (.v 4) 2, g := some (0, true) }, { o := .ld (.l 0) 1 false, g := some (1, true) }, { o := .pk (.l 2) (.l 0) (.b false) }, { o := .mv (.l 0) }, { o := .fa (.v 5) 0, g := some (0, true) }, { o := .ld (.l 0) 1 false, g := some (1, true) }, { o := .ln (.l 0), g := some (2, true) }, { o := .bin .gtr (.l 0) (.i 0), g := some (3, true) }, { o := .pk (.l 4) (.l 0) (.b false) }, { o := .mv (.l 0) }, { o := .ld (.v 5) 1 true, g := some (0, true) }, { o := .fa (.v 3) 0, g := some (1, true) }, { o := .ld (.l 0) 1 false, g := some (2, true) }, { o := .ca N.area_Clear 0 [] [.l 2, .l 0], g := some (3, true) }, { o := .pk (.l 4) (.l 0) (.b false) }, { o := .mv (.l 0), d := some 6 }] []) .ret)), res := [(6, none)] }
/-- /ref34.Safe -/
def ref34_Safe : Fn := { nargs := 3, vars := [0, 1, 2, 3, 4, 5, 6], body := (.seq (.reg [{ o := .bx (.v 0) 3, d := some 3 }, { o := .bx (.v 1) 3, d := some 4 }, { o := .bx (.v 2) 1, d := some 5 }, { o := .mv (.b false), d := some 6 }] []) (.seq (.reg [{ o := .ld (.v 3) 3 true }, { o := .ca N.ref34_blast 0 [] [.l 0] }, { o := .mv (.l 0) }, { o := .ld (.v 4) 3 true, g := some (0, true) }, { o := .ca N.ref33_Valid 0 [] [.l 0], g := some (1, true) }, { o := .pk (.l 2) (.l 0) (.b false) }, { o := .mv (.l 0) }, { o := .fa (.v 4) 2, g := some (0, true) }, { o := .ld (.l 0) 1 false, g := some (1, true) }, { o := .pk (.l 2) (.l 0) (.b false) }, { o := .mv (.l 0) }, { o := .fa (.v 5) 0, g := some (0, true) }, { o := .ld (.l 0) 1 false, g := some (1, true) }, { o := .ln (.l 0), g := some (2, true) }, { o := .bin .gtr (.l 0) (.i 0), g := some (3, true) }, { o := .pk (.l 4) (.l 0) (.b false) }, { o := .mv (.l 0) }, { o := .ld (.v 5) 1 true, g := some (0, true) }, { o := .fa (.v 3) 0, g := some (1, true) }, { o := .ld (.l 0) 1 false, g := some (2, true) }, { o := .ca N.ref32_Clear 0 [] [.l 2, .l 0], g := some (3, true) }, { o := .pk (.l 4) (.l 0) (.b false) }, { o := .mv (.l 0), d := some 6 }] []) .ret)), res := [(6, none)] }
/-- /ref34.Due -/
def ref34_Due : Fn := { nargs := 3, vars := [0, 1, 2, 3, 4, 6, 18, 19], body := (.seq (.reg [{ o := .bx (.v 0) 3, d := some 3 }, { o := .bx (.v 1) 4, d := some 4 }, { o := .mv (.i 0), d := some 5 }] []) (.seq (.ite [{ o := .ld (.v 3) 3 true }, { o := .ld (.v 4) 4 true }, { o := .ca N.ref34_Valid 0 [] [.l 1, .l 0] }, { o := .un .not (.l 0) }, { o := .mv (.l 0) }, { o := .mv (.v 2), g := some (0, false) }, { o := .fa (.v 4) 3, g := some (1, false) }, { o := .ld (.l 0) 1 false, g := some (2, false) }, { o := .bin .lss (.l 2) (.l 0), g := some (3, false) }, { o := .pk (.l 4) (.b true) (.l 0) }] [] 0 (.seq (.reg [{ o := .mv (.i 0), d := some 5 }] []) .ret) .skip) (.seq (.seq (.reg [{ o := .fa (.v 4) 0 }, { o := .ld (.l 0) 1 false, d := some 6 }] []) (.blk 0 (.seq (.seq (.reg [{ o := .bin .eql (.v 6) (.i 1) }, { o := .mv (.l 0), d := some 7 }] []) (.itv 7 .skip (.reg [{ o := .bin .eql (.v 6) (.i 2) }, { o := .mv (.l 0), d := some 7 }] []))) (.itv 7 (.seq (.reg [{ o := .fa (.v 3) 1 }, { o := .ld (.l 0) 1 false }, { o := .mv (.v 2) }, { o := .fa (.v 4) 3 }, { o := .ld (.l 0) 1 false }, { o := .bin .sub (.l 2) (.l 0) }, { o := .bin .sub (.l 4) (.l 0) }, { o := .mx [.i 0, .l 0] }, { o := .mv (.l 0), d := some 5 }] []) .ret) (.ite [{ o := .bin .eql (.v 6) (.i 4) }, { o := .mv (.l 0) }] [] 0 (.seq (.reg [{ o := .fa (.v 3) 2 }, { o := .ld (.l 0) 1 false }, { o := .mv (.v 2) }, { o := .fa (.v 4) 3 }, { o := .ld (.l 0) 1 false }, { o := .bin .sub (.l 2) (.l 0) }, { o := .bin .sub (.l 4) (.l 0) }, { o := .mx [.i 0, .l 0] }, { o := .mv (.l 0), d := some 5 }] []) .ret) .skip))))) (.seq (.reg [{ o := .mv (.i 0), d := some 5 }] []) .ret)))), res := [(5, none)] }
/-- (/firing.request).check -/
def firing_request_check : Fn := { nargs := 2, vars := [0, 1, 2, 4], body := (.seq (.reg [{ o := .bx (.v 0) 13, d := some 2 }, { o := .mv (.i 0), d := some 3 }] []) (.seq (.blk 0 (.ite [{ o := .fa (.v 2) 0 }, { o := .ld (.l 0) 3 true }, { o := .fa (.v 2) 3 }, { o := .ld (.l 0) 4 true }, { o := .ca N.firing_Valid 0 [] [.l 2, .l 0] }, { o := .un .not (.l 0) }, { o := .mv (.l 0) }] [] 0 (.seq (.reg [{ o := .mv (.i 6), d := some 3 }] []) .ret) (.ite [{ o := .fa (.v 2) 3 }, { o := .fa (.l 0) 0 }, { o := .ld (.l 0) 1 false }, { o := .fa (.v 2) 12 }, { o := .ld (.l 0) 1 false }, { o := .bin .neq (.l 2) (.l 0) }, { o := .mv (.l 0) }] [] 0 (.seq (.reg [{ o := .mv (.i 10), d := some 3 }] []) .ret) (.ite [{ o := .fa (.v 2) 11 }, { o := .ld (.l 0) 1 false }, { o := .bin .lss (.l 0) (.i 0) }, { o := .mv (.l 0) }, { o := .fa (.v 2) 3, g := some (0, false) }, { o := .ld (.l 0) 4 true, g := some (1, false) }, { o := .fa (.v 2) 11, g := some (2, false) }, { o := .ld (.l 0) 1 false, g := some (3, false) }, { o := .ca N.firing_timely 0 [] [.l 2, .l 0], g := some (4, false) }, { o := .un .not (.l 0), g := some (5, false) }, { o := .pk (.l 6) (.b true) (.l 0) }, { o := .mv (.l 0) }] [] 0 (.seq (.reg [{ o := .mv (.i 8), d := some 3 }] []) .ret) (.ite [{ o := .mv (.v 1) }, { o := .mv (.l 0) }] [] 0 (.seq (.reg [{ o := .mv (.i 19), d := some 3 }] []) .ret) (.ite [{ o := .fa (.v 2) 12 }, { o := .ld (.l 0) 1 false }, { o := .bin .neq (.l 0) (.i 0) }, { o := .mv (.l 0) }, { o := .fa (.v 2) 11, g := some (0, true) }, { o := .ld (.l 0) 1 false, g := some (1, true) }, { o := .fa (.v 2) 3, g := some (2, true) }, { o := .fa (.l 0) 3, g := some (3, true) }, { o := .ld (.l 0) 1 false, g := some (4, true) }, { o := .bin .sub (.l 3) (.l 0), g := some (5, true) }, { o := .fa (.v 2) 0, g := some (6, true) }, { o := .fa (.l 0) 1, g := some (7, true) }, { o := .ld (.l 0) 1 false, g := some (8, true) }, { o := .bin .gtr (.l 3) (.l 0), g := some (9, true) }, { o := .pk (.l 10) (.l 0) (.b false) }, { o := .mv (.l 0) }] [] 0 (.seq (.reg [{ o := .mv (.i 10), d := some 3 }] []) .ret) (.ite [{ o := .fa (.v 2) 7 }, { o := .ld (.l 0) 3 true }, { o := .ca N.keys_Valid 0 [] [.l 0] }, { o := .un .not (.l 0) }, { o := .mv (.l 0) }, { o := .fa (.v 2) 7, g := some (0, false) }, { o := .fa (.l 0) 2, g := some (1, false) }, { o := .ld (.l 0) 1 false, g := some (2, false) }, { o := .un .not (.l 0), g := some (3, false) }, { o := .pk (.l 4) (.b true) (.l 0) }, { o := .mv (.l 0) }] [] 0 (.seq (.reg [{ o := .mv (.i 48), d := some 3 }] []) .ret) (.ite [{ o := .fa (.v 2) 0 }, { o := .ld (.l 0) 3 true }, { o := .fa (.v 2) 7 }, { o := .ld (.l 0) 3 true }, { o := .fa (.v 2) 10 }, { o := .ld (.l 0) 1 true }, { o := .ca N.firing_Safe 0 [] [.l 4, .l 2, .l 0] }, { o := .un .not (.l 0) }, { o := .mv (.l 0) }] [] 0 (.seq (.reg [{ o := .mv (.i 49), d := some 3 }] []) .ret) .skip)))))))) (.seq (.reg [{ o := .mv (.i 0), d := some 3 }] []) .ret))), res := [(3, none)] }
/-- /firing.timely -/
def firing_timely : Fn := { nargs := 2, vars := [0, 1, 2, 4], body := (.seq (.reg [{ o := .bx (.v 0) 4, d := some 2 }, { o := .mv (.b false), d := some 3 }] []) (.seq (.reg [{ o := .mv (.v 1) }, { o := .fa (.v 2) 3 }, { o := .ld (.l 0) 1 false }, { o := .bin .geq (.l 2) (.l 0) }, { o := .mv (.l 0) }, { o := .mv (.v 1), g := some (0, true) }, { o := .bin .leq (.l 0) (.i 2147483648), g := some (1, true) }, { o := .pk (.l 2) (.l 0) (.b false) }, { o := .mv (.l 0), d := some 3 }] []) .ret)), res := [(3, none)] }
def lists_Rising_l1b : C := (.its  [{ o := .bin .lss (.v 8) (.v 7) }] [] 0 .skip (.exit 0) (.seq (.blk 1 (.seq (.reg [{ o := .mv (.v 8) }, { o := .ia (.v 6) (.v 8) 1 }, { o := .ld (.l 0) 1 false }, { o := .mv (.l 2), d := some 4 }, { o := .mv (.l 1), d := some 5 }] []) (.ite [{ o := .mv (.v 5) }, { o := .mv (.v 1) }, { o := .bin .lss (.l 1) (.l 0) }, { o := .mv (.l 0) }, { o := .mv (.v 5), g := some (0, false) }, { o := .mv (.v 2), g := some (1, false) }, { o := .bin .gtr (.l 1) (.l 0), g := some (2, false) }, { o := .pk (.l 3) (.b true) (.l 0) }, { o := .mv (.l 0) }, { o := .mv (.v 4), g := some (0, false) }, { o := .bin .gtr (.l 0) (.i 0), g := some (1, false) }, { o := .mv (.l 0), g := some (2, false) }, { o := .mv (.v 5), g := some (0, true) }, { o := .mv (.v 0), g := some (1, true) }, { o := .mv (.v 4), g := some (2, true) }, { o := .bin .sub (.l 0) (.i 1), g := some (3, true) }, { o := .ia (.l 2) (.l 0) 1, g := some (4, true) }, { o := .ld (.l 0) 1 false, g := some (5, true) }, { o := .bin .leq (.l 5) (.l 0), g := some (6, true) }, { o := .pk (.l 7) (.l 0) (.b false), g := some (10, false) }, { o := .pk (.l 11) (.b true) (.l 0) }] [] 0 (.seq (.reg [{ o := .mv (.b false), d := some 3 }] []) .ret) .skip))) (.reg [{ o := .bin .add (.v 8) (.i 1) }, { o := .mv (.l 0), d := some 8 }] [])))
def lists_Rising_l1 : C := .loop true [3, 4, 5] K.lists_Rising_l1b
/-- /lists.Rising -/
def lists_Rising : Fn := { nargs := 3, vars := [0, 1, 2, 6, 7, 8, 9, 10, 11], body := (.seq (.reg [{ o := .mv (.b false), d := some 3 }] []) (.seq (.seq (.reg [{ o := .mv (.v 0), d := some 6 }, { o := .ln (.l 0), d := some 7 }, { o := .mv (.i 0), d := some 8 }] []) (.blk 0 K.lists_Rising_l1)) (.seq (.reg [{ o := .mv (.b true), d := some 3 }] []) .ret))), res := [(3, none)] }
def ref32_Barred_l1b : C := (.seq (.ite [{ o := .mv (.v 5) }, { o := .mv (.v 1) }, { o := .ln (.l 0) }, { o := .bin .lss (.l 2) (.l 0) }] [] 0 .skip (.exit 0)) (.seq (.blk 1 (.reg [{ o := .fa (.v 2) 1 }, { o := .ld (.l 0) 1 false }, { o := .mv (.v 1) }, { o := .mv (.v 5) }, { o := .ia (.l 1) (.l 0) 1 }, { o := .ld (.l 0) 1 false }, { o := .ia (.l 4) (.l 0) 10 }, { o := .fa (.l 0) 4 }, { o := .st (.l 0) (.b false) 1 [] }] [])) (.reg [{ o := .mv (.v 5) }, { o := .bin .add (.l 0) (.i 1) }, { o := .mv (.l 0), d := some 5 }] [])))
def ref32_Barred_l1 : C := .loop true [0, 4] K.ref32_Barred_l1b
/-- /ref32.Barred -/
def ref32_Barred : Fn := { nargs := 2, vars := [0, 1, 2, 4, 5, 6], body := (.seq (.reg [{ o := .bx (.v 0) 2, d := some 2 }, { o := .al [.nil, .nil] [], d := some 3 }, { o := .mv (.i 0), d := some 4 }] []) (.seq (.ite [{ o := .ld (.v 2) 2 true }, { o := .ca N.ref01_Check 0 [] [.l 0] }, { o := .bin .neq (.l 0) (.i 0) }] [] 0 (.seq (.reg [{ o := .bd [.nil, .nil] [] }, { o := .st (.v 3) (.l 0) 2 [] }, { o := .mv (.i 6), d := some 4 }] []) .ret) .skip) (.seq (.ite [{ o := .mv (.v 1) }, { o := .fa (.v 2) 1 }, { o := .ld (.l 0) 1 false }, { o := .ln (.l 0) }, { o := .ca N.ref23_Set 0 [] [.l 3, .l 0] }, { o := .un .not (.l 0) }] [] 0 (.seq (.reg [{ o := .bd [.nil, .nil] [] }, { o := .st (.v 3) (.l 0) 2 [] }, { o := .mv (.i 4), d := some 4 }] []) .ret) .skip) (.seq (.reg [{ o := .ld (.v 2) 2 true }, { o := .ca N.ref31_Copy 1 [] [.l 0] }, { o := .st (.v 2) (.l 0) 2 [] }] []) (.seq (.seq (.reg [{ o := .mv (.i 0), d := some 5 }] []) (.blk 0 K.ref32_Barred_l1)) (.seq (.reg [{ o := .ld (.v 2) 2 true }, { o := .st (.v 3) (.l 0) 2 [] }, { o := .mv (.i 0), d := some 4 }] []) .ret)))))), res := [(3, some (2, true)), (4, none)] }
def ref32_seal_l1b : C := (.seq (.ite [{ o := .mv (.v 7) }, { o := .mv (.v 6) }, { o := .ln (.l 0) }, { o := .bin .lss (.l 2) (.l 0) }] [] 0 .skip (.exit 0)) (.seq (.blk 1 (.ite [{ o := .mv (.v 6) }, { o := .mv (.v 7) }, { o := .ia (.l 1) (.l 0) 1 }, { o := .ld (.l 0) 1 false }, { o := .mv (.v 2) }, { o := .bin .gtr (.l 1) (.l 0) }] [] 0 (.reg [{ o := .mv (.v 6) }, { o := .mv (.v 7) }, { o := .ia (.l 1) (.l 0) 1 }, { o := .st (.l 0) (.i 1099511627776) 1 [] }] []) .skip)) (.reg [{ o := .mv (.v 7) }, { o := .bin .add (.l 0) (.i 1) }, { o := .mv (.l 0), d := some 7 }] [])))
def ref32_seal_l1 : C := .loop true [0, 1, 4] K.ref32_seal_l1b
/-- /ref32.seal -/
def ref32_seal : Fn := { nargs := 3, vars := [0, 1, 2, 3, 4, 6, 7, 8], body := (.seq (.reg [{ o := .bx (.v 0) 2, d := some 3 }, { o := .bx (.v 1) 2, d := some 4 }, { o := .al [.t (.int .i64 (0)), .nil] [], d := some 5 }] []) (.seq (.reg [{ o := .fa (.v 4) 1 }, { o := .ld (.l 0) 1 false }, { o := .app (.c (.nil)) (.l 0) true 1 }, { o := .mv (.l 0), d := some 6 }] []) (.seq (.seq (.reg [{ o := .mv (.i 0), d := some 7 }] []) (.blk 0 K.ref32_seal_l1)) (.seq (.reg [{ o := .mv (.v 2) }, { o := .ld (.v 3) 2 true }, { o := .mv (.v 6) }, { o := .mv (.v 2) }, { o := .ca N.ref25_Close 0 [] [.l 2, .l 1, .l 0] }, { o := .bd [.t (.int .i64 (0)), .nil] [(0, 1, .l 4), (1, 1, .l 0)] }, { o := .st (.v 5) (.l 0) 2 [] }] []) .ret)))), res := [(5, some (2, true))] }
/-- /ref34.step -/
def ref34_step : Fn := { nargs := 7, vars := [0, 1, 2, 3, 4, 5, 6, 7, 8, 9, 10, 14], body := (.seq (.reg [{ o := .bx (.v 0) 3, d := some 7 }, { o := .bx (.v 1) 4, d := some 8 }, { o := .bx (.v 2) 3, d := some 9 }, { o := .bx (.v 3) 1, d := some 10 }, { o := .mv (.i 0), d := some 11 }] []) (.seq (.blk 0 (.ite [{ o := .ld (.v 7) 3 true }, { o := .ld (.v 8) 4 true }, { o := .ca N.ref34_Valid 0 [] [.l 1, .l 0] }, { o := .un .not (.l 0) }, { o := .mv (.l 0) }] [] 0 (.seq (.reg [{ o := .mv (.i 6), d := some 11 }] []) .ret) (.ite [{ o := .fa (.v 8) 0 }, { o := .ld (.l 0) 1 false }, { o := .mv (.v 4) }, { o := .bin .neq (.l 1) (.l 0) }, { o := .mv (.l 0) }] [] 0 (.seq (.reg [{ o := .mv (.i 10), d := some 11 }] []) .ret) (.ite [{ o := .mv (.v 6) }, { o := .bin .lss (.l 0) (.i 0) }, { o := .mv (.l 0) }, { o := .mv (.v 6), g := some (0, false) }, { o := .bin .gtr (.l 0) (.i 2147483648), g := some (1, false) }, { o := .pk (.l 2) (.b true) (.l 0) }, { o := .mv (.l 0) }, { o := .mv (.v 6), g := some (0, false) }, { o := .fa (.v 8) 3, g := some (1, false) }, { o := .ld (.l 0) 1 false, g := some (2, false) }, { o := .bin .lss (.l 2) (.l 0), g := some (3, false) }, { o := .pk (.l 4) (.b true) (.l 0) }, { o := .mv (.l 0) }] [] 0 (.seq (.reg [{ o := .mv (.i 8), d := some 11 }] []) .ret) (.ite [{ o := .mv (.v 5) }, { o := .bin .leq (.l 0) (.i 0) }, { o := .mv (.l 0) }, { o := .mv (.v 4), g := some (0, false) }, { o := .bin .eql (.l 0) (.i 1), g := some (1, false) }, { o := .mv (.l 0), g := some (2, false) }, { o := .mv (.v 5), g := some (0, true) }, { o := .fa (.v 8) 1, g := some (1, true) }, { o := .ld (.l 0) 1 false, g := some (2, true) }, { o := .bin .eql (.l 2) (.l 0), g := some (3, true) }, { o := .pk (.l 4) (.l 0) (.b false), g := some (7, false) }, { o := .pk (.l 8) (.b true) (.l 0) }, { o := .mv (.l 0) }] [] 0 (.seq (.reg [{ o := .mv (.i 19), d := some 11 }] []) .ret) (.ite [{ o := .mv (.v 4) }, { o := .bin .neq (.l 0) (.i 0) }, { o := .mv (.l 0) }, { o := .mv (.v 6), g := some (0, true) }, { o := .fa (.v 8) 3, g := some (1, true) }, { o := .ld (.l 0) 1 false, g := some (2, true) }, { o := .bin .sub (.l 2) (.l 0), g := some (3, true) }, { o := .fa (.v 7) 1, g := some (4, true) }, { o := .ld (.l 0) 1 false, g := some (5, true) }, { o := .bin .gtr (.l 2) (.l 0), g := some (6, true) }, { o := .pk (.l 7) (.l 0) (.b false) }, { o := .mv (.l 0) }] [] 0 (.seq (.reg [{ o := .mv (.i 10), d := some 11 }] []) .ret) (.ite [{ o := .ld (.v 9) 3 true }, { o := .ca N.ref33_Valid 0 [] [.l 0] }, { o := .un .not (.l 0) }, { o := .mv (.l 0) }, { o := .fa (.v 9) 2, g := some (0, false) }, { o := .ld (.l 0) 1 false, g := some (1, false) }, { o := .un .not (.l 0), g := some (2, false) }, { o := .pk (.l 3) (.b true) (.l 0) }, { o := .mv (.l 0) }] [] 0 (.seq (.reg [{ o := .mv (.i 48), d := some 11 }] []) .ret) (.ite [{ o := .ld (.v 7) 3 true }, { o := .ld (.v 9) 3 true }, { o := .ld (.v 10) 1 true }, { o := .ca N.ref34_Safe 0 [] [.l 2, .l 1, .l 0] }, { o := .un .not (.l 0) }, { o := .mv (.l 0) }] [] 0 (.seq (.reg [{ o := .mv (.i 49), d := some 11 }] []) .ret) .skip)))))))) (.seq (.reg [{ o := .mv (.i 0), d := some 11 }] []) .ret))), res := [(11, none)] }
/-- /ref34.blast -/
def ref34_blast : Fn := { nargs := 1, vars := [0, 1, 2], body := (.seq (.reg [{ o := .bx (.v 0) 3, d := some 1 }, { o := .mv (.b false), d := some 2 }] []) (.seq (.reg [{ o := .fa (.v 1) 0 }, { o := .ld (.l 0) 1 false }, { o := .ln (.l 0) }, { o := .bin .gtr (.l 0) (.i 0) }, { o := .mv (.l 0) }, { o := .fa (.v 1) 0, g := some (0, true) }, { o := .ld (.l 0) 1 false, g := some (1, true) }, { o := .ca N.ref23_Set 0 [] [.l 0, .i 64], g := some (2, true) }, { o := .pk (.l 3) (.l 0) (.b false) }, { o := .mv (.l 0) }, { o := .fa (.v 1) 1, g := some (0, true) }, { o := .ld (.l 0) 1 false, g := some (1, true) }, { o := .bin .geq (.l 0) (.i 1), g := some (2, true) }, { o := .pk (.l 3) (.l 0) (.b false) }, { o := .mv (.l 0) }, { o := .fa (.v 1) 1, g := some (0, true) }, { o := .ld (.l 0) 1 false, g := some (1, true) }, { o := .bin .leq (.l 0) (.i 100000), g := some (2, true) }, { o := .pk (.l 3) (.l 0) (.b false) }, { o := .mv (.l 0) }, { o := .fa (.v 1) 2, g := some (0, true) }, { o := .ld (.l 0) 1 false, g := some (1, true) }, { o := .bin .geq (.l 0) (.i 1), g := some (2, true) }, { o := .pk (.l 3) (.l 0) (.b false) }, { o := .mv (.l 0) }, { o := .fa (.v 1) 2, g := some (0, true) }, { o := .ld (.l 0) 1 false, g := some (1, true) }, { o := .bin .leq (.l 0) (.i 100000), g := some (2, true) }, { o := .pk (.l 3) (.l 0) (.b false) }, { o := .mv (.l 0), d := some 2 }] []) .ret)), res := [(2, none)] }
/-- /keys.Valid -/
def keys_Valid : Fn := { nargs := 1, vars := [0, 1, 2, 3], body := (.seq (.reg [{ o := .bx (.v 0) 3, d := some 1 }, { o := .mv (.b false), d := some 2 }] []) (.seq (.reg [{ o := .mv (.c (.fn N.keys_Valid_1 [])), d := some 3 }] []) (.seq (.reg [{ o := .fa (.v 1) 0 }, { o := .ld (.l 0) 1 false }, { o := .ca N.keys_roads 0 [] [.l 0] }, { o := .mv (.l 0) }, { o := .fa (.v 1) 1, g := some (0, true) }, { o := .ld (.l 0) 1 false, g := some (1, true) }, { o := .ln (.l 0), g := some (2, true) }, { o := .fa (.v 1) 0, g := some (3, true) }, { o := .ld (.l 0) 1 false, g := some (4, true) }, { o := .ln (.l 0), g := some (5, true) }, { o := .bin .eql (.l 3) (.l 0), g := some (6, true) }, { o := .pk (.l 7) (.l 0) (.b false) }, { o := .mv (.l 0) }, { o := .fa (.v 1) 1, g := some (0, true) }, { o := .ld (.l 0) 1 false, g := some (1, true) }, { o := .mv (.v 3), g := some (2, true) }, { o := .ca N.slices_ContainsFunc_int_int 0 [] [.l 1, .l 0], g := some (3, true) }, { o := .un .not (.l 0), g := some (4, true) }, { o := .pk (.l 5) (.l 0) (.b false) }, { o := .mv (.l 0) }, { o := .fa (.v 1) 2, g := some (0, true) }, { o := .ld (.l 0) 1 false, g := some (1, true) }, { o := .un .not (.l 0), g := some (2, true) }, { o := .mv (.l 0), g := some (3, true) }, { o := .ld (.v 1) 3 true, g := some (0, false) }, { o := .ca N.keys_boxed 0 [] [.l 0], g := some (1, false) }, { o := .pk (.l 2) (.b true) (.l 0), g := some (6, true) }, { o := .pk (.l 7) (.l 0) (.b false) }, { o := .mv (.l 0), d := some 2 }] []) .ret))), res := [(2, none)] }
def area_Clear_l2b : C := (.its  [{ o := .bin .lss (.v 11) (.v 10) }] [] 0 .skip (.exit 2) (.seq (.blk 3 (.seq (.reg [{ o := .ia (.v 9) (.v 11) 2 }, { o := .ld (.l 0) 2 true }, { o := .al [.t (.int .i64 (0)), .nil] [], d := some 5 }, { o := .st (.l 0) (.l 1) 2 [] }] []) (.ite [{ o := .mv (.v 1) }, { o := .mf N.area_Clear_1 [.v 5] }, { o := .ca N.slices_ContainsFunc_int_int 0 [] [.l 1, .l 0] }] [] 0 (.seq (.reg [{ o := .mv (.b false), d := some 3 }] []) .ret) .skip))) (.reg [{ o := .bin .add (.v 11) (.i 1) }, { o := .mv (.l 0), d := some 11 }] [])))
def area_Clear_l2 : C := .loop true [0, 2, 3, 4, 5] K.area_Clear_l2b
def area_Clear_l1b : C := (.its  [{ o := .bin .lss (.v 8) (.v 7) }] [] 0 .skip (.exit 0) (.seq (.blk 1 (.seq (.reg [{ o := .ia (.v 6) (.v 8) 2 }, { o := .ld (.l 0) 2 true }, { o := .al [.nil, .nil] [], d := some 4 }, { o := .st (.l 0) (.l 1) 2 [] }] []) (.seq (.reg [{ o := .fa (.v 4) 1 }, { o := .ld (.l 0) 1 false, d := some 9 }, { o := .ln (.l 0), d := some 10 }, { o := .mv (.i 0), d := some 11 }] []) (.blk 2 K.area_Clear_l2)))) (.reg [{ o := .bin .add (.v 8) (.i 1) }, { o := .mv (.l 0), d := some 8 }] [])))
def area_Clear_l1 : C := .loop true [0, 2, 3, 4, 5, 9, 10, 11] K.area_Clear_l1b
/-- /area.Clear -/
def area_Clear : Fn := { nargs := 2, vars := [0, 1, 2, 4, 6, 8, 10, 11, 12, 17, 18, 19], body := (.seq (.reg [{ o := .bx (.v 0) 1, d := some 2 }, { o := .mv (.b false), d := some 3 }] []) (.seq (.seq (.reg [{ o := .fa (.v 2) 0 }, { o := .ld (.l 0) 1 false, d := some 6 }, { o := .ln (.l 0), d := some 7 }, { o := .mv (.i 0), d := some 8 }] []) (.blk 0 K.area_Clear_l1)) (.seq (.reg [{ o := .mv (.b true), d := some 3 }] []) .ret))), res := [(3, none)] }
def ref33_Valid_l1b : C := (.seq (.ite [{ o := .mv (.v 3) }, { o := .fa (.v 1) 1 }, { o := .ld (.l 0) 1 false }, { o := .ln (.l 0) }, { o := .bin .lss (.l 3) (.l 0) }] [] 0 .skip (.exit 0)) (.seq (.blk 1 (.ite [{ o := .fa (.v 1) 1 }, { o := .ld (.l 0) 1 false }, { o := .mv (.v 3) }, { o := .ia (.l 1) (.l 0) 1 }, { o := .ld (.l 0) 1 false }, { o := .bin .lss (.l 0) (.i 0) }, { o := .mv (.l 0) }, { o := .fa (.v 1) 1, g := some (0, false) }, { o := .ld (.l 0) 1 false, g := some (1, false) }, { o := .mv (.v 3), g := some (2, false) }, { o := .ia (.l 1) (.l 0) 1, g := some (3, false) }, { o := .ld (.l 0) 1 false, g := some (4, false) }, { o := .bin .gtr (.l 0) (.i 2), g := some (5, false) }, { o := .pk (.l 6) (.b true) (.l 0) }, { o := .mv (.l 0) }, { o := .fa (.v 1) 2, g := some (0, false) }, { o := .ld (.l 0) 1 false, g := some (1, false) }, { o := .mv (.l 0), g := some (2, false) }, { o := .fa (.v 1) 1, g := some (0, true) }, { o := .ld (.l 0) 1 false, g := some (1, true) }, { o := .mv (.v 3), g := some (2, true) }, { o := .ia (.l 1) (.l 0) 1, g := some (3, true) }, { o := .ld (.l 0) 1 false, g := some (4, true) }, { o := .bin .neq (.l 0) (.i 2), g := some (5, true) }, { o := .pk (.l 6) (.l 0) (.b false), g := some (9, false) }, { o := .pk (.l 10) (.b true) (.l 0) }] [] 0 (.seq (.reg [{ o := .mv (.b false), d := some 2 }] []) .ret) .skip)) (.reg [{ o := .mv (.v 3) }, { o := .bin .add (.l 0) (.i 1) }, { o := .mv (.l 0), d := some 3 }] [])))
def ref33_Valid_l1 : C := .loop true [0, 2] K.ref33_Valid_l1b
/-- /ref33.Valid -/
def ref33_Valid : Fn := { nargs := 1, vars := [0, 1, 2, 3], body := (.seq (.reg [{ o := .bx (.v 0) 3, d := some 1 }, { o := .mv (.b false), d := some 2 }] []) (.seq (.ite [{ o := .fa (.v 1) 0 }, { o := .ld (.l 0) 1 false }, { o := .ln (.l 0) }, { o := .bin .lss (.l 0) (.i 1) }, { o := .mv (.l 0) }, { o := .fa (.v 1) 0, g := some (0, false) }, { o := .ld (.l 0) 1 false, g := some (1, false) }, { o := .ln (.l 0), g := some (2, false) }, { o := .bin .gtr (.l 0) (.i 12), g := some (3, false) }, { o := .pk (.l 4) (.b true) (.l 0) }, { o := .mv (.l 0) }, { o := .fa (.v 1) 0, g := some (0, false) }, { o := .ld (.l 0) 1 false, g := some (1, false) }, { o := .ca N.ref23_Set 0 [] [.l 0, .i 128], g := some (2, false) }, { o := .un .not (.l 0), g := some (3, false) }, { o := .pk (.l 4) (.b true) (.l 0) }, { o := .mv (.l 0) }, { o := .fa (.v 1) 1, g := some (0, false) }, { o := .ld (.l 0) 1 false, g := some (1, false) }, { o := .ln (.l 0), g := some (2, false) }, { o := .fa (.v 1) 0, g := some (3, false) }, { o := .ld (.l 0) 1 false, g := some (4, false) }, { o := .ln (.l 0), g := some (5, false) }, { o := .bin .neq (.l 3) (.l 0), g := some (6, false) }, { o := .pk (.l 7) (.b true) (.l 0) }] [] 0 (.seq (.reg [{ o := .mv (.b false), d := some 2 }] []) .ret) .skip) (.seq (.seq (.reg [{ o := .mv (.i 0), d := some 3 }] []) (.blk 0 K.ref33_Valid_l1)) (.seq (.reg [{ o := .mv (.b true), d := some 2 }] []) .ret)))), res := [(2, none)] }
def ref32_Clear_l3b : C := (.seq (.ite [{ o := .mv (.v 7) }, { o := .mv (.v 6) }, { o := .ln (.l 0) }, { o := .bin .lss (.l 2) (.l 0) }] [] 0 .skip (.exit 4)) (.seq (.blk 5 (.ite [{ o := .mv (.v 1) }, { o := .mv (.v 7) }, { o := .ca N.ref23_Has 0 [] [.l 1, .l 0] }, { o := .mv (.l 0) }, { o := .mv (.v 6), g := some (0, true) }, { o := .mv (.v 7), g := some (1, true) }, { o := .ia (.l 1) (.l 0) 1, g := some (2, true) }, { o := .ld (.l 0) 1 false, g := some (3, true) }, { o := .bin .neq (.l 0) (.i 1099511627776), g := some (4, true) }, { o := .pk (.l 5) (.l 0) (.b false) }] [] 0 (.seq (.reg [{ o := .mv (.b false), d := some 3 }] []) .ret) .skip)) (.reg [{ o := .mv (.v 7) }, { o := .bin .add (.l 0) (.i 1) }, { o := .mv (.l 0), d := some 7 }] [])))
def ref32_Clear_l3 : C := .loop true [0, 3] K.ref32_Clear_l3b
def ref32_Clear_l2b : C := (.seq (.ite [{ o := .mv (.v 5) }, { o := .fa (.v 2) 0 }, { o := .ld (.l 0) 1 false }, { o := .mv (.v 4) }, { o := .ia (.l 1) (.l 0) 2 }, { o := .fa (.l 0) 1 }, { o := .ld (.l 0) 1 false }, { o := .ln (.l 0) }, { o := .bin .lss (.l 7) (.l 0) }] [] 0 .skip (.exit 2)) (.seq (.blk 3 (.seq (.reg [{ o := .fa (.v 2) 0 }, { o := .ld (.l 0) 1 false }, { o := .mv (.v 4) }, { o := .ia (.l 1) (.l 0) 2 }, { o := .fa (.l 0) 1 }, { o := .ld (.l 0) 1 false }, { o := .mv (.v 5) }, { o := .ia (.l 1) (.l 0) 2 }, { o := .fa (.l 0) 1 }, { o := .ld (.l 0) 1 false }, { o := .mv (.l 0), d := some 6 }] []) (.seq (.reg [{ o := .mv (.i 0), d := some 7 }] []) (.blk 4 K.ref32_Clear_l3)))) (.reg [{ o := .mv (.v 5) }, { o := .bin .add (.l 0) (.i 1) }, { o := .mv (.l 0), d := some 5 }] [])))
def ref32_Clear_l2 : C := .loop true [0, 3, 6, 7] K.ref32_Clear_l2b
def ref32_Clear_l1b : C := (.seq (.ite [{ o := .mv (.v 4) }, { o := .fa (.v 2) 0 }, { o := .ld (.l 0) 1 false }, { o := .ln (.l 0) }, { o := .bin .lss (.l 3) (.l 0) }] [] 0 .skip (.exit 0)) (.seq (.blk 1 (.seq (.reg [{ o := .mv (.i 0), d := some 5 }] []) (.blk 2 K.ref32_Clear_l2))) (.reg [{ o := .mv (.v 4) }, { o := .bin .add (.l 0) (.i 1) }, { o := .mv (.l 0), d := some 4 }] [])))
def ref32_Clear_l1 : C := .loop true [0, 3, 5, 6, 7] K.ref32_Clear_l1b
/-- /ref32.Clear -/
def ref32_Clear : Fn := { nargs := 2, vars := [0, 1, 2, 4, 5, 6, 7, 8], body := (.seq (.reg [{ o := .bx (.v 0) 1, d := some 2 }, { o := .mv (.b false), d := some 3 }] []) (.seq (.seq (.reg [{ o := .mv (.i 0), d := some 4 }] []) (.blk 0 K.ref32_Clear_l1)) (.seq (.reg [{ o := .mv (.b true), d := some 3 }] []) .ret))), res := [(3, none)] }
/-- /ref31.Copy -/
def ref31_Copy : Fn := { nargs := 1, vars := [0, 1, 2], body := (.seq (.reg [{ o := .bx (.v 0) 2, d := some 1 }, { o := .al [.nil, .nil] [], d := some 2 }] []) (.seq (.reg [{ o := .fa (.v 1) 0 }, { o := .ld (.l 0) 1 false }, { o := .app (.c (.nil)) (.l 0) true 2 }, { o := .fa (.v 1) 1 }, { o := .ld (.l 0) 1 false }, { o := .app (.c (.nil)) (.l 0) true 10 }, { o := .bd [.nil, .nil] [(0, 1, .l 3), (1, 1, .l 0)] }, { o := .st (.v 2) (.l 0) 2 [] }] [(4, 0)]) .ret)), res := [(2, some (2, true))] }
/-- /keys.Valid.1 -/
def keys_Valid_1 : Fn := { nargs := 1, vars := [0, 2], body := (.seq (.reg [{ o := .mv (.b false), d := some 1 }] []) (.seq (.reg [{ o := .mv (.v 0) }, { o := .ca N.lists_In 0 [] [.l 0, .i 0, .i 2] }, { o := .un .not (.l 0) }, { o := .mv (.l 0), d := some 1 }] []) .ret)), res := [(1, none)] }
/-- /keys.roads -/
def keys_roads : Fn := { nargs := 1, vars := [0, 2], body := (.seq (.reg [{ o := .mv (.b false), d := some 1 }] []) (.seq (.reg [{ o := .mv (.v 0) }, { o := .ln (.l 0) }, { o := .ca N.lists_In 0 [] [.l 0, .i 1, .i 12] }, { o := .mv (.l 0) }, { o := .mv (.v 0), g := some (0, true) }, { o := .ca N.lists_Rising 0 [] [.l 0, .i 0, .i 127], g := some (1, true) }, { o := .pk (.l 2) (.l 0) (.b false) }, { o := .mv (.l 0), d := some 1 }] []) .ret)), res := [(1, none)] }
/-- /keys.boxed -/
def keys_boxed : Fn := { nargs := 1, vars := [0, 1, 2], body := (.seq (.reg [{ o := .bx (.v 0) 3, d := some 1 }, { o := .mv (.b false), d := some 2 }] []) (.seq (.reg [{ o := .fa (.v 1) 1 }, { o := .ld (.l 0) 1 false }, { o := .ca N.slices_ContainsFunc_int_int 0 [] [.l 0, .c (.fn N.keys_boxed_1 [])] }, { o := .un .not (.l 0) }, { o := .mv (.l 0), d := some 2 }] []) .ret)), res := [(2, none)] }
/-- /area.Clear.1 -/
def area_Clear_1 : Fn := { nargs := 2, vars := [0, 1, 3], body := (.seq (.reg [{ o := .mv (.b false), d := some 2 }] []) (.seq (.reg [{ o := .mv (.v 0) }, { o := .fa (.v 1) 1 }, { o := .ld (.l 0) 1 false }, { o := .ln (.l 0) }, { o := .bin .sub (.l 0) (.i 1) }, { o := .ca N.lists_In 0 [] [.l 4, .i 0, .l 0] }, { o := .mv (.l 0) }, { o := .fa (.v 1) 1, g := some (0, true) }, { o := .ld (.l 0) 1 false, g := some (1, true) }, { o := .mv (.v 0), g := some (2, true) }, { o := .ia (.l 1) (.l 0) 1, g := some (3, true) }, { o := .ld (.l 0) 1 false, g := some (4, true) }, { o := .bin .neq (.l 0) (.i 1099511627776), g := some (5, true) }, { o := .pk (.l 6) (.l 0) (.b false) }, { o := .mv (.l 0), d := some 2 }] []) .ret)), res := [(2, none)] }
/-- /keys.boxed.1 -/
def keys_boxed_1 : Fn := { nargs := 1, vars := [0, 2], body := (.seq (.reg [{ o := .mv (.b false), d := some 1 }] []) (.seq (.reg [{ o := .mv (.v 0) }, { o := .bin .neq (.l 0) (.i 2) }, { o := .mv (.l 0), d := some 1 }] []) .ret)), res := [(1, none)] }
def ref26_Copy_v1_l1b : C := (.seq (.ite [{ o := .mv (.v 4) }, { o := .fa (.v 1) 0 }, { o := .ld (.l 0) 1 false }, { o := .ln (.l 0) }, { o := .bin .lss (.l 3) (.l 0) }] [] 0 .skip (.exit 0)) (.seq (.blk 1 (.reg [{ o := .fa (.v 3) 0 }, { o := .ld (.l 0) 1 false }, { o := .fa (.v 1) 0 }, { o := .ld (.l 0) 1 false }, { o := .mv (.v 4) }, { o := .ia (.l 1) (.l 0) 2 }, { o := .ld (.l 0) 2 true }, { o := .ca N.ref26_CopyWorld 1 [] [.l 0] }, { o := .bsr [.l 0] 2 }, { o := .app (.l 7) (.l 0) false 2 }, { o := .fa (.v 3) 0 }, { o := .st (.l 0) (.l 1) 1 [] }] [(1, 8), (1, 9)])) (.reg [{ o := .mv (.v 4) }, { o := .bin .add (.l 0) (.i 1) }, { o := .mv (.l 0), d := some 4 }] [])))
def ref26_Copy_v1_l1 : C := .loop false [0] K.ref26_Copy_v1_l1b
/-- /ref26.Copy -/
def ref26_Copy_v1 : Fn := { nargs := 1, vars := [0, 1, 2, 3, 4], body := (.seq (.reg [{ o := .bx (.v 0) 1, d := some 1 }, { o := .al [.nil] [], d := some 2 }] []) (.seq (.reg [{ o := .al [.nil] [(0, 2)], d := some 3 }] []) (.seq (.seq (.reg [{ o := .mv (.i 0), d := some 4 }] []) (.blk 0 K.ref26_Copy_v1_l1)) (.seq (.reg [{ o := .ld (.v 3) 1 true }, { o := .st (.v 2) (.l 0) 1 [] }] []) .ret)))), res := [(2, some (1, true))] }
def ref26_Copy_v2_l1b : C := (.seq (.ite [{ o := .mv (.v 4) }, { o := .fa (.v 1) 0 }, { o := .ld (.l 0) 1 false }, { o := .ln (.l 0) }, { o := .bin .lss (.l 3) (.l 0) }] [] 0 .skip (.exit 0)) (.seq (.blk 1 (.reg [{ o := .fa (.v 3) 0 }, { o := .ld (.l 0) 1 false }, { o := .fa (.v 1) 0 }, { o := .ld (.l 0) 1 false }, { o := .mv (.v 4) }, { o := .ia (.l 1) (.l 0) 2 }, { o := .ld (.l 0) 2 true }, { o := .ca N.ref26_CopyWorld_v2 2 [] [.l 0] }, { o := .bsr [.l 0] 2 }, { o := .app (.l 7) (.l 0) false 2 }, { o := .fa (.v 3) 0 }, { o := .st (.l 0) (.l 1) 1 [] }] [(1, 8), (1, 9)])) (.reg [{ o := .mv (.v 4) }, { o := .bin .add (.l 0) (.i 1) }, { o := .mv (.l 0), d := some 4 }] [])))
def ref26_Copy_v2_l1 : C := .loop false [0] K.ref26_Copy_v2_l1b
/-- /ref26.Copy -/
def ref26_Copy_v2 : Fn := { nargs := 1, vars := [0, 1, 2, 3, 4], body := (.seq (.reg [{ o := .bx (.v 0) 1, d := some 1 }, { o := .al [.nil] [], d := some 2 }] []) (.seq (.reg [{ o := .al [.nil] [(0, 2)], d := some 3 }] []) (.seq (.seq (.reg [{ o := .mv (.i 0), d := some 4 }] []) (.blk 0 K.ref26_Copy_v2_l1)) (.seq (.reg [{ o := .ld (.v 3) 1 true }, { o := .st (.v 2) (.l 0) 1 [] }] []) .ret)))), res := [(2, some (1, true))] }
def ref26_CopyWorld_v2_l1b : C := (.seq (.ite [{ o := .mv (.v 4) }, { o := .fa (.v 1) 1 }, { o := .ld (.l 0) 1 false }, { o := .ln (.l 0) }, { o := .bin .lss (.l 3) (.l 0) }] [] 0 .skip (.exit 0)) (.seq (.blk 1 (.reg [{ o := .fa (.v 3) 1 }, { o := .ld (.l 0) 1 false }, { o := .fa (.v 1) 1 }, { o := .ld (.l 0) 1 false }, { o := .mv (.v 4) }, { o := .ia (.l 1) (.l 0) 2 }, { o := .ld (.l 0) 2 true }, { o := .ca N.ref25_Copy 1 [] [.l 0] }, { o := .bsr [.l 0] 2 }, { o := .app (.l 7) (.l 0) false 2 }, { o := .fa (.v 3) 1 }, { o := .st (.l 0) (.l 1) 1 [] }] [(1, 8), (1, 9)])) (.reg [{ o := .mv (.v 4) }, { o := .bin .add (.l 0) (.i 1) }, { o := .mv (.l 0), d := some 4 }] [])))
def ref26_CopyWorld_v2_l1 : C := .loop false [0] K.ref26_CopyWorld_v2_l1b
/-- /ref26.CopyWorld -/
def ref26_CopyWorld_v2 : Fn := { nargs := 1, vars := [0, 1, 2, 3, 4], body := (.seq (.reg [{ o := .bx (.v 0) 2, d := some 1 }, { o := .al [.nil, .nil] [], d := some 2 }] []) (.seq (.reg [{ o := .fa (.v 1) 0 }, { o := .ld (.l 0) 1 false }, { o := .app (.c (.nil)) (.l 0) false 1 }, { o := .bd [.nil, .nil] [(0, 1, .l 0)] }, { o := .al [.nil, .nil] [(1, 2)], d := some 3 }, { o := .st (.l 0) (.l 1) 2 [(1, 2)] }] []) (.seq (.seq (.reg [{ o := .mv (.i 0), d := some 4 }] []) (.blk 0 K.ref26_CopyWorld_v2_l1)) (.seq (.reg [{ o := .ld (.v 3) 2 true }, { o := .st (.v 2) (.l 0) 2 [] }] []) .ret)))), res := [(2, some (2, true))] }
end Go.Ev.K
namespace Go.Ev
class Has4 [Lib] : Prop where
  t_ref34_Valid : Lib.fs N.ref34_Valid = some K.ref34_Valid
  t_firing_Safe : Lib.fs N.firing_Safe = some K.firing_Safe
  t_ref34_Safe : Lib.fs N.ref34_Safe = some K.ref34_Safe
  t_ref34_Due : Lib.fs N.ref34_Due = some K.ref34_Due
  t_firing_request_check : Lib.fs N.firing_request_check = some K.firing_request_check
  t_firing_timely : Lib.fs N.firing_timely = some K.firing_timely
  t_lists_Rising : Lib.fs N.lists_Rising = some K.lists_Rising
  t_ref32_Barred : Lib.fs N.ref32_Barred = some K.ref32_Barred
  t_ref32_seal : Lib.fs N.ref32_seal = some K.ref32_seal
  t_ref34_step : Lib.fs N.ref34_step = some K.ref34_step
  t_ref34_blast : Lib.fs N.ref34_blast = some K.ref34_blast
  t_keys_Valid : Lib.fs N.keys_Valid = some K.keys_Valid
  t_area_Clear : Lib.fs N.area_Clear = some K.area_Clear
  t_ref33_Valid : Lib.fs N.ref33_Valid = some K.ref33_Valid
  t_ref32_Clear : Lib.fs N.ref32_Clear = some K.ref32_Clear
  t_ref31_Copy : Lib.fs N.ref31_Copy = some K.ref31_Copy
  t_keys_Valid_1 : Lib.fs N.keys_Valid_1 = some K.keys_Valid_1
  t_keys_roads : Lib.fs N.keys_roads = some K.keys_roads
  t_keys_boxed : Lib.fs N.keys_boxed = some K.keys_boxed
  t_area_Clear_1 : Lib.fs N.area_Clear_1 = some K.area_Clear_1
  t_keys_boxed_1 : Lib.fs N.keys_boxed_1 = some K.keys_boxed_1
  t_ref26_Copy_v1 : Lib.fs N.ref26_Copy_v1 = some K.ref26_Copy_v1
  t_ref26_Copy_v2 : Lib.fs N.ref26_Copy_v2 = some K.ref26_Copy_v2
  t_ref26_CopyWorld_v2 : Lib.fs N.ref26_CopyWorld_v2 = some K.ref26_CopyWorld_v2
namespace K
variable [Lib] [Has4]
theorem t_ref34_Valid : Lib.fs N.ref34_Valid = some K.ref34_Valid := Has4.t_ref34_Valid
theorem t_firing_Safe : Lib.fs N.firing_Safe = some K.firing_Safe := Has4.t_firing_Safe
theorem t_ref34_Safe : Lib.fs N.ref34_Safe = some K.ref34_Safe := Has4.t_ref34_Safe
theorem t_ref34_Due : Lib.fs N.ref34_Due = some K.ref34_Due := Has4.t_ref34_Due
theorem t_firing_request_check : Lib.fs N.firing_request_check = some K.firing_request_check := Has4.t_firing_request_check
theorem t_firing_timely : Lib.fs N.firing_timely = some K.firing_timely := Has4.t_firing_timely
theorem t_lists_Rising : Lib.fs N.lists_Rising = some K.lists_Rising := Has4.t_lists_Rising
theorem t_ref32_Barred : Lib.fs N.ref32_Barred = some K.ref32_Barred := Has4.t_ref32_Barred
theorem t_ref32_seal : Lib.fs N.ref32_seal = some K.ref32_seal := Has4.t_ref32_seal
theorem t_ref34_step : Lib.fs N.ref34_step = some K.ref34_step := Has4.t_ref34_step
theorem t_ref34_blast : Lib.fs N.ref34_blast = some K.ref34_blast := Has4.t_ref34_blast
theorem t_keys_Valid : Lib.fs N.keys_Valid = some K.keys_Valid := Has4.t_keys_Valid
theorem t_area_Clear : Lib.fs N.area_Clear = some K.area_Clear := Has4.t_area_Clear
theorem t_ref33_Valid : Lib.fs N.ref33_Valid = some K.ref33_Valid := Has4.t_ref33_Valid
theorem t_ref32_Clear : Lib.fs N.ref32_Clear = some K.ref32_Clear := Has4.t_ref32_Clear
theorem t_ref31_Copy : Lib.fs N.ref31_Copy = some K.ref31_Copy := Has4.t_ref31_Copy
theorem t_keys_Valid_1 : Lib.fs N.keys_Valid_1 = some K.keys_Valid_1 := Has4.t_keys_Valid_1
theorem t_keys_roads : Lib.fs N.keys_roads = some K.keys_roads := Has4.t_keys_roads
theorem t_keys_boxed : Lib.fs N.keys_boxed = some K.keys_boxed := Has4.t_keys_boxed
theorem t_area_Clear_1 : Lib.fs N.area_Clear_1 = some K.area_Clear_1 := Has4.t_area_Clear_1
theorem t_keys_boxed_1 : Lib.fs N.keys_boxed_1 = some K.keys_boxed_1 := Has4.t_keys_boxed_1
theorem t_ref26_Copy_v1 : Lib.fs N.ref26_Copy_v1 = some K.ref26_Copy_v1 := Has4.t_ref26_Copy_v1
theorem t_ref26_Copy_v2 : Lib.fs N.ref26_Copy_v2 = some K.ref26_Copy_v2 := Has4.t_ref26_Copy_v2
theorem t_ref26_CopyWorld_v2 : Lib.fs N.ref26_CopyWorld_v2 = some K.ref26_CopyWorld_v2 := Has4.t_ref26_CopyWorld_v2
end K
end Go.Ev

/- Shots: what the program and the reference say. -/
namespace Go.Ev
open Go
variable [Lib] [Has1] [Has2] [Has3] [Has4]

def risP (l : List Int) (lo hi : Int) (j : Nat) : Bool := !decide (lo ≤ nth l j ∧ nth l j ≤ hi ∧ (0 < j → nth l (j - 1) < nth l j))
def risB (l : List Int) (lo hi : Int) : Bool := !((List.range l.length).any (risP l lo hi))
theorem rising_ok (l : List Int) (lo hi : Int) (hl : l.length ≤ 4294967296) : CALL 0 N.lists_Rising [.t (tL l), I lo, I hi] [] = some (B (risB l lo hi), []) := by
  refine CALL_of K.t_lists_Rising rfl ?_
  have loop : ∀ a b c : D, exS CALL K.lists_Rising_l1 ⟨[.t (tL l), I lo, I hi, a, b, c, .t (tL l), I l.length, I 0], []⟩ =
      some (if (List.range l.length).any (risP l lo hi) = true
        then (.ret, ⟨[.t (tL l), I lo, I hi, B false, I (firstN l.length (risP l lo hi)), I (nth l (firstN l.length (risP l lo hi))), .t (tL l), I l.length, I (firstN l.length (risP l lo hi))], []⟩)
        else (.exit 0, ⟨[.t (tL l), I lo, I hi, .und, .und, .und, .t (tL l), I l.length, I l.length], []⟩)) := by
    intro a b c
    refine loop_srch (fun j => ⟨[.t (tL l), I lo, I hi, .und, .und, .und, .t (tL l), I l.length, I j], []⟩) l.length (risP l lo hi) (fun j => (.ret, ⟨[.t (tL l), I lo, I hi, B false, I j, I (nth l j), .t (tL l), I l.length, I j], []⟩)) _ rfl ?_ ?_ ?_ (by simp)
    · intro j hj hp
      simp only [risP, Bool.not_eq_false', decide_eq_true_eq] at hp
      obtain ⟨h1, h2, h3⟩ := hp
      cases j with
      | zero => simp (disch := omega) only [go_sem, K.lists_Rising_l1b, ↓reduceIte]
      | succ j =>
        have h3 := h3 (by omega)
        rw [Nat.add_sub_cancel] at h3
        simp (disch := omega) only [go_sem, K.lists_Rising_l1b, ↓reduceIte]
    · intro j hj hp
      simp only [risP, Bool.not_eq_true', decide_eq_false_iff_not] at hp
      refine ⟨?_, by simp⟩
      by_cases h1 : lo ≤ nth l j
      · by_cases h2 : nth l j ≤ hi
        · cases j with
          | zero => exact absurd ⟨h1, h2, fun h => absurd h (by omega)⟩ hp
          | succ j =>
            have h3 : ¬ nth l j < nth l (j + 1) := fun h => hp ⟨h1, h2, fun _ => by simpa using h⟩
            simp (disch := omega) only [go_sem, K.lists_Rising_l1b, ↓reduceIte]
        · simp (disch := omega) only [go_sem, K.lists_Rising_l1b, ↓reduceIte]
      · simp (disch := omega) only [go_sem, K.lists_Rising_l1b, ↓reduceIte]
    · simp (disch := omega) only [go_sem, K.lists_Rising_l1b, ↓reduceIte]
  unfold risB
  simp (disch := omega) only [go_sem, K.lists_Rising, ↓reduceIte, loop]
  cases hf : (List.range l.length).any (risP l lo hi) with
  | true => simp (disch := omega) only [go_sem, ↓reduceIte]
  | false => simp (disch := omega) only [go_sem, ↓reduceIte, Bool.false_eq_true]
theorem ris_set (l : List Int) (n : Int) : risB l 0 (n - 1) = setB l n := by
  unfold risB setB
  rw [all_rng]
  refine congrArg (!·) (congrArg _ (funext fun j => ?_))
  unfold risP
  refine congrArg (!·) (decide_eq_decide.2 ⟨fun h => ⟨h.1, by omega, h.2.2⟩, fun h => ⟨h.1, by omega, h.2.2⟩⟩)

structure Shot where
  st : Int
  fi : Int
  se : Int
  ti : Int
abbrev Shot.e (s : Shot) : T := .agg [tI s.st, tI s.fi, tI s.se, tI s.ti]
structure Blast where
  area : List Int
  hold : Int
  mis : Int
abbrev Blast.e (x : Blast) : T := .agg [tL x.area, tI x.hold, tI x.mis]
structure Keys where
  roads : List Int
  keys : List Int
  out : Bool
abbrev Keys.e (k : Keys) : T := .agg [tL k.roads, tL k.keys, .bool k.out]

/- keys -/
theorem kvalid1_ok (x : Int) : CALL 0 N.keys_Valid_1 [I x] [] = some (B (!decide (0 ≤ x ∧ x ≤ 2)), []) := by
  refine CALL_of K.t_keys_Valid_1 rfl ?_
  have i := in_ok x 0 2
  simp (disch := omega) only [go_sem, K.keys_Valid_1, ↓reduceIte, i]
theorem kboxed1_ok (x : Int) : CALL 0 N.keys_boxed_1 [I x] [] = some (B (!decide (x = 2)), []) := by
  refine CALL_of K.t_keys_boxed_1 rfl ?_
  simp (disch := omega) only [go_sem, K.keys_boxed_1, ↓reduceIte]
  simp
def boxedF (l : List Int) : Bool := !l.any fun x => !decide (x = 2)
theorem kboxed_ok (k : Keys) (hl : k.keys.length ≤ 4294967296) : CALL 0 N.keys_boxed [.t k.e] [] = some (B (boxedF k.keys), []) := by
  refine CALL_of K.t_keys_boxed rfl ?_
  have c : CALL 0 N.slices_ContainsFunc_int_int [.t (tL k.keys), .fn N.keys_boxed_1 []] [] = some (B (k.keys.any fun x => !decide (x = 2)), []) := containsFunc_ok k.keys hl N.keys_boxed_1 [] (fun x => !decide (x = 2)) (fun x _ => kboxed1_ok x)
  unfold boxedF
  generalize (k.keys.any fun x => !decide (x = 2)) = r at *
  obtain ⟨roads, keys, out⟩ := k
  simp only at *
  simp (disch := omega) only [go_sem, K.keys_boxed, ↓reduceIte, c]
def kroadsF (l : List Int) : Bool := decide (1 ≤ (l.length : Int) ∧ (l.length : Int) ≤ 12) && risB l 0 127
theorem kroads_ok (l : List Int) (hl : l.length ≤ 4294967296) : CALL 0 N.keys_roads [.t (tL l)] [] = some (B (kroadsF l), []) := by
  refine CALL_of K.t_keys_roads rfl ?_
  have i := in_ok l.length 1 12
  have r := rising_ok l 0 127 hl
  unfold kroadsF
  generalize risB l 0 127 = rr at *
  cases h : decide (1 ≤ (l.length : Int) ∧ (l.length : Int) ≤ 12) <;> rw [h] at i <;> simp (disch := omega) only [go_sem, K.keys_roads, ↓reduceIte, i, r]
def keysF (k : Keys) : Bool := kroadsF k.roads && decide (k.keys.length = k.roads.length) && !(k.keys.any fun x => !decide (0 ≤ x ∧ x ≤ 2)) && (!k.out || boxedF k.keys)
theorem kvalid_ok (k : Keys) (hl : k.keys.length ≤ 4294967296) (hr : k.roads.length ≤ 4294967296) : CALL 0 N.keys_Valid [.t k.e] [] = some (B (keysF k), []) := by
  refine CALL_of K.t_keys_Valid rfl ?_
  have a := kroads_ok k.roads hr
  have b := kboxed_ok k hl
  have c : CALL 0 N.slices_ContainsFunc_int_int [.t (tL k.keys), .fn N.keys_Valid_1 []] [] = some (B (k.keys.any fun x => !decide (0 ≤ x ∧ x ≤ 2)), []) := containsFunc_ok k.keys hl N.keys_Valid_1 [] (fun x => !decide (0 ≤ x ∧ x ≤ 2)) (fun x _ => kvalid1_ok x)
  unfold keysF
  generalize (k.keys.any fun x => !decide (0 ≤ x ∧ x ≤ 2)) = r at *
  obtain ⟨roads, keys, out⟩ := k
  simp only at *
  generalize kroadsF roads = r1 at *
  generalize boxedF keys = r2 at *
  by_cases e : keys.length = roads.length <;> cases r1 <;> cases r <;> cases out <;> simp (disch := omega) only [go_sem, K.keys_Valid, ↓reduceIte, a, b, c, e]

/- shots -/
def stateF (s : Shot) : Bool := if s.st = 0 then decide (s.fi = 0 ∧ s.se = 0 ∧ s.ti = 0) else if s.st = 1 then decide (0 < s.fi ∧ s.se = 0)
  else if s.st = 2 ∨ s.st = 3 ∨ s.st = 4 then decide (0 < s.fi ∧ 0 < s.se ∧ s.fi ≠ s.se) else false
def shotF (x : Blast) (s : Shot) : Bool := !decide (x.area.length = 0) && risB x.area 0 63 && decide (1 ≤ x.hold ∧ x.hold ≤ 100000) && decide (1 ≤ x.mis ∧ x.mis ≤ 100000) && decide (0 ≤ s.ti ∧ s.ti ≤ 2147483648) && stateF s

theorem fvalid_ok (x : Blast) (hl : x.area.length ≤ 4294967296) (s : Shot) : CALL 0 N.firing_Valid [.t x.e, .t s.e] [] = some (B (shotF x s), []) := by
  refine CALL_of K.t_firing_Valid rfl ?_
  have r := rising_ok x.area 0 63 hl
  have i1 := in_ok x.hold 1 100000
  have i2 := in_ok x.mis 1 100000
  have i3 := in_ok s.ti 0 2147483648
  unfold shotF
  generalize risB x.area 0 63 = b1 at *
  generalize decide (1 ≤ x.hold ∧ x.hold ≤ 100000) = b2 at *
  generalize decide (1 ≤ x.mis ∧ x.mis ≤ 100000) = b3 at *
  generalize decide (0 ≤ s.ti ∧ s.ti ≤ 2147483648) = b4 at *
  obtain ⟨area, hold, mis⟩ := x
  obtain ⟨st, fi, se, ti⟩ := s
  simp only at *
  by_cases e : area.length = 0
  · simp (disch := omega) only [go_sem, K.firing_Valid, ↓reduceIte, e]
  cases b1
  · simp (disch := omega) only [go_sem, K.firing_Valid, ↓reduceIte, e, r]
  cases b2
  · simp (disch := omega) only [go_sem, K.firing_Valid, ↓reduceIte, e, r, i1]
  cases b3
  · simp (disch := omega) only [go_sem, K.firing_Valid, ↓reduceIte, e, r, i1, i2]
  cases b4
  · simp (disch := omega) only [go_sem, K.firing_Valid, ↓reduceIte, e, r, i1, i2, i3]
  unfold stateF
  simp only
  by_cases s0 : st = 0
  · subst s0
    by_cases c1 : fi = 0 <;> by_cases c2 : se = 0 <;> by_cases c3 : ti = 0 <;> simp (disch := omega) only [go_sem, K.firing_Valid, ↓reduceIte, e, r, i1, i2, i3]
  by_cases s1 : st = 1
  · subst s1
    by_cases c1 : 0 < fi <;> by_cases c2 : se = 0 <;> simp (disch := omega) only [go_sem, K.firing_Valid, ↓reduceIte, e, r, i1, i2, i3, s0]
  by_cases s2 : st = 2
  · subst s2
    by_cases c1 : 0 < fi <;> by_cases c2 : 0 < se <;> by_cases c3 : fi = se <;> simp (disch := omega) only [go_sem, K.firing_Valid, ↓reduceIte, e, r, i1, i2, i3, s0, s1]
  by_cases s3 : st = 3
  · subst s3
    by_cases c1 : 0 < fi <;> by_cases c2 : 0 < se <;> by_cases c3 : fi = se <;> simp (disch := omega) only [go_sem, K.firing_Valid, ↓reduceIte, e, r, i1, i2, i3, s0, s1, s2]
  by_cases s4 : st = 4
  · subst s4
    by_cases c1 : 0 < fi <;> by_cases c2 : 0 < se <;> by_cases c3 : fi = se <;> simp (disch := omega) only [go_sem, K.firing_Valid, ↓reduceIte, e, r, i1, i2, i3, s0, s1, s2, s3]
  · simp (disch := omega) only [go_sem, K.firing_Valid, ↓reduceIte, e, r, i1, i2, i3, s0, s1, s2, s3, s4]

theorem timely_ok (s : Shot) (t : Int) : CALL 0 N.firing_timely [.t s.e, I t] [] = some (B (decide (s.ti ≤ t ∧ t ≤ 2147483648)), []) := by
  refine CALL_of K.t_firing_timely rfl ?_
  obtain ⟨st, fi, se, ti⟩ := s
  simp only at *
  by_cases c1 : ti ≤ t <;> by_cases c2 : t ≤ 2147483648 <;> simp (disch := omega) only [go_sem, K.firing_timely, ↓reduceIte]

end Go.Ev

/- Shots: clear areas, and the steps. -/
namespace Go.Ev
open Go
variable [Lib] [Has1] [Has2] [Has3] [Has4]

abbrev never : Int := 1099511627776
abbrev Wh.box (w : Wh) : Obj := .box [I w.time, .t (tL w.frm)]
def clrP (w : Wh) (p : Int) : Bool := decide (0 ≤ p ∧ p ≤ (w.frm.length : Int) - 1) && !decide (nth w.frm p.toNat = never)
theorem clear1_ok (w : Wh) (hw : w.frm.length ≤ 4294967296) (p : Int) : CALL 0 N.area_Clear_1 [I p, .bp 0 0] [w.box] = some (B (clrP w p), [w.box]) := by
  refine CALL_of K.t_area_Clear_1 rfl ?_
  have i := in_ok p 0 ((w.frm.length : Int) - 1)
  unfold clrP
  obtain ⟨time, frm⟩ := w
  simp only at *
  by_cases h : 0 ≤ p ∧ p ≤ (frm.length : Int) - 1
  · simp only [h, and_self, decide_true] at i
    obtain ⟨h1, h2⟩ := h
    have g : (frm.map (T.int .i64))[p.toNat]? = some (tI (nth frm p.toNat)) := map_nth _ (by omega)
    by_cases c : nth frm p.toNat = never
    · simp (disch := omega) only [go_sem, K.area_Clear_1, ↓reduceIte, i, g, Nat.reduceAdd, Nat.reduceSub]
    · simp (disch := omega) only [go_sem, K.area_Clear_1, ↓reduceIte, i, g, Nat.reduceAdd, Nat.reduceSub]
  · simp only [h, decide_false] at i
    simp only [h, decide_false, Bool.false_and]
    simp (disch := omega) only [go_sem, K.area_Clear_1, ↓reduceIte, i, Nat.reduceAdd, Nat.reduceSub]

def clrW (area : List Int) (ws : List Wh) (k : Nat) : Bool := area.any (clrP (nth ws k))
def clrB (area : List Int) (xs : List World) (i : Nat) : Bool := (List.range (nth xs i).whr.length).any (clrW area (nth xs i).whr)
def clearF (b : Bel) (area : List Int) : Bool := !(List.range b.worlds.length).any (clrB area b.worlds)

abbrev tW (ws : List Wh) : T := .sl (ws.map Wh.e)
abbrev tX (xs : List World) : T := .sl (xs.map World.e)
theorem clear2_ok (area : List Int) (ha : area.length ≤ 4294967296) (xs : List World) (tags : List Int) (ws : List Wh) (hw : ws.length ≤ 1000000) (hf : ∀ w ∈ ws, w.frm.length ≤ 1000000) (i : Nat) (a b c d e : D) :
    exS CALL K.area_Clear_l2 ⟨[a, .t (tL area), b, c, d, e, .t (tX xs), I xs.length, I i, .t (tW ws), I ws.length, I 0], [.box [.t (tX xs)], .box [.t (tL tags), .t (tW ws)]]⟩ =
    some (if (List.range ws.length).any (clrW area ws) = true
      then (.ret, ⟨[.und, .t (tL area), .und, B false, .und, .bp 2 0, .t (tX xs), I xs.length, I i, .t (tW ws), I ws.length, I (firstN ws.length (clrW area ws))], [.box [.t (tX xs)], .box [.t (tL tags), .t (tW ws)], (nth ws (firstN ws.length (clrW area ws))).box]⟩)
      else (.exit 2, ⟨[.und, .t (tL area), .und, .und, .und, .und, .t (tX xs), I xs.length, I i, .t (tW ws), I ws.length, I ws.length], [.box [.t (tX xs)], .box [.t (tL tags), .t (tW ws)]]⟩)) := by
  refine loop_srch (fun k => ⟨[.und, .t (tL area), .und, .und, .und, .und, .t (tX xs), I xs.length, I i, .t (tW ws), I ws.length, I k], [.box [.t (tX xs)], .box [.t (tL tags), .t (tW ws)]]⟩) ws.length (clrW area ws)
    (fun k => (.ret, ⟨[.und, .t (tL area), .und, B false, .und, .bp 2 0, .t (tX xs), I xs.length, I i, .t (tW ws), I ws.length, I k], [.box [.t (tX xs)], .box [.t (tL tags), .t (tW ws)], (nth ws k).box]⟩)) _ rfl ?_ ?_ ?_ (by simp)
  · intro k hk hp
    have g : (ws.map Wh.e)[k]? = some (nth ws k).e := map_nth _ hk
    have f := hf _ (nth_mem hk)
    unfold clrW at hp
    have cf : CALL 0 N.slices_ContainsFunc_int_int [.t (tL area), .fn N.area_Clear_1 [.bp 0 0]] [(nth ws k).box] = some (B (area.any (clrP (nth ws k))), [(nth ws k).box]) :=
      containsFunc_ok area ha N.area_Clear_1 [[tI (nth ws k).time, tL (nth ws k).frm]] (clrP (nth ws k)) (fun p _ => clear1_ok (nth ws k) (by omega) p)
    rw [hp] at cf
    generalize nth ws k = w at *
    obtain ⟨time, frm⟩ := w
    simp only [Wh.box] at *
    simp (disch := omega) only [go_sem, K.area_Clear_l2b, ↓reduceIte, g, cf, Nat.reduceAdd, Nat.reduceSub]
  · intro k hk hp
    refine ⟨?_, by simp⟩
    have g : (ws.map Wh.e)[k]? = some (nth ws k).e := map_nth _ hk
    have f := hf _ (nth_mem hk)
    unfold clrW at hp
    have cf : CALL 0 N.slices_ContainsFunc_int_int [.t (tL area), .fn N.area_Clear_1 [.bp 0 0]] [(nth ws k).box] = some (B (area.any (clrP (nth ws k))), [(nth ws k).box]) :=
      containsFunc_ok area ha N.area_Clear_1 [[tI (nth ws k).time, tL (nth ws k).frm]] (clrP (nth ws k)) (fun p _ => clear1_ok (nth ws k) (by omega) p)
    rw [hp] at cf
    generalize nth ws k = w at *
    obtain ⟨time, frm⟩ := w
    simp only [Wh.box] at *
    simp (disch := omega) only [go_sem, K.area_Clear_l2b, ↓reduceIte, g, cf, Nat.reduceAdd, Nat.reduceSub]
  · simp (disch := omega) only [go_sem, K.area_Clear_l2b, ↓reduceIte, Nat.reduceAdd, Nat.reduceSub]

theorem clear_ok (b : Bel) (hb : b.sz) (area : List Int) (ha : area.length ≤ 4294967296) : CALL 0 N.area_Clear [.t b.e, .t (tL area)] [] = some (B (clearF b area), []) := by
  refine CALL_of K.t_area_Clear rfl ?_
  obtain ⟨xs⟩ := b
  obtain ⟨hb1, hb2⟩ := hb
  simp only at hb1 hb2
  have loop : ∀ a b c e f g : D, exS CALL K.area_Clear_l1 ⟨[.t (Bel.mk xs).e, .t (tL area), .bp 0 0, a, b, c, .t (tX xs), I xs.length, I 0, e, f, g], [.box [.t (tX xs)]]⟩ =
      some (if (List.range xs.length).any (clrB area xs) = true
        then (fun j => (.ret, ⟨[.und, .t (tL area), .und, B false, .und, .bp 2 0, .t (tX xs), I xs.length, I j, .t (tW (nth xs j).whr), I (nth xs j).whr.length, I (firstN (nth xs j).whr.length (clrW area (nth xs j).whr))],
          [.box [.t (tX xs)], .box [.t (tL (nth xs j).tags), .t (tW (nth xs j).whr)], (nth (nth xs j).whr (firstN (nth xs j).whr.length (clrW area (nth xs j).whr))).box]⟩) : Nat → Ex × St) (firstN xs.length (clrB area xs))
        else (.exit 0, ⟨[.und, .t (tL area), .und, .und, .und, .und, .t (tX xs), I xs.length, I xs.length, .und, .und, .und], [.box [.t (tX xs)]]⟩)) := by
    intro a b c e f g
    refine loop_srch (fun j => ⟨[.und, .t (tL area), .und, .und, .und, .und, .t (tX xs), I xs.length, I j, .und, .und, .und], [.box [.t (tX xs)]]⟩) xs.length (clrB area xs)
      (fun j => (.ret, ⟨[.und, .t (tL area), .und, B false, .und, .bp 2 0, .t (tX xs), I xs.length, I j, .t (tW (nth xs j).whr), I (nth xs j).whr.length, I (firstN (nth xs j).whr.length (clrW area (nth xs j).whr))],
          [.box [.t (tX xs)], .box [.t (tL (nth xs j).tags), .t (tW (nth xs j).whr)], (nth (nth xs j).whr (firstN (nth xs j).whr.length (clrW area (nth xs j).whr))).box]⟩)) _ rfl ?_ ?_ ?_ (by simp)
    · intro j hj hp
      have g1 : (xs.map World.e)[j]? = some (nth xs j).e := map_nth _ hj
      obtain ⟨s1, s2, s3⟩ := hb2 _ (nth_mem hj)
      have l2 := fun a b c d e => clear2_ok area ha xs (nth xs j).tags (nth xs j).whr s2 s3 j a b c d e
      unfold clrB at hp
      rw [hp] at l2
      simp only [Bool.false_eq_true, ↓reduceIte] at l2
      generalize nth xs j = x at *
      obtain ⟨tags, whr⟩ := x
      simp only at *
      simp (disch := omega) only [go_sem, K.area_Clear_l1b, ↓reduceIte, g1, l2, Nat.reduceAdd, Nat.reduceSub]
    · intro j hj hp
      refine ⟨?_, by simp⟩
      have g1 : (xs.map World.e)[j]? = some (nth xs j).e := map_nth _ hj
      obtain ⟨s1, s2, s3⟩ := hb2 _ (nth_mem hj)
      have l2 := fun a b c d e => clear2_ok area ha xs (nth xs j).tags (nth xs j).whr s2 s3 j a b c d e
      unfold clrB at hp
      rw [hp] at l2
      simp only [↓reduceIte] at l2
      generalize nth xs j = x at *
      obtain ⟨tags, whr⟩ := x
      simp only at *
      simp (disch := omega) only [go_sem, K.area_Clear_l1b, ↓reduceIte, g1, l2, Nat.reduceAdd, Nat.reduceSub]
    · simp (disch := omega) only [go_sem, K.area_Clear_l1b, ↓reduceIte, Nat.reduceAdd, Nat.reduceSub]
  unfold clearF
  simp (disch := omega) only [go_sem, K.area_Clear, ↓reduceIte, loop, Nat.reduceAdd, Nat.reduceSub]
  cases hf : (List.range xs.length).any (clrB area xs) with
  | true =>
    simp (disch := omega) only [go_sem, ↓reduceIte, Nat.reduceAdd, Nat.reduceSub]
  | false => simp (disch := omega) only [go_sem, ↓reduceIte, Bool.false_eq_true, Nat.reduceAdd, Nat.reduceSub]
end Go.Ev

/- Shots: the steps. -/
namespace Go.Ev
open Go
variable [Lib] [Has1] [Has2] [Has3] [Has4]

def safeF (x : Blast) (k : Keys) (b : Bel) : Bool := shotF x ⟨0, 0, 0, 0⟩ && keysF k && k.out && decide (0 < b.worlds.length) && clearF b x.area
theorem safe_ok (x : Blast) (k : Keys) (b : Bel) (hx : x.area.length ≤ 1000000) (hk : k.roads.length ≤ 1000000) (hk2 : k.keys.length ≤ 1000000) (hb : b.sz) : CALL 0 N.firing_Safe [.t x.e, .t k.e, .t b.e] [] = some (B (safeF x k b), []) := by
  refine CALL_of K.t_firing_Safe rfl ?_
  have v := fvalid_ok x (by omega) ⟨0, 0, 0, 0⟩
  have kv := kvalid_ok k (by omega) (by omega)
  have cl := clear_ok b hb x.area (by omega)
  unfold safeF
  generalize shotF x ⟨0, 0, 0, 0⟩ = r1 at *
  generalize keysF k = r2 at *
  generalize clearF b x.area = r3 at *
  have b1 := hb.1
  clear hb
  obtain ⟨area, hold, mis⟩ := x
  obtain ⟨roads, keys, out⟩ := k
  obtain ⟨xs⟩ := b
  simp only [Shot.e] at *
  cases r1
  · simp (disch := omega) only [go_sem, K.firing_Safe, ↓reduceIte, v, Nat.reduceAdd, Nat.reduceSub]
  cases r2
  · simp (disch := omega) only [go_sem, K.firing_Safe, ↓reduceIte, v, kv, Nat.reduceAdd, Nat.reduceSub]
  cases out
  · simp (disch := omega) only [go_sem, K.firing_Safe, ↓reduceIte, v, kv, Nat.reduceAdd, Nat.reduceSub]
  by_cases c : 0 < xs.length
  · simp (disch := omega) only [go_sem, K.firing_Safe, ↓reduceIte, v, kv, cl, Nat.reduceAdd, Nat.reduceSub]
  · simp (disch := omega) only [go_sem, K.firing_Safe, ↓reduceIte, v, kv, Nat.reduceAdd, Nat.reduceSub]

theorem shotF_b {x : Blast} {s : Shot} (h : shotF x s = true) : 1 ≤ x.hold ∧ x.hold ≤ 100000 ∧ 1 ≤ x.mis ∧ x.mis ≤ 100000 ∧ 0 ≤ s.ti ∧ s.ti ≤ 2147483648 := by
  simp only [shotF, Bool.and_eq_true, decide_eq_true_eq] at h
  omega

structure Req where
  x : Blast
  s : Shot
  k : Keys
  b : Bel
  t : Int
  from_ : Int
abbrev Req.e (r : Req) : T := .agg [tL r.x.area, tI r.x.hold, tI r.x.mis, tI r.s.st, tI r.s.fi, tI r.s.se, tI r.s.ti, tL r.k.roads, tL r.k.keys, .bool r.k.out, .sl (r.b.worlds.map World.e), tI r.t, tI r.from_]
def checkF (r : Req) (odd : Bool) : Int :=
  if shotF r.x r.s = false then 6 else if r.s.st ≠ r.from_ then 10 else if r.t < 0 ∨ ¬ (r.s.ti ≤ r.t ∧ r.t ≤ 2147483648) then 8 else if odd = true then 19 else
  if r.from_ ≠ 0 ∧ r.x.hold < r.t - r.s.ti then 10 else if keysF r.k = false ∨ r.k.out = false then 48 else if safeF r.x r.k r.b = false then 49 else 0
structure Req.sz (r : Req) : Prop where
  hx : r.x.area.length ≤ 1000000
  hk : r.k.roads.length ≤ 1000000
  hk2 : r.k.keys.length ≤ 1000000
  hb : r.b.sz
theorem fcheck_ok (r : Req) (hr : r.sz) (odd : Bool) : CALL 0 N.firing_request_check [.t r.e, B odd] [] = some (I (checkF r odd), []) := by
  refine CALL_of K.t_firing_request_check rfl ?_
  have v := fvalid_ok r.x (by have := hr.hx; omega) r.s
  have kv := kvalid_ok r.k (by have := hr.hk2; omega) (by have := hr.hk; omega)
  have sv := safe_ok r.x r.k r.b hr.hx hr.hk hr.hk2 hr.hb
  have tm := timely_ok r.s r.t
  have sb := shotF_b (x := r.x) (s := r.s)
  unfold checkF
  clear hr
  generalize shotF r.x r.s = r1 at *
  generalize keysF r.k = r2 at *
  generalize safeF r.x r.k r.b = r3 at *
  obtain ⟨⟨area, hold, mis⟩, ⟨st, fi, se, ti⟩, ⟨roads, keys, out⟩, ⟨xs⟩, t, fr⟩ := r
  simp only [Shot.e] at *
  cases r1
  · simp (disch := omega) only [go_sem, K.firing_request_check, ↓reduceIte, v, Nat.reduceAdd, Nat.reduceSub]
  have sb := sb rfl
  by_cases c1 : st = fr
  rotate_left
  · simp (disch := omega) only [go_sem, K.firing_request_check, ↓reduceIte, v, c1, Nat.reduceAdd, Nat.reduceSub, ne_eq, not_false_eq_true, reduceCtorEq]
  by_cases c2 : t < 0
  · simp (disch := omega) only [go_sem, K.firing_request_check, ↓reduceIte, v, c2, Nat.reduceAdd, Nat.reduceSub, ne_eq, not_true_eq_false, not_false_eq_true, reduceCtorEq, true_or]
  by_cases c3 : ti ≤ t ∧ t ≤ 2147483648
  rotate_left
  · simp only [c3, decide_false] at tm
    simp (disch := omega) only [go_sem, K.firing_request_check, ↓reduceIte, v, c2, c3, tm, Nat.reduceAdd, Nat.reduceSub, ne_eq, not_true_eq_false, not_false_eq_true, reduceCtorEq, or_true]
  simp only [c3, and_self, decide_true] at tm
  cases odd
  rotate_left
  · simp (disch := omega) only [go_sem, K.firing_request_check, ↓reduceIte, v, c2, c3, tm, Nat.reduceAdd, Nat.reduceSub, ne_eq, not_true_eq_false, not_false_eq_true, reduceCtorEq, and_self, or_self]
  by_cases c4 : fr = 0
  · subst c4
    cases r2
    · simp (disch := omega) only [go_sem, K.firing_request_check, ↓reduceIte, v, c2, c3, tm, kv, Nat.reduceAdd, Nat.reduceSub, ne_eq, not_true_eq_false, not_false_eq_true, reduceCtorEq, and_self, or_self, false_and, true_or]
    cases out
    · simp (disch := omega) only [go_sem, K.firing_request_check, ↓reduceIte, v, c2, c3, tm, kv, Nat.reduceAdd, Nat.reduceSub, ne_eq, not_true_eq_false, not_false_eq_true, reduceCtorEq, and_self, or_self, false_and, or_true]
    cases r3 <;> simp (disch := omega) only [go_sem, K.firing_request_check, ↓reduceIte, v, c2, c3, tm, kv, sv, Nat.reduceAdd, Nat.reduceSub, ne_eq, not_true_eq_false, not_false_eq_true, reduceCtorEq, and_self, or_self, false_and]
  · by_cases c5 : hold < t - ti
    · simp (disch := omega) only [go_sem, K.firing_request_check, ↓reduceIte, v, c2, c3, tm, c4, c5, Nat.reduceAdd, Nat.reduceSub, ne_eq, not_true_eq_false, not_false_eq_true, reduceCtorEq, and_self, or_self]
    cases r2
    · simp (disch := omega) only [go_sem, K.firing_request_check, ↓reduceIte, v, c2, c3, tm, kv, c4, c5, Nat.reduceAdd, Nat.reduceSub, ne_eq, not_true_eq_false, not_false_eq_true, reduceCtorEq, and_self, or_self, and_false, true_or]
    cases out
    · simp (disch := omega) only [go_sem, K.firing_request_check, ↓reduceIte, v, c2, c3, tm, kv, c4, c5, Nat.reduceAdd, Nat.reduceSub, ne_eq, not_true_eq_false, not_false_eq_true, reduceCtorEq, and_self, or_self, and_false, or_true]
    cases r3 <;> simp (disch := omega) only [go_sem, K.firing_request_check, ↓reduceIte, v, c2, c3, tm, kv, sv, c4, c5, Nat.reduceAdd, Nat.reduceSub, ne_eq, not_true_eq_false, not_false_eq_true, reduceCtorEq, and_self, or_self, and_false]
def armF (x : Blast) (s : Shot) (k : Keys) (b : Bel) (role t : Int) : Shot × Int :=
  if checkF ⟨x, s, k, b, t, 0⟩ (decide (role ≤ 0)) ≠ 0 then (s, checkF ⟨x, s, k, b, t, 0⟩ (decide (role ≤ 0))) else (⟨1, role, 0, t⟩, 0)
def agreeF (x : Blast) (s : Shot) (k : Keys) (b : Bel) (role t : Int) : Shot × Int :=
  if checkF ⟨x, s, k, b, t, 1⟩ (decide (role ≤ 0) || decide (role = s.fi)) ≠ 0 then (s, checkF ⟨x, s, k, b, t, 1⟩ (decide (role ≤ 0) || decide (role = s.fi))) else (⟨2, s.fi, role, t⟩, 0)
def fireF (x : Blast) (s : Shot) (k : Keys) (b : Bel) (t : Int) (fails : Bool) : Shot × Int :=
  if checkF ⟨x, s, k, b, t, 2⟩ false ≠ 0 then (s, checkF ⟨x, s, k, b, t, 2⟩ false) else (⟨if fails = true then 4 else 3, s.fi, s.se, t⟩, 0)
def abortF (x : Blast) (s : Shot) (t : Int) : Shot × Int :=
  if shotF x s = false then (s, 6) else if s.st = 0 then (s, 10) else if ¬ (s.ti ≤ t ∧ t ≤ 2147483648) then (s, 8) else if s.st = 4 ∧ t - s.ti < x.mis then (s, 10) else (⟨0, 0, 0, 0⟩, 0)
def dueF (x : Blast) (s : Shot) (t : Int) : Int :=
  if shotF x s = false ∨ t < s.ti then 0 else if s.st = 1 ∨ s.st = 2 then max 0 (x.hold - (t - s.ti)) else if s.st = 4 then max 0 (x.mis - (t - s.ti)) else 0

section
variable (x : Blast) (s : Shot) (k : Keys) (b : Bel) (hx : x.area.length ≤ 1000000) (hk : k.roads.length ≤ 1000000) (hk2 : k.keys.length ≤ 1000000) (hb : b.sz)
include hx hk hk2 hb
theorem arm_ok (role t : Int) : CALL 0 N.firing_Arm [.t x.e, .t s.e, .t k.e, .t b.e, I role, I t] [] = some (.tup [.t (armF x s k b role t).1.e, I (armF x s k b role t).2], []) := by
  refine CALL_of K.t_firing_Arm rfl ?_
  have c := fcheck_ok ⟨x, s, k, b, t, 0⟩ ⟨hx, hk, hk2, hb⟩ (decide (role ≤ 0))
  unfold armF
  generalize checkF ⟨x, s, k, b, t, 0⟩ (decide (role ≤ 0)) = e at *
  obtain ⟨area, hold, mis⟩ := x
  obtain ⟨st, fi, se, ti⟩ := s
  obtain ⟨roads, keys, out⟩ := k
  obtain ⟨xs⟩ := b
  simp only [Req.e] at *
  by_cases h : e = 0 <;> by_cases h2 : role ≤ 0 <;> simp only [h2, decide_true, decide_false] at c <;> simp (disch := omega) only [go_sem, K.firing_Arm, ↓reduceIte, h, c, Nat.reduceAdd, Nat.reduceSub, ne_eq, not_true_eq_false, not_false_eq_true, reduceCtorEq, Shot.e]
theorem agree_ok (role t : Int) : CALL 0 N.firing_Agree [.t x.e, .t s.e, .t k.e, .t b.e, I role, I t] [] = some (.tup [.t (agreeF x s k b role t).1.e, I (agreeF x s k b role t).2], []) := by
  refine CALL_of K.t_firing_Agree rfl ?_
  have c := fcheck_ok ⟨x, s, k, b, t, 1⟩ ⟨hx, hk, hk2, hb⟩ (decide (role ≤ 0) || decide (role = s.fi))
  unfold agreeF
  generalize checkF ⟨x, s, k, b, t, 1⟩ (decide (role ≤ 0) || decide (role = s.fi)) = e at *
  obtain ⟨area, hold, mis⟩ := x
  obtain ⟨st, fi, se, ti⟩ := s
  obtain ⟨roads, keys, out⟩ := k
  obtain ⟨xs⟩ := b
  simp only [Req.e] at *
  by_cases h : e = 0 <;> by_cases h2 : role ≤ 0 <;> by_cases h3 : role = fi <;> simp only [h2, h3, decide_true, decide_false, Bool.or_true, Bool.or_false] at c <;> simp (disch := omega) only [go_sem, K.firing_Agree, ↓reduceIte, h, c, Nat.reduceAdd, Nat.reduceSub, ne_eq, not_true_eq_false, not_false_eq_true, reduceCtorEq, Shot.e]
theorem fire_ok (t : Int) (fails : Bool) : CALL 0 N.firing_Fire [.t x.e, .t s.e, .t k.e, .t b.e, I t, B fails] [] = some (.tup [.t (fireF x s k b t fails).1.e, I (fireF x s k b t fails).2], []) := by
  refine CALL_of K.t_firing_Fire rfl ?_
  have c := fcheck_ok ⟨x, s, k, b, t, 2⟩ ⟨hx, hk, hk2, hb⟩ false
  unfold fireF
  generalize checkF ⟨x, s, k, b, t, 2⟩ false = e at *
  obtain ⟨area, hold, mis⟩ := x
  obtain ⟨st, fi, se, ti⟩ := s
  obtain ⟨roads, keys, out⟩ := k
  obtain ⟨xs⟩ := b
  simp only [Req.e] at *
  by_cases h : e = 0 <;> cases fails <;> simp (disch := omega) only [go_sem, K.firing_Fire, ↓reduceIte, h, c, Nat.reduceAdd, Nat.reduceSub, ne_eq, not_true_eq_false, not_false_eq_true, reduceCtorEq, Shot.e]
end
theorem abort_ok (x : Blast) (s : Shot) (hx : x.area.length ≤ 1000000) (t : Int) : CALL 0 N.firing_Abort [.t x.e, .t s.e, I t] [] = some (.tup [.t (abortF x s t).1.e, I (abortF x s t).2], []) := by
  refine CALL_of K.t_firing_Abort rfl ?_
  have v := fvalid_ok x (by omega) s
  have tm := timely_ok s t
  have sb := shotF_b (x := x) (s := s)
  unfold abortF
  generalize shotF x s = r1 at *
  obtain ⟨area, hold, mis⟩ := x
  obtain ⟨st, fi, se, ti⟩ := s
  simp only [Shot.e] at *
  cases r1
  · simp (disch := omega) only [go_sem, K.firing_Abort, ↓reduceIte, v, Nat.reduceAdd, Nat.reduceSub]
  have sb := sb rfl
  by_cases c1 : st = 0
  · subst c1
    simp (disch := omega) only [go_sem, K.firing_Abort, ↓reduceIte, v, Nat.reduceAdd, Nat.reduceSub, reduceCtorEq]
  by_cases c3 : ti ≤ t ∧ t ≤ 2147483648
  rotate_left
  · simp only [c3, decide_false] at tm
    simp (disch := omega) only [go_sem, K.firing_Abort, ↓reduceIte, v, c1, c3, tm, Nat.reduceAdd, Nat.reduceSub, not_false_eq_true, reduceCtorEq]
  simp only [c3, and_self, decide_true] at tm
  by_cases c4 : st = 4
  · subst c4
    by_cases c5 : t - ti < mis
    · simp (disch := omega) only [go_sem, K.firing_Abort, ↓reduceIte, v, c1, c3, tm, c5, Nat.reduceAdd, Nat.reduceSub, not_false_eq_true, not_true_eq_false, reduceCtorEq, and_self]
    · simp (disch := omega) only [go_sem, K.firing_Abort, ↓reduceIte, v, c1, c3, tm, c5, Nat.reduceAdd, Nat.reduceSub, not_false_eq_true, not_true_eq_false, reduceCtorEq, and_self, and_false]
  · simp (disch := omega) only [go_sem, K.firing_Abort, ↓reduceIte, v, c1, c3, tm, c4, Nat.reduceAdd, Nat.reduceSub, not_false_eq_true, not_true_eq_false, reduceCtorEq, and_self, false_and]
end Go.Ev

/- Chapter 26 of the references: who bears a tag; possible places; meetings. -/
namespace Go.Ev
open Go
variable [Lib] [Has1] [Has2]

theorem nodup_sub_len : ∀ {l l' : List Int}, l.Nodup → (∀ x ∈ l, x ∈ l') → l.length ≤ l'.length
  | [], _, _, _ => by simp
  | a :: l, l', hn, hs => by
    obtain ⟨h1, h2⟩ := List.nodup_cons.1 hn
    have ha : a ∈ l' := hs a List.mem_cons_self
    have := nodup_sub_len (l := l) (l' := l'.erase a) h2 fun x hx => by
      have hne : x ≠ a := fun e => h1 (e ▸ hx)
      exact (List.mem_erase_of_ne hne).2 (hs x (List.mem_cons_of_mem _ hx))
    have h3 := List.length_erase_of_mem ha
    have h4 : 0 < l'.length := List.length_pos_of_mem ha
    simp only [List.length_cons]
    omega

theorem bearerF_mem {l : List Int} {x : Int} : 0 ≤ bearerF l x ↔ x ∈ l := by
  unfold bearerF
  cases hf : (List.range l.length).find? (fun j => decide (nth l j = x)) with
  | some j =>
    obtain ⟨h1, h2⟩ := find_lt hf
    have := nth_mem h1
    rw [of_decide_eq_true h2] at this
    simp [this]
  | none =>
    have := List.find?_eq_none.1 hf
    simp only [Int.reduceNeg]
    constructor
    · intro h; simp at h
    · intro h
      obtain ⟨j, hj⟩ := List.mem_iff_getElem?.1 h
      have hl := (List.getElem?_eq_some_iff.1 hj).1
      have := this j (List.mem_range.2 hl)
      rw [nth_eq hj] at this
      simp at this

theorem properB_nodup {l : List Int} (h : properB l = true) : l.Nodup := by
  simp only [properB, List.all_eq_true, List.mem_range, properN, decide_eq_true_eq] at h
  refine List.pairwise_iff_getElem.2 fun i j hi hj hij e => ?_
  obtain ⟨-, -, h3⟩ := h j hj
  have h4 : ¬ nth l j ∈ l.take j := fun hm => by have := bearerF_mem.2 hm; omega
  apply h4
  apply List.mem_iff_getElem?.2
  refine ⟨i, ?_⟩
  rw [List.getElem?_take_of_lt hij, List.getElem?_eq_getElem hi, e, ← List.getElem?_eq_getElem hj, nth_some hj]

theorem belB_spec {m : Mine} {b : Bel} (h : belB m b = true) : 1 ≤ b.worlds.length ∧ b.worlds.length ≤ 24 ∧ 1 ≤ (nth b.worlds 0).tags.length ∧ (nth b.worlds 0).tags.length ≤ 12 ∧
    ∀ i, i < b.worlds.length → worldB m b.worlds (nth b.worlds 0).tags i = true := by
  simp only [belB, Bool.and_eq_true, decide_eq_true_eq, List.all_eq_true, List.mem_range] at h
  exact ⟨h.1.1.1, h.1.1.2, h.1.2.1, h.1.2.2, h.2⟩

theorem worldB_spec {m : Mine} {ws : List World} {first : List Int} {i : Nat} (h : worldB m ws first i = true) : (nth ws i).tags.length = first.length ∧ (nth ws i).whr.length = first.length ∧ properB (nth ws i).tags = true ∧
    ∀ k, k < (nth ws i).tags.length → nth (nth ws i).tags k ∈ first ∧ validB m (nth (nth ws i).whr k) = true := by
  simp only [worldB, Bool.and_eq_true, decide_eq_true_eq, List.all_eq_true, List.mem_range, whoB] at h
  exact ⟨h.1.1.1.1, h.1.1.1.2, h.1.1.2, fun k hk => ⟨bearerF_mem.1 (h.2 k hk).1, (h.2 k hk).2⟩⟩

/-- In a valid belief each world has the same tags. -/
theorem belB_bearer {m : Mine} {b : Bel} (h : belB m b = true) {tag : Int} (ht : 0 ≤ bearerF (nth b.worlds 0).tags tag) {i : Nat} (hi : i < b.worlds.length) :
    0 ≤ bearerF (nth b.worlds i).tags tag := by
  obtain ⟨h1, h2, h3, h4, h5⟩ := belB_spec h
  obtain ⟨w1, w2, w3, w4⟩ := worldB_spec (h5 i hi)
  apply bearerF_mem.2
  apply Classical.byContradiction
  intro hn
  have := nodup_sub_len (l := tag :: (nth b.worlds i).tags) (l' := (nth b.worlds 0).tags) (List.nodup_cons.2 ⟨hn, properB_nodup w3⟩) (by
    intro x hx
    rcases List.mem_cons.1 hx with e | hx
    · rw [e]; exact bearerF_mem.1 ht
    · obtain ⟨j, hj⟩ := List.mem_iff_getElem?.1 hx
      have := (w4 j (List.getElem?_eq_some_iff.1 hj).1).1
      rwa [nth_eq hj] at this)
  simp only [List.length_cons] at this
  omega

def borneF (m : Mine) (b : Bel) (tag : Int) : Int := if belB m b = false then 6 else if bearerF (nth b.worlds 0).tags tag < 0 then 41 else 0

theorem borne_ok {m : Mine} (h : m.ok) (b : Bel) (hs : b.sz) (tag : Int) : CALL 0 N.ref26_borne [.t m.e, .t b.e, I tag] [] = some (I (borneF m b tag), []) := by
  refine CALL_of K.t_ref26_borne rfl ?_
  have v := belB_ok h b hs
  unfold borneF
  cases hv : belB m b with
  | false =>
    rw [hv] at v
    obtain ⟨ws⟩ := b
    simp (disch := omega) only [go_sem, K.ref26_borne, ↓reduceIte, v]
  | true =>
    rw [hv] at v
    obtain ⟨h1, h2, h3, h4, h5⟩ := belB_spec hv
    have br := bearer_ok (nth b.worlds 0).tags tag (by omega)
    obtain ⟨ws⟩ := b
    simp only at h1 br ⊢
    by_cases c : bearerF (nth ws 0).tags tag < 0
    · simp (disch := omega) only [go_sem, K.ref26_borne, ↓reduceIte, v, br, c, Bool.true_eq_false]
    · simp (disch := omega) only [go_sem, K.ref26_borne, ↓reduceIte, v, br, c, Bool.true_eq_false]

def meetB (a b : Wh) (t : Int) : Bool := (List.range (min a.frm.length b.frm.length)).any fun p => decide (nth a.frm p ≤ t ∧ nth b.frm p ≤ t)

theorem meet_ok (a b : Wh) (t : Int) (ha : a.frm.length ≤ 1000000) : CALL 0 N.ref26_meet [.t a.e, .t b.e, I t] [] = some (B (meetB a b t), []) := by
  refine CALL_of K.t_ref26_meet rfl ?_
  obtain ⟨t1, l1⟩ := a
  obtain ⟨t2, l2⟩ := b
  unfold meetB
  simp only at ha ⊢
  have loop : ∀ x y z : D, exS CALL K.ref26_meet_l1 ⟨[x, y, I t, .bp 0 0, .bp 1 0, z, I 0], [.box [I t1, .t (tL l1)], .box [I t2, .t (tL l2)]]⟩ =
      some (match (List.range (min l1.length l2.length)).find? (fun p => decide (nth l1 p ≤ t ∧ nth l2 p ≤ t)) with
        | some j => (.ret, ⟨[.und, .und, I t, .bp 0 0, .bp 1 0, B true, I j], [.box [I t1, .t (tL l1)], .box [I t2, .t (tL l2)]]⟩)
        | none => (.exit 0, ⟨[.und, .und, I t, .bp 0 0, .bp 1 0, .und, I (min l1.length l2.length : Nat)], [.box [I t1, .t (tL l1)], .box [I t2, .t (tL l2)]]⟩)) := by
    intro x y z
    refine loop_first (fun j => ⟨[.und, .und, I t, .bp 0 0, .bp 1 0, .und, I j], [.box [I t1, .t (tL l1)], .box [I t2, .t (tL l2)]]⟩) (min l1.length l2.length) (fun p => decide (nth l1 p ≤ t ∧ nth l2 p ≤ t)) _ _ rfl ?_ ?_ ?_ (by simp)
    · intro j hj hp
      have hp : ¬ (nth l1 j ≤ t ∧ nth l2 j ≤ t) := of_decide_eq_false hp
      by_cases c : nth l1 j ≤ t
      · simp (disch := omega) only [go_sem, K.ref26_meet_l1b, ↓reduceIte, c]
      · simp (disch := omega) only [go_sem, K.ref26_meet_l1b, ↓reduceIte, c]
    · intro j hj hp
      have hp : nth l1 j ≤ t ∧ nth l2 j ≤ t := of_decide_eq_true hp
      refine ⟨?_, by simp⟩
      simp (disch := omega) only [go_sem, K.ref26_meet_l1b, ↓reduceIte]
    · by_cases h1 : l1.length ≤ l2.length
      · have e : min l1.length l2.length = l1.length := by omega
        rw [e]
        simp (disch := omega) only [go_sem, K.ref26_meet_l1b, ↓reduceIte]
      · have e : min l1.length l2.length = l2.length := by omega
        rw [e]
        simp (disch := omega) only [go_sem, K.ref26_meet_l1b, ↓reduceIte]
  rw [← find_any]
  simp (disch := omega) only [go_sem, K.ref26_meet, ↓reduceIte, loop]
  cases hf : (List.range (min l1.length l2.length)).find? (fun p => decide (nth l1 p ≤ t ∧ nth l2 p ≤ t)) with
  | some j => simp (disch := omega) only [go_sem, ↓reduceIte, Option.isSome]
  | none => simp (disch := omega) only [go_sem, ↓reduceIte, Option.isSome]

def mayB (b : Bel) (person t : Int) (p : Nat) : Bool := (List.range b.worlds.length).any fun i => decide (0 ≤ person ∧ person < (nth b.worlds i).whr.length) && decide ((p : Int) ∈ possF (nth (nth b.worlds i).whr person.toNat) t)
def possB (b : Bel) (person t : Int) : List Int := whereF 64 (mayB b person t)

theorem possible26_ok (b : Bel) (hs : b.sz) (person t : Int) : CALL 0 N.ref26_Possible [.t b.e, I person, I t] [] = some (.t (tL (possB b person t)), []) := by
  refine CALL_of K.t_ref26_Possible rfl ?_
  obtain ⟨h1, h2⟩ := hs
  obtain ⟨ws⟩ := b
  simp only at h1 h2
  have hlen := fun k => whereF_len k (mayB ⟨ws⟩ person t)
  have inner : ∀ (j : Nat), j < 64 → ∀ a c : D, exS CALL K.ref26_Possible_l2 ⟨[a, I person, I t, .bp 0 0, c, .ref 1 0 (whereF j (mayB ⟨ws⟩ person t)).length, I j, I 0], [.box [.t (.sl (ws.map World.e))], .arr 1 false 0 (((whereF j (mayB ⟨ws⟩ person t)).map (T.int .i64)).map .t)]⟩ =
      some (match (List.range ws.length).find? (fun i => decide (0 ≤ person ∧ person < (nth ws i).whr.length) && decide ((j : Int) ∈ possF (nth (nth ws i).whr person.toNat) t)) with
        | some i => (.exit 2, ⟨[.und, I person, I t, .bp 0 0, .und, .ref 1 0 ((whereF j (mayB ⟨ws⟩ person t)).length + 1), I j, I i], [.box [.t (.sl (ws.map World.e))], .arr 1 false 0 (((whereF j (mayB ⟨ws⟩ person t) ++ [(j : Int)]).map (T.int .i64)).map .t)]⟩)
        | none => (.exit 2, ⟨[.und, I person, I t, .bp 0 0, .und, .ref 1 0 (whereF j (mayB ⟨ws⟩ person t)).length, I j, I ws.length], [.box [.t (.sl (ws.map World.e))], .arr 1 false 0 (((whereF j (mayB ⟨ws⟩ person t)).map (T.int .i64)).map .t)]⟩)) := by
    intro j hj a c
    have hlen := hlen j
    refine loop_first (fun i => ⟨[.und, I person, I t, .bp 0 0, .und, .ref 1 0 (whereF j (mayB ⟨ws⟩ person t)).length, I j, I i], [.box [.t (.sl (ws.map World.e))], .arr 1 false 0 (((whereF j (mayB ⟨ws⟩ person t)).map (T.int .i64)).map .t)]⟩) ws.length _ _ _ rfl ?_ ?_ ?_ (by simp)
    · intro i hi hp
      have sz := h2 _ (nth_mem hi)
      generalize hx : nth ws i = x at *
      obtain ⟨tags, whr⟩ := x
      obtain ⟨s1, s2, s3⟩ := sz
      simp only at s1 s2 s3 hp
      generalize whereF j (mayB ⟨ws⟩ person t) = L at *
      by_cases c1 : 0 ≤ person
      · by_cases c2 : person < whr.length
        · have ps := possible25_ok (nth whr person.toNat) t (s3 _ (nth_mem (by omega)))
          have hs := has_ok (possF (nth whr person.toNat) t) j (by
            have := whereF_len (nth whr person.toNat).frm.length (fun j => decide (nth (nth whr person.toNat).frm j ≤ t))
            have := s3 _ (nth_mem (l := whr) (j := person.toNat) (by omega))
            unfold possF; omega)
          simp only [c1, c2, and_self, decide_true, Bool.true_and, decide_eq_false_iff_not] at hp
          simp only [hp, decide_false] at hs
          generalize hy : nth whr person.toNat = y at *
          obtain ⟨time, frm⟩ := y
          simp (disch := omega) only [go_sem, K.ref26_Possible_l2b, ↓reduceIte, hx, hy, ps, hs]
        · simp (disch := omega) only [go_sem, K.ref26_Possible_l2b, ↓reduceIte, hx]
      · simp (disch := omega) only [go_sem, K.ref26_Possible_l2b, ↓reduceIte, hx]
    · intro i hi hp
      have sz := h2 _ (nth_mem hi)
      generalize hx : nth ws i = x at *
      obtain ⟨tags, whr⟩ := x
      obtain ⟨s1, s2, s3⟩ := sz
      simp only [Bool.and_eq_true, decide_eq_true_eq] at s1 s2 s3 hp
      obtain ⟨⟨c1, c2⟩, c3⟩ := hp
      generalize whereF j (mayB ⟨ws⟩ person t) = L at *
      have ps := possible25_ok (nth whr person.toNat) t (s3 _ (nth_mem (by omega)))
      have hs := has_ok (possF (nth whr person.toNat) t) j (by
        have := whereF_len (nth whr person.toNat).frm.length (fun j => decide (nth (nth whr person.toNat).frm j ≤ t))
        have := s3 _ (nth_mem (l := whr) (j := person.toNat) (by omega))
        unfold possF; omega)
      simp only [c3, decide_true] at hs
      generalize hy : nth whr person.toNat = y at *
      obtain ⟨time, frm⟩ := y
      refine ⟨?_, by simp⟩
      simp (disch := omega) only [go_sem, K.ref26_Possible_l2b, ↓reduceIte, hx, hy, ps, hs]
    · generalize whereF j (mayB ⟨ws⟩ person t) = L at *
      simp (disch := omega) only [go_sem, K.ref26_Possible_l2b, ↓reduceIte]
  have loop : ∀ a b c : D, exS CALL K.ref26_Possible_l1 ⟨[a, I person, I t, .bp 0 0, b, .ref 1 0 0, I 0, c], [.box [.t (.sl (ws.map World.e))], .arr 1 false 0 []]⟩ =
      some (.exit 0, ⟨[.und, I person, I t, .bp 0 0, .und, .ref 1 0 (whereF 64 (mayB ⟨ws⟩ person t)).length, I 64, .und], [.box [.t (.sl (ws.map World.e))], .arr 1 false 0 (((whereF 64 (mayB ⟨ws⟩ person t)).map (T.int .i64)).map .t)]⟩) := by
    intro a b c
    refine loop_up (fun j => ⟨[.und, I person, I t, .bp 0 0, .und, .ref 1 0 (whereF j (mayB ⟨ws⟩ person t)).length, I j, .und], [.box [.t (.sl (ws.map World.e))], .arr 1 false 0 (((whereF j (mayB ⟨ws⟩ person t)).map (T.int .i64)).map .t)]⟩) 64 rfl ?_ ?_ (by simp)
    · intro j hj
      have inner := inner j hj
      have hlen := hlen j
      rw [whereF_succ]
      have e : mayB ⟨ws⟩ person t j = ((List.range ws.length).find? (fun i => decide (0 ≤ person ∧ person < (nth ws i).whr.length) && decide ((j : Int) ∈ possF (nth (nth ws i).whr person.toNat) t))).isSome := by rw [find_any]; rfl
      cases hf : (List.range ws.length).find? (fun i => decide (0 ≤ person ∧ person < (nth ws i).whr.length) && decide ((j : Int) ∈ possF (nth (nth ws i).whr person.toNat) t)) with
      | some i =>
        rw [hf] at e inner
        simp only [Option.isSome] at e
        simp (disch := omega) only [go_sem, K.ref26_Possible_l1b, ↓reduceIte, inner, e]
      | none =>
        rw [hf] at e inner
        simp only [Option.isSome] at e
        simp (disch := omega) only [go_sem, K.ref26_Possible_l1b, ↓reduceIte, inner, e, Bool.false_eq_true]
    · simp (disch := omega) only [go_sem, K.ref26_Possible_l1b, ↓reduceIte]
      rfl
  have := hlen 64
  simp (disch := omega) only [go_sem, K.ref26_Possible, ↓reduceIte, loop, possB]

end Go.Ev

/- Chapter 26 of the references: starts. -/
namespace Go.Ev
open Go
variable [Lib] [Has1] [Has2]

def startWs (m : Mine) (starts : List Int) (t : Int) (j : Nat) : List Wh := (List.range j).map fun i => (startF m (nth starts i) t).1
theorem startWs_succ (m : Mine) (starts : List Int) (t : Int) (j : Nat) : startWs m starts t (j + 1) = startWs m starts t j ++ [(startF m (nth starts j) t).1] := by
  unfold startWs; rw [List.range_succ, List.map_append]; rfl
@[simp] theorem startWs_len (m : Mine) (starts : List Int) (t : Int) (j : Nat) : (startWs m starts t j).length = j := by simp [startWs]

def startBel (m : Mine) (tags starts : List Int) (t : Int) : Bel × Int :=
  if tags.length = starts.length ∧ 1 ≤ tags.length ∧ tags.length ≤ 12 then
    if properB tags = true then match (List.range tags.length).find? (fun i => !decide ((startF m (nth starts i) t).2 = 0)) with
      | some i => (⟨[]⟩, (startF m (nth starts i) t).2)
      | none => (⟨[⟨tags, startWs m starts t tags.length⟩]⟩, 0)
    else (⟨[]⟩, 41)
  else (⟨[]⟩, 6)

abbrev stH (m : Mine) (tags : List Int) (r : D) (ws : List Wh) : Heap := [.box (mineCells m), .box [r], .arr 1 false 0 ((tags.map (T.int .i64)).map .t), .box [.ref 2 0 tags.length, .ref 5 0 ws.length], .arr 2 false 0 [], .arr 2 false 0 ((ws.map Wh.e).map .t)]

theorem startBel_ok {m : Mine} (h : m.ok) (tags starts : List Int) (hl : tags.length ≤ 1000000) (t : Int) :
    CALL 0 N.ref26_Start [.t m.e, .t (tL tags), .t (tL starts), I t] [] = some (.tup [.t (startBel m tags starts t).1.e, I (startBel m tags starts t).2], []) := by
  refine CALL_of K.t_ref26_Start rfl ?_
  have ck := check_ok h
  have pr := proper_ok tags hl
  unfold startBel
  by_cases c1 : tags.length = starts.length
  · by_cases c2 : tags.length < 1
    · simp (disch := omega) only [go_sem, K.ref26_Start, ↓reduceIte, ck, show ¬ (tags.length = starts.length ∧ 1 ≤ tags.length ∧ tags.length ≤ 12) by omega]
      rfl
    · by_cases c3 : 12 < tags.length
      · simp (disch := omega) only [go_sem, K.ref26_Start, ↓reduceIte, ck, show ¬ (tags.length = starts.length ∧ 1 ≤ tags.length ∧ tags.length ≤ 12) by omega]
        rfl
      · have c : tags.length = starts.length ∧ 1 ≤ tags.length ∧ tags.length ≤ 12 := by omega
        rw [if_pos c]
        clear c
        cases hp : properB tags with
        | false =>
          rw [hp] at pr
          simp (disch := omega) only [go_sem, K.ref26_Start, ↓reduceIte, ck, pr, Bool.false_eq_true]
          rfl
        | true =>
          rw [hp] at pr
          have loop : ∀ a b c d : D, exS CALL K.ref26_Start_l1 ⟨[a, .t (tL tags), .t (tL starts), I t, .bp 0 0, .bp 1 0, b, .bp 3 0, I 0, c, d], stH m tags .nil []⟩ =
              some (match (List.range tags.length).find? (fun i => !decide ((startF m (nth starts i) t).2 = 0)) with
                | some i => (.ret, ⟨[.und, .t (tL tags), .t (tL starts), I t, .bp 0 0, .bp 1 0, I (startF m (nth starts i) t).2, .bp 3 0, I i, .bp 6 0, I (startF m (nth starts i) t).2], stH m tags .nil (startWs m starts t i) ++ [.box [I (startF m (nth starts i) t).1.time, .t (tL (startF m (nth starts i) t).1.frm)]]⟩)
                | none => (.exit 0, ⟨[.und, .t (tL tags), .t (tL starts), I t, .bp 0 0, .bp 1 0, .und, .bp 3 0, I tags.length, .und, .und], stH m tags .nil (startWs m starts t tags.length)⟩)) := by
            intro a b c d
            refine loop_first (fun j => ⟨[.und, .t (tL tags), .t (tL starts), I t, .bp 0 0, .bp 1 0, .und, .bp 3 0, I j, .und, .und], stH m tags .nil (startWs m starts t j)⟩) tags.length _ _ _ rfl ?_ ?_ ?_ (by simp)
            · intro j hj hp
              have st := start_ok h (nth starts j) t
              have ln := startWs_len m starts t j
              have hp : (startF m (nth starts j) t).2 = 0 := by simpa using hp
              rw [startWs_succ]
              generalize startWs m starts t j = L at *
              generalize startF m (nth starts j) t = r at *
              obtain ⟨⟨time, frm⟩, e⟩ := r
              simp only at st hp ⊢
              subst hp
              simp (disch := omega) only [go_sem, K.ref26_Start_l1b, ↓reduceIte, stH, st, Nat.reduceAdd, Nat.reduceSub]
              done
            · intro j hj hp
              have st := start_ok h (nth starts j) t
              have ln := startWs_len m starts t j
              have hp : (startF m (nth starts j) t).2 ≠ 0 := by simpa using hp
              generalize startWs m starts t j = L at *
              generalize startF m (nth starts j) t = r at *
              obtain ⟨⟨time, frm⟩, e⟩ := r
              simp only at st hp ⊢
              refine ⟨?_, by simp⟩
              simp (disch := omega) only [go_sem, K.ref26_Start_l1b, ↓reduceIte, stH, st, Nat.reduceAdd, Nat.reduceSub]
              done
            · have ln := startWs_len m starts t tags.length
              generalize startWs m starts t tags.length = L at *
              simp (disch := omega) only [go_sem, K.ref26_Start_l1b, ↓reduceIte]
          simp only [stH, List.map_nil, List.length_nil] at loop
          simp (disch := omega) only [go_sem, K.ref26_Start, ↓reduceIte, ck, pr, loop]
          cases hf : (List.range tags.length).find? (fun i => !decide ((startF m (nth starts i) t).2 = 0)) with
          | some i => 
            simp (disch := omega) only [go_sem, ↓reduceIte]
            rfl
          | none =>
            have ln := startWs_len m starts t tags.length
            generalize startWs m starts t tags.length = L at *
            simp (disch := omega) only [go_sem, ↓reduceIte]
            rfl
  · simp (disch := omega) only [go_sem, K.ref26_Start, ↓reduceIte, ck, show ¬ (tags.length = starts.length ∧ 1 ≤ tags.length ∧ tags.length ≤ 12) by omega]
    rfl

end Go.Ev

/- Chapter 26 of the references: sights. -/
namespace Go.Ev
open Go
variable [Lib] [Has1] [Has2]

@[go_sem] theorem allS_nil : ([] : List D).all scalarD = true := (rfl)
@[go_sem] theorem allS_cons (d : D) (r : List D) : (d :: r).all scalarD = (scalarD d && r.all scalarD) := (rfl)
@[go_sem] theorem scalarD_agg (cs : List T) : scalarD (.t (.agg cs)) = false := (rfl)
@[go_sem] theorem scalarD_sl (cs : List T) : scalarD (.t (.sl cs)) = false := (rfl)
@[go_sem] theorem scalarD_int (k : IntKind) (n : Int) : scalarD (.t (.int k n)) = true := (rfl)
@[go_sem] theorem scalarD_bool (b : Bool) : scalarD (.t (.bool b)) = true := (rfl)
@[go_sem] theorem set_wh (l : List Wh) (k : Nat) (a : Int) (b : List Int) : (List.map D.t (List.map Wh.e l)).set k (D.t (T.agg [tI a, tL b])) = List.map D.t (List.map Wh.e (l.set k ⟨a, b⟩)) := by
  rw [List.map_set, List.map_set]

/-- What a sight makes of one world: whether it is left out, and the new one. -/
def seeW (m : Mine) (tag : Int) (l : List Int) (a b : Int) (x : World) : Wh × Int := seeF m (nth x.whr (bearerF x.tags tag).toNat) l a b
def putW (tag : Int) (x : World) (w : Wh) : World := ⟨x.tags, x.whr.set (bearerF x.tags tag).toNat w⟩
def stepW (tag : Int) (r : Wh × Int) (x : World) (out : List World) : List World :=
  if r.2 = 43 then out else out ++ [if r.2 = 0 then putW tag x r.1 else x]
def seeNb (m : Mine) (tag : Int) (l : List Int) (a b : Int) (ws : List World) : Nat → List World
  | 0 => []
  | j + 1 => stepW tag (seeW m tag l a b (nth ws j)) (nth ws j) (seeNb m tag l a b ws j)

theorem stepW_len (tag : Int) (r : Wh × Int) (x : World) (out : List World) : (stepW tag r x out).length ≤ out.length + 1 := by
  unfold stepW; split <;> simp
theorem seeNb_len (m : Mine) (tag : Int) (l : List Int) (a b : Int) (ws : List World) : ∀ j, (seeNb m tag l a b ws j).length ≤ j
  | 0 => by simp [seeNb]
  | j + 1 => by
    have := seeNb_len m tag l a b ws j
    have := stepW_len tag (seeW m tag l a b (nth ws j)) (nth ws j) (seeNb m tag l a b ws j)
    simp only [seeNb]; omega

abbrev seeH (m : Mine) (ws out : List World) : Heap := [.box (mineCells m), .box [.t (.sl (ws.map World.e))], .box [.nil], .box [.ref 4 0 out.length], .arr 2 false 0 ((out.map World.e).map .t)]

theorem see_round {m : Mine} (h : m.ok) (ws : List World) (hw : ws.length ≤ 1000000) (tag : Int) (l : List Int) (hp : l.length ≤ 1000000) (a b : Int) (i : Nat) (hi : i < ws.length) (hs : (nth ws i).sz)
    (hb : 0 ≤ bearerF (nth ws i).tags tag) (hb2 : bearerF (nth ws i).tags tag < (nth ws i).whr.length) (out : List World) (ho : out.length ≤ 1000000) :
    ((seeW m tag l a b (nth ws i)).2 ≠ 6 ∧ (seeW m tag l a b (nth ws i)).2 ≠ 8 → roundC true [0, 1, 9, 10, 13, 14, 15, 16, 17, 18] 5 (exS CALL K.ref26_See_l1b ⟨[.und, .und, I tag, .t (tL l), I a, I b, .bp 0 0, .bp 1 0, .bp 2 0, .und, .und, .bp 3 0, I i, .und, .und, .und, .und, .und, .und], seeH m ws out⟩) =
      some ⟨[.und, .und, I tag, .t (tL l), I a, I b, .bp 0 0, .bp 1 0, .bp 2 0, .und, .und, .bp 3 0, I (i + 1), .und, .und, .und, .und, .und, .und], seeH m ws (stepW tag (seeW m tag l a b (nth ws i)) (nth ws i) out)⟩) ∧
    ((seeW m tag l a b (nth ws i)).2 = 6 ∨ (seeW m tag l a b (nth ws i)).2 = 8 → ∃ vs H, exS CALL K.ref26_See_l1b ⟨[.und, .und, I tag, .t (tL l), I a, I b, .bp 0 0, .bp 1 0, .bp 2 0, .und, .und, .bp 3 0, I i, .und, .und, .und, .und, .und, .und], seeH m ws out⟩ =
      some (.ret, ⟨vs, H⟩) ∧ vs[8]? = some (.bp 2 0) ∧ vs[9]? = some (I (seeW m tag l a b (nth ws i)).2) ∧ H[2]? = some (.box [.t (.sl (ws.map World.e))])) := by
  unfold seeW stepW putW
  have c1 := copyWorld_ok1 (nth ws i) hs
  have br := bearer_ok (nth ws i).tags tag (by have := hs.1; omega)
  have s3 := hs.2.2 _ (nth_mem (l := (nth ws i).whr) (j := (bearerF (nth ws i).tags tag).toNat) (by omega))
  have se := see_ok h (nth (nth ws i).whr (bearerF (nth ws i).tags tag).toNat) s3 l hp a b
  generalize hx : nth ws i = x at *
  obtain ⟨tags, whr⟩ := x
  simp only at c1 br s3 se hb hb2 ⊢
  generalize bearerF tags tag = k at *
  generalize hy : nth whr k.toNat = y at *
  generalize seeF m y l a b = r at *
  obtain ⟨⟨time, frm⟩, e⟩ := r
  obtain ⟨t0, f0⟩ := y
  obtain ⟨s1, s2, -⟩ := hs
  simp only at s1 s2 s3 se ⊢
  constructor
  · rintro ⟨n6, n8⟩
    by_cases e43 : e = 43
    · subst e43
      simp (disch := omega) only [go_sem, K.ref26_See_l1b, ↓reduceIte, seeH, hx, hy, c1, br, se, Nat.reduceAdd, Nat.reduceSub]
    · by_cases e0 : e = 0
      · subst e0
        simp (disch := omega) only [go_sem, K.ref26_See_l1b, ↓reduceIte, seeH, hx, hy, c1, br, se, Nat.reduceAdd, Nat.reduceSub]
      · simp (disch := omega) only [go_sem, K.ref26_See_l1b, ↓reduceIte, seeH, hx, hy, c1, br, se, Nat.reduceAdd, Nat.reduceSub]
  · rintro (h68 | h68) <;> subst h68
    · simp (disch := omega) only [go_sem, K.ref26_See_l1b, ↓reduceIte, seeH, hx, hy, c1, br, se, Nat.reduceAdd, Nat.reduceSub]
      exact ⟨_, _, rfl, rfl, rfl, rfl⟩
    · simp (disch := omega) only [go_sem, K.ref26_See_l1b, ↓reduceIte, seeH, hx, hy, c1, br, se, Nat.reduceAdd, Nat.reduceSub]
      exact ⟨_, _, rfl, rfl, rfl, rfl⟩

def seeBad (m : Mine) (tag : Int) (l : List Int) (a b : Int) (ws : List World) (j : Nat) : Bool := decide ((seeW m tag l a b (nth ws j)).2 = 6 ∨ (seeW m tag l a b (nth ws j)).2 = 8)
def seeBel (m : Mine) (b : Bel) (tag : Int) (l : List Int) (a c : Int) : Bel × Int :=
  if borneF m b tag ≠ 0 then (b, borneF m b tag) else match (List.range b.worlds.length).find? (seeBad m tag l a c b.worlds) with
    | some i => (b, (seeW m tag l a c (nth b.worlds i)).2)
    | none => if (seeNb m tag l a c b.worlds b.worlds.length).length = 0 then (b, 43) else (⟨seeNb m tag l a c b.worlds b.worlds.length⟩, 0)

theorem seeBel_ok {m : Mine} (h : m.ok) (b : Bel) (hs : b.sz) (tag : Int) (l : List Int) (hp : l.length ≤ 1000000) (a c : Int) :
    CALL 0 N.ref26_See [.t m.e, .t b.e, I tag, .t (tL l), I a, I c] [] = some (.tup [.t (seeBel m b tag l a c).1.e, I (seeBel m b tag l a c).2], []) := by
  refine CALL_of K.t_ref26_See rfl ?_
  have cb := copyBel_ok b hs
  have bo := borne_ok h b hs tag
  unfold seeBel
  by_cases e0 : borneF m b tag = 0
  · have hb : belB m b = true := by
      unfold borneF at e0
      by_cases hb : belB m b = true
      · exact hb
      · rw [if_pos (by simpa using hb)] at e0; omega
    have ht : 0 ≤ bearerF (nth b.worlds 0).tags tag := by
      unfold borneF at e0
      rw [if_neg (by simp [hb])] at e0
      by_cases ht : bearerF (nth b.worlds 0).tags tag < 0
      · rw [if_pos ht] at e0; omega
      · omega
    have bb : ∀ i, i < b.worlds.length → 0 ≤ bearerF (nth b.worlds i).tags tag ∧ bearerF (nth b.worlds i).tags tag < (nth b.worlds i).whr.length := fun i hi => by
      obtain ⟨-, -, -, -, h5⟩ := belB_spec hb
      obtain ⟨w1, w2, -⟩ := worldB_spec (h5 i hi)
      have b1 := belB_bearer hb ht (i := i) hi
      have b2 := (bearerF_lt b1).1
      exact ⟨b1, by omega⟩
    rw [e0] at bo
    obtain ⟨ws⟩ := b
    obtain ⟨s1, s2⟩ := hs
    simp only at s1 s2 bb cb bo ⊢
    have ln := seeNb_len m tag l a c ws
    have loop := fun x y z u v w p q r => loop_find (gc := true) (dead := [0, 1, 9, 10, 13, 14, 15, 16, 17, 18]) (c := K.ref26_See_l1b)
      (vs := [x, y, I tag, .t (tL l), I a, I c, .bp 0 0, .bp 1 0, .bp 2 0, z, u, .bp 3 0, I 0, v, w, p, q, r, .und]) (H := seeH m ws [])
      (fun j => ⟨[.und, .und, I tag, .t (tL l), I a, I c, .bp 0 0, .bp 1 0, .bp 2 0, .und, .und, .bp 3 0, I j, .und, .und, .und, .und, .und, .und], seeH m ws (seeNb m tag l a c ws j)⟩) ws.length (seeBad m tag l a c ws)
      (fun j q => q.1 = .ret ∧ q.2.vs[8]? = some (.bp 2 0) ∧ q.2.vs[9]? = some (I (seeW m tag l a c (nth ws j)).2) ∧ q.2.H[2]? = some (.box [.t (.sl (ws.map World.e))]))
      (.exit 0, ⟨[.und, .und, I tag, .t (tL l), I a, I c, .bp 0 0, .bp 1 0, .bp 2 0, .und, .und, .bp 3 0, I ws.length, .und, .und, .und, .und, .und, .und], seeH m ws (seeNb m tag l a c ws ws.length)⟩) rfl
      (fun j hj hq => by
        have := ln j
        have hq : ¬ ((seeW m tag l a c (nth ws j)).2 = 6 ∨ (seeW m tag l a c (nth ws j)).2 = 8) := by simpa [seeBad] using hq
        obtain ⟨b1, b2⟩ := bb j hj
        exact (see_round h ws s1 tag l hp a c j hj (s2 _ (nth_mem hj)) b1 b2 (seeNb m tag l a c ws j) (by omega)).1 (by omega))
      (fun j hj hq => by
        have := ln j
        have hq : (seeW m tag l a c (nth ws j)).2 = 6 ∨ (seeW m tag l a c (nth ws j)).2 = 8 := by simpa [seeBad] using hq
        obtain ⟨b1, b2⟩ := bb j hj
        obtain ⟨vs, H, q1, q2⟩ := (see_round h ws s1 tag l hp a c j hj (s2 _ (nth_mem hj)) b1 b2 (seeNb m tag l a c ws j) (by omega)).2 hq
        exact ⟨_, q1, by simp, rfl, q2⟩)
      (by
        have := ln ws.length
        generalize seeNb m tag l a c ws ws.length = L at *
        simp (disch := omega) only [go_sem, K.ref26_See_l1b, ↓reduceIte, seeH, Nat.reduceAdd, Nat.reduceSub]) (by simp)
    have loop' : ∀ x y z u v w p q r, _ ∨ _ := loop
    clear loop
    rcases loop' (.t m.e) (.t (Bel.e ⟨ws⟩)) (I 0) (I 0) .und .und .und .und .und with ⟨e1, e2⟩ | ⟨j, ⟨x, vs, H⟩, e1, e2, e3, e4, e5, e6⟩
    · have e2 : exS CALL K.ref26_See_l1 _ = _ := e2
      simp only [seeH, List.map_nil, List.length_nil] at e2
      have := ln ws.length
      rw [e1]
      generalize seeNb m tag l a c ws ws.length = L at *
      by_cases L0 : L.length = 0
      · simp (disch := omega) only [go_sem, K.ref26_See, ↓reduceIte, cb, bo, e2, L0, Nat.reduceAdd, Nat.reduceSub, ne_eq, not_true_eq_false]
      · simp (disch := omega) only [go_sem, K.ref26_See, ↓reduceIte, cb, bo, e2, L0, Nat.reduceAdd, Nat.reduceSub, ne_eq, not_true_eq_false]
    · have e2 : exS CALL K.ref26_See_l1 _ = _ := e2
      simp only [seeH, List.map_nil, List.length_nil] at e2
      rw [e1]
      simp only at e3 e4 e5 e6
      subst e3
      simp (disch := omega) only [go_sem, K.ref26_See, ↓reduceIte, cb, bo, e2, Nat.reduceAdd, Nat.reduceSub, ne_eq, not_true_eq_false, e4, e5, e6, List.take_zero]
  · obtain ⟨ws⟩ := b
    simp (disch := omega) only [go_sem, K.ref26_See, ↓reduceIte, cb, bo, e0, ne_eq, not_false_eq_true]

end Go.Ev

/- Chapter 26 of the references: absences. -/
namespace Go.Ev
open Go
variable [Lib] [Has1] [Has2]

def absW (m : Mine) (tag : Int) (l : List Int) (a b bl : Int) (x : World) : Wh × Int := absF m (nth x.whr (bearerF x.tags tag).toNat) l a b bl
def stepA (tag : Int) (r : Wh × Int) (x : World) (out : List World) : List World := out ++ [if r.2 = 0 then putW tag x r.1 else x]
def absNb (m : Mine) (tag : Int) (l : List Int) (a b bl : Int) (ws : List World) : Nat → List World
  | 0 => []
  | j + 1 => stepA tag (absW m tag l a b bl (nth ws j)) (nth ws j) (absNb m tag l a b bl ws j)
theorem absNb_len (m : Mine) (tag : Int) (l : List Int) (a b bl : Int) (ws : List World) : ∀ j, (absNb m tag l a b bl ws j).length = j
  | 0 => rfl
  | j + 1 => by
    simp only [absNb, stepA, List.length_append, absNb_len m tag l a b bl ws j, List.length_singleton]

theorem abs_round {m : Mine} (h : m.ok) (ws : List World) (hw : ws.length ≤ 1000000) (tag : Int) (l : List Int) (hp : l.length ≤ 1000000) (a b bl : Int) (i : Nat) (hi : i < ws.length) (hs : (nth ws i).sz)
    (hb : 0 ≤ bearerF (nth ws i).tags tag) (hb2 : bearerF (nth ws i).tags tag < (nth ws i).whr.length) (out : List World) (ho : out.length ≤ 1000000) :
    ((absW m tag l a b bl (nth ws i)).2 ≠ 6 ∧ (absW m tag l a b bl (nth ws i)).2 ≠ 8 → roundC true [0, 1, 10, 11, 14, 15, 16, 17] 5 (exS CALL K.ref26_Absent_l1b ⟨[.und, .und, I tag, .t (tL l), I a, I b, I bl, .bp 0 0, .bp 1 0, .bp 2 0, .und, .und, .bp 3 0, I i, .und, .und, .und, .und], seeH m ws out⟩) =
      some ⟨[.und, .und, I tag, .t (tL l), I a, I b, I bl, .bp 0 0, .bp 1 0, .bp 2 0, .und, .und, .bp 3 0, I (i + 1), .und, .und, .und, .und], seeH m ws (stepA tag (absW m tag l a b bl (nth ws i)) (nth ws i) out)⟩) ∧
    ((absW m tag l a b bl (nth ws i)).2 = 6 ∨ (absW m tag l a b bl (nth ws i)).2 = 8 → ∃ vs H, exS CALL K.ref26_Absent_l1b ⟨[.und, .und, I tag, .t (tL l), I a, I b, I bl, .bp 0 0, .bp 1 0, .bp 2 0, .und, .und, .bp 3 0, I i, .und, .und, .und, .und], seeH m ws out⟩ =
      some (.ret, ⟨vs, H⟩) ∧ vs[9]? = some (.bp 2 0) ∧ vs[10]? = some (I (absW m tag l a b bl (nth ws i)).2) ∧ H[2]? = some (.box [.t (.sl (ws.map World.e))])) := by
  unfold absW stepA putW
  have c1 := copyWorld_ok1 (nth ws i) hs
  have br := bearer_ok (nth ws i).tags tag (by have := hs.1; omega)
  have s3 := hs.2.2 _ (nth_mem (l := (nth ws i).whr) (j := (bearerF (nth ws i).tags tag).toNat) (by omega))
  have se := abs_ok h (nth (nth ws i).whr (bearerF (nth ws i).tags tag).toNat) s3 l hp a b bl
  generalize hx : nth ws i = x at *
  obtain ⟨tags, whr⟩ := x
  simp only at c1 br s3 se hb hb2 ⊢
  generalize bearerF tags tag = k at *
  generalize hy : nth whr k.toNat = y at *
  generalize absF m y l a b bl = r at *
  obtain ⟨⟨time, frm⟩, e⟩ := r
  obtain ⟨t0, f0⟩ := y
  obtain ⟨s1, s2, -⟩ := hs
  simp only at s1 s2 s3 se ⊢
  constructor
  · rintro ⟨n6, n8⟩
    by_cases e0 : e = 0
    · subst e0
      simp (disch := omega) only [go_sem, K.ref26_Absent_l1b, ↓reduceIte, seeH, hx, hy, c1, br, se, Nat.reduceAdd, Nat.reduceSub]
    · simp (disch := omega) only [go_sem, K.ref26_Absent_l1b, ↓reduceIte, seeH, hx, hy, c1, br, se, Nat.reduceAdd, Nat.reduceSub]
  · rintro (h68 | h68) <;> subst h68
    · simp (disch := omega) only [go_sem, K.ref26_Absent_l1b, ↓reduceIte, seeH, hx, hy, c1, br, se, Nat.reduceAdd, Nat.reduceSub]
      exact ⟨_, _, rfl, rfl, rfl, rfl⟩
    · simp (disch := omega) only [go_sem, K.ref26_Absent_l1b, ↓reduceIte, seeH, hx, hy, c1, br, se, Nat.reduceAdd, Nat.reduceSub]
      exact ⟨_, _, rfl, rfl, rfl, rfl⟩

def absBad (m : Mine) (tag : Int) (l : List Int) (a b bl : Int) (ws : List World) (j : Nat) : Bool := decide ((absW m tag l a b bl (nth ws j)).2 = 6 ∨ (absW m tag l a b bl (nth ws j)).2 = 8)
def absBel (m : Mine) (b : Bel) (tag : Int) (l : List Int) (a c bl : Int) : Bel × Int :=
  if borneF m b tag ≠ 0 then (b, borneF m b tag) else match (List.range b.worlds.length).find? (absBad m tag l a c bl b.worlds) with
    | some i => (b, (absW m tag l a c bl (nth b.worlds i)).2)
    | none => (⟨absNb m tag l a c bl b.worlds b.worlds.length⟩, 0)

theorem borne_0 {m : Mine} {b : Bel} {tag : Int} (e0 : borneF m b tag = 0) : belB m b = true ∧ ∀ i, i < b.worlds.length → 0 ≤ bearerF (nth b.worlds i).tags tag ∧ bearerF (nth b.worlds i).tags tag < (nth b.worlds i).whr.length := by
  have hb : belB m b = true := by
    unfold borneF at e0
    by_cases hb : belB m b = true
    · exact hb
    · rw [if_pos (by simpa using hb)] at e0; omega
  have ht : 0 ≤ bearerF (nth b.worlds 0).tags tag := by
    unfold borneF at e0
    rw [if_neg (by simp [hb])] at e0
    by_cases ht : bearerF (nth b.worlds 0).tags tag < 0
    · rw [if_pos ht] at e0; omega
    · omega
  refine ⟨hb, fun i hi => ?_⟩
  obtain ⟨-, -, -, -, h5⟩ := belB_spec hb
  obtain ⟨w1, w2, -⟩ := worldB_spec (h5 i hi)
  have b1 := belB_bearer hb ht (i := i) hi
  have b2 := (bearerF_lt b1).1
  exact ⟨b1, by omega⟩

theorem absBel_ok {m : Mine} (h : m.ok) (b : Bel) (hs : b.sz) (tag : Int) (l : List Int) (hp : l.length ≤ 1000000) (a c bl : Int) :
    CALL 0 N.ref26_Absent [.t m.e, .t b.e, I tag, .t (tL l), I a, I c, I bl] [] = some (.tup [.t (absBel m b tag l a c bl).1.e, I (absBel m b tag l a c bl).2], []) := by
  refine CALL_of K.t_ref26_Absent rfl ?_
  have cb := copyBel_ok b hs
  have bo := borne_ok h b hs tag
  unfold absBel
  by_cases e0 : borneF m b tag = 0
  · obtain ⟨hb, bb⟩ := borne_0 e0
    rw [e0] at bo
    obtain ⟨ws⟩ := b
    obtain ⟨s1, s2⟩ := hs
    simp only at s1 s2 bb cb bo ⊢
    have ln := absNb_len m tag l a c bl ws
    have loop := fun x y u v w p q r => loop_find (gc := true) (dead := [0, 1, 10, 11, 14, 15, 16, 17]) (c := K.ref26_Absent_l1b)
      (vs := [x, y, I tag, .t (tL l), I a, I c, I bl, .bp 0 0, .bp 1 0, .bp 2 0, u, v, .bp 3 0, I 0, w, p, q, r]) (H := seeH m ws [])
      (fun j => ⟨[.und, .und, I tag, .t (tL l), I a, I c, I bl, .bp 0 0, .bp 1 0, .bp 2 0, .und, .und, .bp 3 0, I j, .und, .und, .und, .und], seeH m ws (absNb m tag l a c bl ws j)⟩) ws.length (absBad m tag l a c bl ws)
      (fun j q => q.1 = .ret ∧ q.2.vs[9]? = some (.bp 2 0) ∧ q.2.vs[10]? = some (I (absW m tag l a c bl (nth ws j)).2) ∧ q.2.H[2]? = some (.box [.t (.sl (ws.map World.e))]))
      (.exit 0, ⟨[.und, .und, I tag, .t (tL l), I a, I c, I bl, .bp 0 0, .bp 1 0, .bp 2 0, .und, .und, .bp 3 0, I ws.length, .und, .und, .und, .und], seeH m ws (absNb m tag l a c bl ws ws.length)⟩) rfl
      (fun j hj hq => by
        have := ln j
        have hq : ¬ ((absW m tag l a c bl (nth ws j)).2 = 6 ∨ (absW m tag l a c bl (nth ws j)).2 = 8) := by simpa [absBad] using hq
        obtain ⟨b1, b2⟩ := bb j hj
        exact (abs_round h ws s1 tag l hp a c bl j hj (s2 _ (nth_mem hj)) b1 b2 (absNb m tag l a c bl ws j) (by omega)).1 (by omega))
      (fun j hj hq => by
        have := ln j
        have hq : (absW m tag l a c bl (nth ws j)).2 = 6 ∨ (absW m tag l a c bl (nth ws j)).2 = 8 := by simpa [absBad] using hq
        obtain ⟨b1, b2⟩ := bb j hj
        obtain ⟨vs, H, q1, q2⟩ := (abs_round h ws s1 tag l hp a c bl j hj (s2 _ (nth_mem hj)) b1 b2 (absNb m tag l a c bl ws j) (by omega)).2 hq
        exact ⟨_, q1, by simp, rfl, q2⟩)
      (by
        have := ln ws.length
        generalize absNb m tag l a c bl ws ws.length = L at *
        simp (disch := omega) only [go_sem, K.ref26_Absent_l1b, ↓reduceIte, seeH, Nat.reduceAdd, Nat.reduceSub]) (by simp)
    rcases loop (.t m.e) (.t (Bel.e ⟨ws⟩)) (I 0) (I 0) .und .und .und .und with ⟨e1, e2⟩ | ⟨j, ⟨x, vs, H⟩, e1, e2, e3, e4, e5, e6⟩
    · have e2 : exS CALL K.ref26_Absent_l1 _ = _ := e2
      simp only [seeH, List.map_nil, List.length_nil] at e2
      have := ln ws.length
      rw [e1]
      generalize absNb m tag l a c bl ws ws.length = L at *
      simp (disch := omega) only [go_sem, K.ref26_Absent, ↓reduceIte, cb, bo, e2, Nat.reduceAdd, Nat.reduceSub, ne_eq, not_true_eq_false]
    · have e2 : exS CALL K.ref26_Absent_l1 _ = _ := e2
      simp only [seeH, List.map_nil, List.length_nil] at e2
      rw [e1]
      simp only at e3 e4 e5 e6
      subst e3
      simp (disch := omega) only [go_sem, K.ref26_Absent, ↓reduceIte, cb, bo, e2, Nat.reduceAdd, Nat.reduceSub, ne_eq, not_true_eq_false, e4, e5, e6, List.take_zero]
  · obtain ⟨ws⟩ := b
    simp (disch := omega) only [go_sem, K.ref26_Absent, ↓reduceIte, cb, bo, e0, ne_eq, not_false_eq_true]

end Go.Ev

/- More laws of the laid-out evaluator: slices of live arrays; appending live elements; heaps that are not known cell by cell. -/
namespace Go.Ev
open Go

section
variable (H : Heap) (sz id ep n lo hi : Nat) (i j : Int) (fz : Bool)

def scO (r : D) : Option Obj → Option (D × Heap)
  | some (.arr sz' _ ep' es) => if ep = ep' ∧ n = es.length then (if sz' = sz then some (r, H) else none) else none
  | _ => none
@[go_sem] theorem scO_arr (r : D) (sz' : Nat) (pin : Bool) (es : List D) : scO H sz ep n r (some (.arr sz' pin ep es)) = if n = es.length then (if sz' = sz then some (r, H) else none) else none := by simp [scO]
theorem scR {l h : Nat} : ((arrAt H id ep n).bind fun a => if l ≤ h ∧ h ≤ n ∧ a.1 = sz then some (D.sub id ep n l h) else none).map (fun d => (d, H)) = if l ≤ h then (if h ≤ n then scO H sz ep n (.sub id ep n l h) H[id]? else none) else none := by
  simp only [arrAt]
  generalize H[id]? = o
  by_cases h1 : l ≤ h
  · by_cases h2 : h ≤ n
    · rw [if_pos h1, if_pos h2]
      rcases o with _ | (_ | ⟨sz', pin, ep', es⟩)
      · rfl
      · rfl
      · simp only [scO]
        by_cases h3 : ep = ep' ∧ n = es.length
        · rw [if_pos h3, if_pos h3, Option.bind_some]
          by_cases h4 : sz' = sz
          · rw [if_pos h4, if_pos ⟨h1, h2, h4⟩]; rfl
          · rw [if_neg h4, if_neg fun h => h4 h.2.2]; rfl
        · rw [if_neg h3, if_neg h3]; rfl
    · rw [if_pos h1, if_neg h2]
      rcases o with _ | (_ | ⟨sz', pin, ep', es⟩)
      · rfl
      · rfl
      · by_cases h3 : ep = ep' ∧ n = es.length
        · simp only [if_pos h3, Option.bind_some]; rw [if_neg fun h => h2 h.2.1]; rfl
        · simp only [if_neg h3]; rfl
  · rw [if_neg h1]
    rcases o with _ | (_ | ⟨sz', pin, ep', es⟩)
    · rfl
    · rfl
    · by_cases h3 : ep = ep' ∧ n = es.length
      · simp only [if_pos h3, Option.bind_some]; rw [if_neg fun h => h1 h.1]; rfl
      · simp only [if_neg h3]; rfl
@[go_sem] theorem opSc_ref_hi : opSc H sz (some (.ref id ep n)) (some none) (some (some i)) = if 0 ≤ i then (if i ≤ n then scO H sz ep n (.sub id ep n 0 i.toNat) H[id]? else none) else none := by
  simp only [opSc, Option.bind_some, sliceD, bound, idx]
  by_cases h1 : 0 ≤ i
  · rw [if_pos h1, if_pos h1, Option.bind_some, scR, if_pos (Nat.zero_le _)]
    by_cases h2 : i ≤ n
    · rw [if_pos h2, if_pos (by omega)]
    · rw [if_neg h2, if_neg (by omega)]
  · rw [if_neg h1, if_neg h1]; rfl
@[go_sem] theorem opSc_ref_lo : opSc H sz (some (.ref id ep n)) (some (some i)) (some none) = if 0 ≤ i then (if i ≤ n then scO H sz ep n (.sub id ep n i.toNat n) H[id]? else none) else none := by
  simp only [opSc, Option.bind_some, sliceD, bound, idx]
  by_cases h1 : 0 ≤ i
  · rw [if_pos h1, if_pos h1, Option.bind_some, scR]
    by_cases h2 : i ≤ n
    · rw [if_pos h2, if_pos (by omega), if_pos (by omega)]
    · rw [if_neg h2, if_neg (by omega)]
  · rw [if_neg h1, if_neg h1]; rfl
@[go_sem] theorem opSc_ref_lohi : opSc H sz (some (.ref id ep n)) (some (some i)) (some (some j)) = if 0 ≤ i then (if i ≤ j then (if j ≤ n then scO H sz ep n (.sub id ep n i.toNat j.toNat) H[id]? else none) else none) else none := by
  simp only [opSc, Option.bind_some, sliceD, bound, idx]
  by_cases h1 : 0 ≤ i
  · rw [if_pos h1, if_pos h1, Option.bind_some]
    by_cases h0 : i ≤ j
    · rw [if_pos h0, if_pos (by omega), Option.bind_some, scR, if_pos (by omega)]
      by_cases h2 : j ≤ n
      · rw [if_pos h2, if_pos (by omega)]
      · rw [if_neg h2, if_neg (by omega)]
    · rw [if_neg h0]
      by_cases h2 : 0 ≤ j
      · rw [if_pos h2, Option.bind_some, scR, if_neg (by omega)]
      · rw [if_neg h2]; rfl
  · rw [if_neg h1, if_neg h1]; rfl
@[go_sem] theorem opSc_nil_hi : opSc H sz (some .nil) (some none) (some (some i)) = if i = 0 then some (.nil, H) else none := by
  simp only [opSc, Option.bind_some, sliceD, bound, idx]
  by_cases h1 : 0 ≤ i
  · rw [if_pos h1, Option.bind_some]
    by_cases h2 : i = 0
    · rw [if_pos h2, if_pos (by omega)]; rfl
    · rw [if_neg h2, if_neg (by omega)]; rfl
  · rw [if_neg h1, if_neg (by omega)]; rfl
@[go_sem] theorem opSc_nil_lo : opSc H sz (some .nil) (some (some i)) (some none) = if i = 0 then some (.nil, H) else none := by
  simp only [opSc, Option.bind_some, sliceD, bound, idx]
  by_cases h1 : 0 ≤ i
  · rw [if_pos h1, Option.bind_some]
    by_cases h2 : i = 0
    · rw [if_pos h2, if_pos (by omega)]; rfl
    · rw [if_neg h2, if_neg (by omega)]; rfl
  · rw [if_neg h1, if_neg (by omega)]; rfl

/- appending elements that stay live -/
def appD (x : D) (ys : List D) : Option (D × Heap) := if headSize sz ys = true then (match x with
    | .nil => if ys.length ≤ 4294967296 then some (.ref H.length 0 ys.length, H ++ [.arr sz false 0 ys]) else none
    | .ref id ep n => appRef H sz id ep n ys H[id]?
    | _ => none) else none
@[go_sem] theorem appD_nil (ys : List D) : appD H sz .nil ys = if headSize sz ys = true then (if ys.length ≤ 4294967296 then some (.ref H.length 0 ys.length, H ++ [.arr sz false 0 ys]) else none) else none := (rfl)
@[go_sem] theorem appD_ref (ys : List D) : appD H sz (.ref id ep n) ys = if headSize sz ys = true then appRef H sz id ep n ys H[id]? else none := (rfl)
@[go_sem] theorem headSize_nil : headSize sz [] = true := (rfl)
@[go_sem] theorem headSize_cons (d : D) (r : List D) : headSize sz (d :: r) = lenIs sz d.cells := by
  rw [Bool.eq_iff_iff, lenIs_iff]; simp [headSize]

def elsO (x : D) : Option Obj → Option (D × Heap)
  | some (.arr _ _ ep' es) => if ep = ep' ∧ n = es.length then appD H sz x ((es.drop lo).take (hi - lo)) else none
  | _ => none
def elsR (x : D) : Option Obj → Option (D × Heap)
  | some (.arr _ _ ep' es) => if ep = ep' ∧ n = es.length then appD H sz x es else none
  | _ => none
@[go_sem] theorem elsO_arr (x : D) (sz' : Nat) (pin : Bool) (es : List D) : elsO H sz ep n lo hi x (some (.arr sz' pin ep es)) = if n = es.length then appD H sz x ((es.drop lo).take (hi - lo)) else none := by simp [elsO]
@[go_sem] theorem elsR_arr (x : D) (sz' : Nat) (pin : Bool) (es : List D) : elsR H sz ep n x (some (.arr sz' pin ep es)) = if n = es.length then appD H sz x es else none := by simp [elsR]

theorem appD_is (x : D) (ys : List D) : (if headSize sz ys = true then (match x with
    | .nil => if ys.length ≤ lim then some (D.ref H.length 0 ys.length, H ++ [.arr sz false 0 ys]) else none
    | .ref id ep n => (arrAt H id ep n).bind fun a => if a.1 = sz ∧ n + ys.length ≤ lim then some (.ref id ep (n + ys.length), H.set id (.arr sz a.2.1 ep (a.2.2 ++ ys))) else none
    | _ => none) else none) = appD H sz x ys := by
  unfold appD
  split
  · cases x with
    | ref id ep n =>
      simp only [arrAt]
      generalize H[id]? = o
      rcases o with _ | (_ | ⟨sz', pin, ep', es⟩)
      · rfl
      · rfl
      · simp only [appRef]
        by_cases h1 : ep = ep' ∧ n = es.length
        · rw [if_pos h1, Option.bind_some]
          by_cases h2 : sz' = sz ∧ n + ys.length ≤ lim
          · rw [if_pos h2, if_pos ⟨h1.1, h1.2, h2⟩]
          · rw [if_neg h2, if_neg fun h => h2 h.2.2]
        · rw [if_neg h1, if_neg fun h => h1 ⟨h.1, h.2.1⟩]; rfl
    | _ => rfl
  · rfl

theorem opApp_live (x y : D) (ys : List D) (h : elems H y = some ys) : opApp H sz false (some x) (some y) = appD H sz x ys := by
  simp only [opApp, Option.bind_some, appendD, h, Bool.false_eq_true, if_false]
  exact appD_is H sz x ys
@[go_sem] theorem opApp_live_nil (x : D) : opApp H sz false (some x) (some .nil) = appD H sz x [] := opApp_live H sz x .nil [] rfl
@[go_sem] theorem opApp_live_ref (x : D) : opApp H sz false (some x) (some (.ref id ep n)) = elsR H sz ep n x H[id]? := by
  cases he : elems H (.ref id ep n) with
  | some ys =>
    rw [opApp_live H sz x _ ys he]
    simp only [elems, arrAt] at he
    generalize H[id]? = o at he
    rcases o with _ | (_ | ⟨sz', pin, ep', es⟩)
    · cases he
    · cases he
    · simp only [elsR]
      by_cases h1 : ep = ep' ∧ n = es.length
      · simp only [if_pos h1] at he ⊢; cases he; rfl
      · simp only [if_neg h1] at he; cases he
  | none =>
    have : opApp H sz false (some x) (some (.ref id ep n)) = none := by simp only [opApp, Option.bind_some, appendD, he]; rfl
    rw [this]
    simp only [elems, arrAt] at he
    generalize H[id]? = o at he
    rcases o with _ | (_ | ⟨sz', pin, ep', es⟩)
    · rfl
    · rfl
    · simp only [elsR]
      by_cases h1 : ep = ep' ∧ n = es.length
      · simp only [if_pos h1] at he; cases he
      · simp only [if_neg h1]
@[go_sem] theorem opApp_live_sub (x : D) : opApp H sz false (some x) (some (.sub id ep n lo hi)) = elsO H sz ep n lo hi x H[id]? := by
  cases he : elems H (.sub id ep n lo hi) with
  | some ys =>
    rw [opApp_live H sz x _ ys he]
    simp only [elems, arrAt] at he
    generalize H[id]? = o at he
    rcases o with _ | (_ | ⟨sz', pin, ep', es⟩)
    · cases he
    · cases he
    · simp only [elsO]
      by_cases h1 : ep = ep' ∧ n = es.length
      · simp only [if_pos h1] at he ⊢; cases he; rfl
      · simp only [if_neg h1] at he; cases he
  | none =>
    have : opApp H sz false (some x) (some (.sub id ep n lo hi)) = none := by simp only [opApp, Option.bind_some, appendD, he]; rfl
    rw [this]
    simp only [elems, arrAt] at he
    generalize H[id]? = o at he
    rcases o with _ | (_ | ⟨sz', pin, ep', es⟩)
    · rfl
    · rfl
    · simp only [elsO]
      by_cases h1 : ep = ep' ∧ n = es.length
      · simp only [if_pos h1] at he; cases he
      · simp only [if_neg h1]

def opBsr (ds : List D) : Option (D × Heap) := if ds.all (fun d => d.cells.length == sz && d.solid) then some (.ref H.length 0 ds.length, H ++ [.arr sz false 0 ds]) else none
@[go_sem] theorem ev_bsr (call : Oracle) (get : X → Option D) (xs : List X) : evO call get H (.bsr xs sz) = (mapO get xs).bind (opBsr H sz) := (rfl)
@[go_sem] theorem opBsr_agg (cs : List D) : opBsr H sz [.agg cs] = if lenIs sz cs = true then some (.ref H.length 0 1, H ++ [.arr sz false 0 [.agg cs]]) else none := by
  simp only [opBsr, List.all_cons, List.all_nil, Bool.and_true, D.cells, D.solid]
  by_cases h : lenIs sz cs = true
  · rw [if_pos h, if_pos (by simpa using lenIs_iff.1 h)]; rfl
  · rw [if_neg h, if_neg (by intro e; exact h (lenIs_iff.2 (by simpa using e)))]
end

@[go_sem] theorem q_toNat_one' : (1 : Int).toNat = 1 := (rfl)
@[go_sem] theorem q_toNat_two : (2 : Int).toNat = 2 := (rfl)
@[go_sem] theorem q_toNat_three : (3 : Int).toNat = 3 := (rfl)

/- heaps that are not known cell by cell -/
section
variable {H t : Heap} {i j k : Nat} {o o' : Obj}
theorem hp_get (h : i < H.length) : (H ++ t)[i]? = H[i]? := List.getElem?_append_left h
theorem hp_get_len : (H ++ t)[H.length]? = t[0]? := by rw [List.getElem?_append_right (Nat.le_refl _), Nat.sub_self]
theorem hp_get_add : (H ++ t)[H.length + k]? = t[k]? := by rw [List.getElem?_append_right (Nat.le_add_right _ _), Nat.add_sub_cancel_left]
theorem hp_set (h : i < H.length) : (H ++ t).set i o = H.set i o ++ t := List.set_append_left _ _ h
theorem hp_set_len : (H ++ t).set H.length o = H ++ t.set 0 o := by rw [List.set_append_right _ _ (Nat.le_refl _), Nat.sub_self]
theorem hp_set_add : (H ++ t).set (H.length + k) o = H ++ t.set k o := by rw [List.set_append_right _ _ (Nat.le_add_right _ _), Nat.add_sub_cancel_left]
theorem hp_set_get (h : i < H.length) : (H.set i o)[i]? = some o := by simp [h]
theorem hp_set_ne (h : i ≠ j) : (H.set i o)[j]? = H[j]? := List.getElem?_set_ne h
theorem hp_set_set : (H.set i o).set i o' = H.set i o' := List.set_set ..
theorem hp_assoc (a b : Heap) : (H ++ a) ++ b = H ++ (a ++ b) := List.append_assoc ..
theorem hp_lt (h : H[i]? = some o) : i < H.length := (List.getElem?_eq_some_iff.1 h).1
end

/-- The end of a function whose result is a live array of elements that are frozen then. -/
theorem finish_live (H : Heap) (id sz n : Nat) (es : List D) (ts : List T) (hid : H[id]? = some (.arr sz false 0 es)) (hn : n = es.length) (hf : mapO (frz H 8) es = some ts) (ha : ∀ i ∈ es.flatMap (arrs H 8), i ≠ id) :
    finish 0 1 H [.ref id 0 n] = some (.ref 0 0 n, [.arr sz false 0 (ts.map .t)]) := by
  have hold : ([D.ref id 0 n].all (old 0 depth) && (H.take 0).all (fun o => o.ds.all (old 0 depth))) = false := by
    simp [old, depth]
  have hmap : ∀ {es : List D} {ts : List T}, mapO (frz H 8) es = some ts → mapO (fun d => (frz H 8 d).map D.t) es = some (ts.map .t) := by
    intro es
    induction es with
    | nil => intro ts h; simp [mapO] at h; subst h; rfl
    | cons e es ih =>
      intro ts h
      simp only [mapO, Option.bind_eq_some_iff, Option.map_eq_some_iff] at h
      obtain ⟨y, hy, r, hr, rfl⟩ := h
      simp only [mapO, hy, Option.map_some, Option.bind_some, ih hr, List.map_cons]
  have hnew : (addNew [] [id]).drop 0 = [id] := by simp [addNew]
  have hall : (es.flatMap (arrs H 8)).all (fun i => !([] ++ [id]).contains i) = true := by
    rw [List.all_eq_true]; intro i hi; simpa using ha i hi
  unfold finish
  rw [if_neg (by omega), Option.bind_some, hold, if_neg (by simp)]
  have hk : keepLv H (max 1 1) (List.range 0) ([D.ref id 0 n].flatMap (ids depth) ++ idsOf H (List.range 0)) = some ([id], [.arr sz false 0 (ts.map .t)]) := by
    have e1 : [D.ref id 0 n].flatMap (ids depth) ++ idsOf H (List.range 0) = [id] := by simp [ids, depth, idsOf]
    rw [e1]
    simp only [Nat.max_self, List.range_zero]
    unfold keepLv
    simp only [List.length_nil, hnew, pick, hid, Option.bind_some, Option.map_some, if_true, List.flatMap_cons, List.flatMap_nil, List.append_nil, Obj.ds, depth, hall, mapO, freezeArr, hmap hf]
    simp only [keepLv, Option.map_some, List.append_nil, Option.bind_some]
  rw [hk]
  simp only [Option.bind_some, List.range_zero, List.nil_append, List.take_zero, resArrs, Nat.succ_ne_zero, if_false, Nat.one_ne_zero, List.all_nil, if_true, mapO, ren, idxOf, Option.map_some, renObj, tupOf, depth]
  have := ren_map (fun i => if id = i then some 0 else Option.map (fun x => x + 1) none) ts
  simp only [depth] at this
  rw [this]; rfl

end Go.Ev

/- Chapter 26 of the references: worlds are tidied. -/
namespace Go.Ev
open Go
variable [Lib] [Has1] [Has2]

/-- A loop, by a relation that holds ahead of each round. -/
theorem loop_inv {gc : Bool} {dead : List Nat} {c : C} {vs : List D} {H : Heap} (P : Nat → St → Prop) (n : Nat) (Q : Ex × St → Prop) (h0 : P 0 ⟨dropV dead vs, H⟩)
    (hs : ∀ j st, j < n → P j st → ∃ st', roundC gc dead st.H.length (exS CALL c st) = some st' ∧ P (j + 1) st')
    (he : ∀ st, P n st → ∃ q, exS CALL c st = some q ∧ q.1 ≠ .normal ∧ Q q) : ∃ q, exS CALL (.loop gc dead c) ⟨vs, H⟩ = some q ∧ Q q := by
  have key : ∀ (k j : Nat) (st : St), j + k = n → P j st → ∃ q, loopC gc dead (exS CALL c) st = some q ∧ Q q := by
    intro k
    induction k with
    | zero =>
      intro j st hj hp
      obtain ⟨q, h1, h2, h3⟩ := he st (by rw [← hj]; exact hp)
      exact ⟨q, loopC_exit h1 h2, h3⟩
    | succ k ih =>
      intro j st hj hp
      obtain ⟨st', h1, h2⟩ := hs j st (by omega) hp
      obtain ⟨q, h3, h4⟩ := ih (j + 1) st' (by omega) h2
      exact ⟨q, loopC_step h1 h3, h4⟩
  exact key n 0 _ (by omega) h0

abbrev ints (l : List Int) : List D := (l.map (T.int .i64)).map .t
abbrev whs (l : List Wh) : List D := (l.map Wh.e).map .t

/-- Where a world belongs in an ordered list. -/
def tidyK (out : List World) (x : World) : Nat := match (List.range out.length).find? (fun k => !lessB (nth out k).tags x.tags) with
  | some k => k
  | none => out.length
theorem tidyK_le (out : List World) (x : World) : tidyK out x ≤ out.length := by
  unfold tidyK
  split
  · rename_i k h; exact Nat.le_of_lt (find_lt h).1
  · exact Nat.le_refl _
def joinN (a b : List Wh) : Nat → List Wh
  | 0 => a
  | p + 1 => (joinN a b p).set p (joinF (nth a p) (nth b p)).1
theorem joinN_len (a b : List Wh) : ∀ p, (joinN a b p).length = a.length
  | 0 => rfl
  | p + 1 => by simp only [joinN, List.length_set, joinN_len a b p]
theorem joinN_nth (a b : List Wh) : ∀ p q, p ≤ q → nth (joinN a b p) q = nth a q
  | 0, q, _ => rfl
  | p + 1, q, h => by
    have e : nth ((joinN a b p).set p (joinF (nth a p) (nth b p)).1) q = nth (joinN a b p) q := by
      unfold nth; rw [List.getD_eq_getElem?_getD, List.getElem?_set_ne (by omega), ← List.getD_eq_getElem?_getD]
    simp only [joinN, e]
    exact joinN_nth a b p q (by omega)
def joinWs (a b : List Wh) : List Wh := joinN a b (min a.length b.length)
def tidy1 (out : List World) (x : World) : List World :=
  if tidyK out x < out.length ∧ (nth out (tidyK out x)).tags = x.tags then out.set (tidyK out x) ⟨x.tags, joinWs (nth out (tidyK out x)).whr x.whr⟩
  else out.take (tidyK out x) ++ [x] ++ out.drop (tidyK out x)
def tidyN (l : List World) : Nat → List World
  | 0 => []
  | j + 1 => tidy1 (tidyN l j) (nth l j)
def tidyF (l : List World) : List World := tidyN l l.length

/-- A list of worlds in a heap: an array of pairs of arrays. -/
structure Rp (H : Heap) (id : Nat) (es : List D) (fa fb : Nat → Nat) (out : List World) : Prop where
  arr : H[id]? = some (.arr 2 false 0 es)
  len : es.length = out.length
  el : ∀ j, j < out.length → es[j]? = some (.agg [.ref (fa j) 0 (nth out j).tags.length, .ref (fb j) 0 (nth out j).whr.length])
  ha : ∀ j, j < out.length → H[fa j]? = some (.arr 1 false 0 (ints (nth out j).tags))
  hb : ∀ j, j < out.length → H[fb j]? = some (.arr 2 false 0 (whs (nth out j).whr))
  na : ∀ j, j < out.length → fa j ≠ id
  nb : ∀ j, j < out.length → fb j ≠ id
  nab : ∀ i j, i < out.length → j < out.length → fa i ≠ fb j
  nbb : ∀ i j, i < out.length → j < out.length → i ≠ j → fb i ≠ fb j

def Rep (H : Heap) (v : D) (out : List World) : Prop := (v = .nil ∧ out = []) ∨ ∃ id es fa fb, v = .ref id 0 out.length ∧ 0 < out.length ∧ Rp H id es fa fb out

theorem tidy_l2 (l : List World) (i : Nat) (hi : i < l.length) (out : List World) (ho : out.length ≤ 1000000) (hso : ∀ x ∈ out, x.sz) (hsx : (nth l i).sz) (H : Heap) (v : D) (hr : Rep H v out) (a b : D) :
    exS CALL K.ref26_Tidy_l2 ⟨[.t (.sl (l.map World.e)), a, v, I i, I 0, b], H⟩ = some (.exit 2, ⟨[.t (.sl (l.map World.e)), .und, v, I i, I (tidyK out (nth l i)), .und], H⟩) := by
  rcases hr with ⟨rfl, rfl⟩ | ⟨id, es, fa, fb, rfl, h0, hr⟩
  · have : tidyK [] (nth l i) = 0 := rfl
    rw [this]
    refine loop_is (loopC_exit ?_ (by simp))
    simp (disch := omega) only [go_sem, K.ref26_Tidy_l2b, ↓reduceIte, Nat.reduceAdd, Nat.reduceSub]
  · have key : exS CALL K.ref26_Tidy_l2 ⟨[.t (.sl (l.map World.e)), a, .ref id 0 out.length, I i, I 0, b], H⟩ = some (match (List.range out.length).find? (fun k => !lessB (nth out k).tags (nth l i).tags) with
        | some k => (.exit 2, ⟨[.t (.sl (l.map World.e)), .und, .ref id 0 out.length, I i, I k, .und], H⟩)
        | none => (.exit 2, ⟨[.t (.sl (l.map World.e)), .und, .ref id 0 out.length, I i, I out.length, .und], H⟩)) := by
      refine loop_first (fun k => ⟨[.t (.sl (l.map World.e)), .und, .ref id 0 out.length, I i, I k, .und], H⟩) out.length _ _ _ rfl ?_ ?_ ?_ (by simp)
      · intro k hk hp
        have hp : lessB (nth out k).tags (nth l i).tags = true := by simpa using hp
        have s1 := (hso _ (nth_mem hk)).1
        have s2 := hsx.1
        have ls := less_ok (nth out k).tags (nth l i).tags s1 s2
        have e1 := hr.arr
        have e2 := hr.len
        have e3 := hr.el k hk
        have e4 := hr.ha k hk
        generalize nth out k = y at *
        obtain ⟨ta, wa⟩ := y
        generalize hx : nth l i = x at *
        obtain ⟨tb, wb⟩ := x
        simp only at s1 s2 ls e3 e4 hp
        simp (disch := omega) only [go_sem, K.ref26_Tidy_l2b, ↓reduceIte, Nat.reduceAdd, Nat.reduceSub, e1, e2, e3, e4, hx, ls, hp]
        done
      · intro k hk hp
        have hp : lessB (nth out k).tags (nth l i).tags = false := by simpa using hp
        have s1 := (hso _ (nth_mem hk)).1
        have s2 := hsx.1
        have ls := less_ok (nth out k).tags (nth l i).tags s1 s2
        have e1 := hr.arr
        have e2 := hr.len
        have e3 := hr.el k hk
        have e4 := hr.ha k hk
        generalize nth out k = y at *
        obtain ⟨ta, wa⟩ := y
        generalize hx : nth l i = x at *
        obtain ⟨tb, wb⟩ := x
        simp only at s1 s2 ls e3 e4 hp
        refine ⟨?_, by simp⟩
        simp (disch := omega) only [go_sem, K.ref26_Tidy_l2b, ↓reduceIte, Nat.reduceAdd, Nat.reduceSub, e1, e2, e3, e4, hx, ls, hp]
        done
      · simp (disch := omega) only [go_sem, K.ref26_Tidy_l2b, ↓reduceIte, Nat.reduceAdd, Nat.reduceSub]
    rw [key]
    unfold tidyK
    cases (List.range out.length).find? (fun k => !lessB (nth out k).tags (nth l i).tags) <;> rfl

@[go_sem] theorem joinT_eq (a b : Wh) : (joinF a b).1.e = .agg [tI (joinF a b).1.time, tL (joinF a b).1.frm] := rfl

theorem tidy_l3 (l : List World) (i : Nat) (hi : i < l.length) (out : List World) (ho : out.length ≤ 1000000) (hso : ∀ x ∈ out, x.sz) (hsx : (nth l i).sz) (H : Heap) (id : Nat) (es : List D) (fa fb : Nat → Nat)
    (hr : Rp H id es fa fb out) (k : Nat) (hk : k < out.length) (a : D) :
    exS CALL K.ref26_Tidy_l3 ⟨[.t (.sl (l.map World.e)), a, .ref id 0 out.length, I i, I k, I 0], H⟩ =
    some (.exit 4, ⟨[.t (.sl (l.map World.e)), .und, .ref id 0 out.length, I i, I k, I ((min (nth out k).whr.length (nth l i).whr.length : Nat) : Int)], H.set (fb k) (.arr 2 false 0 (whs (joinWs (nth out k).whr (nth l i).whr)))⟩) := by
  have e1 := hr.arr
  have e2 := hr.len
  have e3 := hr.el k hk
  have e5 := hr.hb k hk
  have e6 := hr.nb k hk
  have e7 := hp_lt e5
  obtain ⟨s1, s2, s3⟩ := hso _ (nth_mem hk)
  obtain ⟨x1, x2, x3⟩ := hsx
  generalize nth out k = y at *
  obtain ⟨ta, wa⟩ := y
  generalize hx : nth l i = x at *
  obtain ⟨tb, wb⟩ := x
  simp only at s1 s2 s3 x1 x2 x3 e3 e5 ⊢
  have jl := joinN_len wa wb
  have q1 : ∀ o, (H.set (fb k) o)[id]? = H[id]? := fun o => hp_set_ne e6
  have q2 : ∀ o, (H.set (fb k) o)[fb k]? = some o := fun o => hp_set_get e7
  refine loop_up (fun p => ⟨[.t (.sl (l.map World.e)), .und, .ref id 0 out.length, I i, I k, I p], H.set (fb k) (.arr 2 false 0 (whs (joinN wa wb p)))⟩) (min wa.length wb.length) ?_ ?_ ?_ (by simp)
  · show (⟨_, H⟩ : St) = ⟨_, H.set (fb k) (.arr 2 false 0 (whs wa))⟩
    rw [set_self e5]; rfl
  · intro p hp
    have jp := jl p
    have jn := joinN_nth wa wb p p (Nat.le_refl _)
    have jo := join_ok (nth wa p) (nth wb p) (s3 _ (nth_mem (by omega)))
    have hj : joinN wa wb (p + 1) = (joinN wa wb p).set p (joinF (nth wa p) (nth wb p)).1 := rfl
    rw [hj]
    generalize joinN wa wb p = J at *
    generalize hu : nth wb p = u at *
    generalize nth wa p = w at *
    generalize joinF w u = r at *
    obtain ⟨⟨rt, rf⟩, re⟩ := r
    simp only at jo ⊢
    simp (disch := omega) only [go_sem, K.ref26_Tidy_l3b, ↓reduceIte, Nat.reduceAdd, Nat.reduceSub, q1, q2, e1, e2, e3, hp_set_set, hx, hu, jn, jo]
  · have jp := jl (min wa.length wb.length)
    have hj : joinWs wa wb = joinN wa wb (min wa.length wb.length) := rfl
    rw [hj]
    generalize joinN wa wb (min wa.length wb.length) = J at *
    by_cases c : wa.length ≤ wb.length
    · simp (disch := omega) only [go_sem, K.ref26_Tidy_l3b, ↓reduceIte, Nat.reduceAdd, Nat.reduceSub, q1, q2, e1, e2, e3, hp_set_set, hx, Nat.min_eq_left c]
    · have hm : min wa.length wb.length = wb.length := by omega
      simp (disch := omega) only [go_sem, K.ref26_Tidy_l3b, ↓reduceIte, Nat.reduceAdd, Nat.reduceSub, q1, q2, e1, e2, e3, hp_set_set, hx, hm]

theorem headSize_all {sz : Nat} {l : List D} (h : ∀ e ∈ l, e.cells.length = sz) : headSize sz l = true := by
  cases l with
  | nil => rfl
  | cons d r => rw [headSize_cons, lenIs_iff]; exact h d List.mem_cons_self

theorem Rp.size {H : Heap} {id : Nat} {es : List D} {fa fb : Nat → Nat} {out : List World} (hr : Rp H id es fa fb out) : ∀ e ∈ es, e.cells.length = 2 := by
  intro e he
  obtain ⟨j, hj⟩ := List.mem_iff_getElem?.1 he
  have hl := (List.getElem?_eq_some_iff.1 hj).1
  rw [hr.el j (by rw [← hr.len]; exact hl)] at hj
  cases hj; rfl

theorem ins_get {α : Type} (l : List α) (k : Nat) (hk : k ≤ l.length) (x : α) (j : Nat) : (l.take k ++ [x] ++ l.drop k)[j]? = if j < k then l[j]? else if j = k then some x else l[j - 1]? := by
  have hl : (l.take k).length = k := by rw [List.length_take]; omega
  rw [List.append_assoc]
  by_cases h1 : j < k
  · rw [if_pos h1, List.getElem?_append_left (by omega), List.getElem?_take_of_lt h1]
  · rw [if_neg h1, List.getElem?_append_right (by omega), hl]
    by_cases h2 : j = k
    · rw [if_pos h2, h2, Nat.sub_self]; rfl
    · rw [if_neg h2, List.getElem?_append_right (by simp; omega)]
      simp only [List.length_singleton, List.getElem?_drop]
      congr 1; omega
theorem ins_nth {α : Type} [Dat α] (l : List α) (k : Nat) (hk : k ≤ l.length) (x : α) (j : Nat) : nth (l.take k ++ [x] ++ l.drop k) j = if j < k then nth l j else if j = k then x else nth l (j - 1) := by
  unfold nth
  rw [List.getD_eq_getElem?_getD, ins_get l k hk]
  split
  · rw [List.getD_eq_getElem?_getD]
  · split
    · rfl
    · rw [List.getD_eq_getElem?_getD]
theorem set_nth {α : Type} [Dat α] (l : List α) (k : Nat) (hk : k < l.length) (x : α) (j : Nat) : nth (l.set k x) j = if j = k then x else nth l j := by
  unfold nth
  rw [List.getD_eq_getElem?_getD]
  by_cases h : j = k
  · rw [if_pos h, h, List.getElem?_set_self hk]; rfl
  · rw [if_neg h, List.getElem?_set_ne (fun e => h e.symm), List.getD_eq_getElem?_getD]

theorem Rp.ins {H : Heap} {id : Nat} {es : List D} {fa fb : Nat → Nat} {out : List World} (hr : Rp H id es fa fb out) {k : Nat} (hk : k ≤ out.length) (x : World) (o : Obj) :
    Rp (H ++ [.arr 2 false 0 (es.take k ++ [.agg [.ref (H.length + 1) 0 x.tags.length, .ref (H.length + 2) 0 x.whr.length]] ++ es.drop k), .arr 1 false 0 (ints x.tags), .arr 2 false 0 (whs x.whr), o]) H.length
      (es.take k ++ [.agg [.ref (H.length + 1) 0 x.tags.length, .ref (H.length + 2) 0 x.whr.length]] ++ es.drop k)
      (fun j => if j < k then fa j else if j = k then H.length + 1 else fa (j - 1)) (fun j => if j < k then fb j else if j = k then H.length + 2 else fb (j - 1)) (out.take k ++ [x] ++ out.drop k) := by
  have ol : (out.take k ++ [x] ++ out.drop k).length = out.length + 1 := by
    rw [List.length_append, List.length_append, List.length_take, List.length_drop, List.length_singleton]; omega
  have e2 := hr.len
  have ba : ∀ j, j < out.length → fa j < H.length := fun j hj => hp_lt (hr.ha j hj)
  have bb : ∀ j, j < out.length → fb j < H.length := fun j hj => hp_lt (hr.hb j hj)
  refine ⟨hp_get_len, ?_, ?_, ?_, ?_, ?_, ?_, ?_, ?_⟩
  · rw [ol, List.length_append, List.length_append, List.length_take, List.length_drop, List.length_singleton]; omega
  · intro j hj
    rw [ol] at hj
    simp only [ins_get es k (by omega), ins_nth out k hk]
    by_cases h1 : j < k
    · simp only [if_pos h1]; exact hr.el j (by omega)
    · by_cases h2 : j = k
      · simp only [if_neg h1, if_pos h2]
      · simp only [if_neg h1, if_neg h2]; exact hr.el (j - 1) (by omega)
  · intro j hj
    rw [ol] at hj
    simp only [ins_nth out k hk]
    by_cases h1 : j < k
    · simp only [if_pos h1]; rw [hp_get (ba j (by omega))]; exact hr.ha j (by omega)
    · by_cases h2 : j = k
      · simp only [if_neg h1, if_pos h2]; rw [hp_get_add]; rfl
      · simp only [if_neg h1, if_neg h2]; rw [hp_get (ba (j - 1) (by omega))]; exact hr.ha (j - 1) (by omega)
  · intro j hj
    rw [ol] at hj
    simp only [ins_nth out k hk]
    by_cases h1 : j < k
    · simp only [if_pos h1]; rw [hp_get (bb j (by omega))]; exact hr.hb j (by omega)
    · by_cases h2 : j = k
      · simp only [if_neg h1, if_pos h2]; rw [hp_get_add]; rfl
      · simp only [if_neg h1, if_neg h2]; rw [hp_get (bb (j - 1) (by omega))]; exact hr.hb (j - 1) (by omega)
  · intro j hj
    rw [ol] at hj
    have b1 := ba j
    have b2 := ba (j - 1)
    split
    · have := b1 (by omega); omega
    · split
      · omega
      · have := b2 (by omega); omega
  · intro j hj
    rw [ol] at hj
    have b1 := bb j
    have b2 := bb (j - 1)
    split
    · have := b1 (by omega); omega
    · split
      · omega
      · have := b2 (by omega); omega
  · intro i j hi hj
    rw [ol] at hi hj
    have a1 := ba i
    have a2 := ba (i - 1)
    have b1 := bb j
    have b2 := bb (j - 1)
    by_cases h1 : i < k
    · rw [if_pos h1]
      have := a1 (by omega)
      by_cases h2 : j < k
      · rw [if_pos h2]; exact hr.nab i j (by omega) (by omega)
      · rw [if_neg h2]
        by_cases h3 : j = k
        · rw [if_pos h3]; omega
        · rw [if_neg h3]; exact hr.nab i (j - 1) (by omega) (by omega)
    · rw [if_neg h1]
      by_cases h4 : i = k
      · rw [if_pos h4]
        split
        · have := b1 (by omega); omega
        · split
          · omega
          · have := b2 (by omega); omega
      · rw [if_neg h4]
        have := a2 (by omega)
        by_cases h2 : j < k
        · rw [if_pos h2]; exact hr.nab (i - 1) j (by omega) (by omega)
        · rw [if_neg h2]
          by_cases h3 : j = k
          · rw [if_pos h3]; omega
          · rw [if_neg h3]; exact hr.nab (i - 1) (j - 1) (by omega) (by omega)
  · intro i j hi hj hne
    rw [ol] at hi hj
    have a1 := bb i
    have a2 := bb (i - 1)
    have b1 := bb j
    have b2 := bb (j - 1)
    by_cases h1 : i < k
    · rw [if_pos h1]
      have := a1 (by omega)
      by_cases h2 : j < k
      · rw [if_pos h2]; exact hr.nbb i j (by omega) (by omega) hne
      · rw [if_neg h2]
        by_cases h3 : j = k
        · rw [if_pos h3]; omega
        · rw [if_neg h3]; exact hr.nbb i (j - 1) (by omega) (by omega) (by omega)
    · rw [if_neg h1]
      by_cases h4 : i = k
      · rw [if_pos h4]
        split
        · have := b1 (by omega); omega
        · split
          · omega
          · have := b2 (by omega); omega
      · rw [if_neg h4]
        have := a2 (by omega)
        by_cases h2 : j < k
        · rw [if_pos h2]; exact hr.nbb (i - 1) j (by omega) (by omega) (by omega)
        · rw [if_neg h2]
          by_cases h3 : j = k
          · rw [if_pos h3]; omega
          · rw [if_neg h3]; exact hr.nbb (i - 1) (j - 1) (by omega) (by omega) (by omega)

theorem Rp.merge {H : Heap} {id : Nat} {es : List D} {fa fb : Nat → Nat} {out : List World} (hr : Rp H id es fa fb out) {k : Nat} (hk : k < out.length) (x : World) (ht : (nth out k).tags = x.tags) (hw : x.whr.length = (nth out k).whr.length) :
    Rp (H.set (fb k) (.arr 2 false 0 (whs x.whr))) id es fa fb (out.set k x) := by
  have ol : (out.set k x).length = out.length := List.length_set
  have nk := hr.nb k hk
  have kl := hp_lt (hr.hb k hk)
  refine ⟨by rw [hp_set_ne nk]; exact hr.arr, by rw [ol]; exact hr.len, ?_, ?_, ?_, by rw [ol]; exact hr.na, by rw [ol]; exact hr.nb, by rw [ol]; exact hr.nab, by rw [ol]; exact hr.nbb⟩
  · intro j hj
    rw [ol] at hj
    rw [hr.el j hj, set_nth out k hk]
    by_cases h : j = k
    · rw [if_pos h, h, ht, hw]
    · rw [if_neg h]
  · intro j hj
    rw [ol] at hj
    rw [hp_set_ne (fun e => hr.nab j k hj hk e.symm), hr.ha j hj, set_nth out k hk]
    by_cases h : j = k
    · rw [if_pos h, h, ht]
    · rw [if_neg h]
  · intro j hj
    rw [ol] at hj
    rw [set_nth out k hk]
    by_cases h : j = k
    · rw [if_pos h, h, hp_set_get kl]
    · rw [if_neg h, hp_set_ne (fun e => hr.nbb j k hj hk h e.symm)]; exact hr.hb j hj

theorem tidy_round (l : List World) (i : Nat) (hi : i < l.length) (hl : l.length ≤ 1000000) (out : List World) (ho : out.length ≤ 999999) (hso : ∀ x ∈ out, x.sz) (hsx : (nth l i).sz) (H : Heap) (v : D) (hr : Rep H v out) :
    ∃ v' H', roundC false [1, 4, 5] H.length (exS CALL K.ref26_Tidy_l1b ⟨[.t (.sl (l.map World.e)), .und, v, I i, .und, .und], H⟩) = some ⟨[.t (.sl (l.map World.e)), .und, v', I (i + 1), .und, .und], H'⟩ ∧ Rep H' v' (tidy1 out (nth l i)) := by
  have l2 := tidy_l2 l i hi out (by omega) hso hsx H v hr
  have kl := tidyK_le out (nth l i)
  have cw := copyWorld_ok1 (nth l i) hsx
  rcases hr with ⟨rfl, rfl⟩ | ⟨id, es, fa, fb, rfl, h0, hr⟩
  · have k0 : tidyK [] (nth l i) = 0 := rfl
    rw [k0] at l2
    have t1 : tidy1 [] (nth l i) = [nth l i] := rfl
    rw [t1]
    generalize hx : nth l i = x at *
    obtain ⟨tb, wb⟩ := x
    simp only at cw
    have run : roundC false [1, 4, 5] H.length (exS CALL K.ref26_Tidy_l1b ⟨[.t (.sl (l.map World.e)), .und, .nil, I i, .und, .und], H⟩) =
        some ⟨[.t (.sl (l.map World.e)), .und, .ref H.length 0 1, I (i + 1), .und, .und], H ++ [.arr 2 false 0 [.agg [.ref (H.length + 1) 0 tb.length, .ref (H.length + 2) 0 wb.length]], .arr 1 false 0 (ints tb), .arr 2 false 0 (whs wb), .arr 2 false 0 [.agg [.ref (H.length + 1) 0 tb.length, .ref (H.length + 2) 0 wb.length]]]⟩ := by
      simp (disch := omega) only [go_sem, K.ref26_Tidy_l1b, ↓reduceIte, Nat.reduceAdd, Nat.reduceSub, l2, hx, cw, hp_get_len, hp_get_add, hp_set_len, hp_assoc, Nat.add_assoc]
    refine ⟨_, _, run, .inr ⟨H.length, _, fun _ => H.length + 1, fun _ => H.length + 2, rfl, by simp, ⟨hp_get_len, rfl, ?_, ?_, ?_, ?_, ?_, ?_, ?_⟩⟩⟩
    all_goals skip
    · intro j hj; obtain rfl : j = 0 := by simpa using hj
      rfl
    · intro j hj; obtain rfl : j = 0 := by simpa using hj
      rw [hp_get_add]; rfl
    · intro j hj; obtain rfl : j = 0 := by simpa using hj
      rw [hp_get_add]; rfl
    · intro j hj; omega
    · intro j hj; omega
    · intro i j hi hj; omega
    · intro i j hi hj hne
      have h1 : i = 0 := by simpa using hi
      have h2 : j = 0 := by simpa using hj
      omega
  · have e1 := hr.arr
    have e2 := hr.len
    have e7 := hp_lt e1
    by_cases c : tidyK out (nth l i) < out.length ∧ (nth out (tidyK out (nth l i))).tags = (nth l i).tags
    · obtain ⟨ck, ct⟩ := c
      have l3 := tidy_l3 l i hi out (by omega) hso hsx H id es fa fb hr (tidyK out (nth l i)) ck
      have s1 := (hso _ (nth_mem ck)).1
      have sm := same_ok (nth out (tidyK out (nth l i))).tags (nth l i).tags (by omega)
      have t1 : tidy1 out (nth l i) = out.set (tidyK out (nth l i)) ⟨(nth l i).tags, joinWs (nth out (tidyK out (nth l i))).whr (nth l i).whr⟩ := by unfold tidy1; rw [if_pos ⟨ck, ct⟩]
      rw [t1]
      simp only [ct, decide_true] at sm
      generalize tidyK out (nth l i) = k at *
      have e3 := hr.el k ck
      have e4 := hr.ha k ck
      have mg := hr.merge ck ⟨(nth l i).tags, joinWs (nth out k).whr (nth l i).whr⟩ ct (joinN_len _ _ _)
      refine ⟨.ref id 0 out.length, _, ?_, .inr ⟨id, es, fa, fb, by rw [List.length_set], by rw [List.length_set]; omega, mg⟩⟩
      generalize nth out k = y at *
      obtain ⟨ta, wa⟩ := y
      simp only at ct
      subst ct
      generalize hx : nth l i = x at *
      obtain ⟨tb, wb⟩ := x
      simp only at s1 sm e3 e4 cw l3 ⊢
      simp (disch := omega) only [go_sem, K.ref26_Tidy_l1b, ↓reduceIte, Nat.reduceAdd, Nat.reduceSub, l2, l3, hx, cw, sm, e1, e2, e3, e4]
    · have t1 : tidy1 out (nth l i) = out.take (tidyK out (nth l i)) ++ [nth l i] ++ out.drop (tidyK out (nth l i)) := by unfold tidy1; rw [if_neg c]
      rw [t1]
      generalize tidyK out (nth l i) = k at *
      have hs1 : headSize 2 (es.take k) = true := headSize_all fun e he => hr.size e (List.mem_of_mem_take he)
      have hs2 : headSize 2 (es.drop k) = true := headSize_all fun e he => hr.size e (List.mem_of_mem_drop he)
      have hs3 : (es.drop k).take (out.length - k) = es.drop k := List.take_of_length_le (by simp [e2])
      have hs4 : (es.take k).length = k := by rw [List.length_take]; omega
      have hs5 : (es.drop k).length = out.length - k := by rw [List.length_drop, e2]
      have hs6 : k + (1 + (out.length - k)) = out.length + 1 := by omega
      have s2 := hsx.1
      have run : roundC false [1, 4, 5] H.length (exS CALL K.ref26_Tidy_l1b ⟨[.t (.sl (l.map World.e)), .und, .ref id 0 out.length, I i, .und, .und], H⟩) =
        some ⟨[.t (.sl (l.map World.e)), .und, .ref H.length 0 (out.length + 1), I (i + 1), .und, .und], H ++ [.arr 2 false 0 (es.take k ++ [.agg [.ref (H.length + 1) 0 (nth l i).tags.length, .ref (H.length + 2) 0 (nth l i).whr.length]] ++ es.drop k), .arr 1 false 0 (ints (nth l i).tags), .arr 2 false 0 (whs (nth l i).whr), .arr 2 false 0 [.agg [.ref (H.length + 1) 0 (nth l i).tags.length, .ref (H.length + 2) 0 (nth l i).whr.length]]]⟩ := by
        by_cases ck : k < out.length
        · have s1 := (hso _ (nth_mem ck)).1
          have sm := same_ok (nth out k).tags (nth l i).tags (by omega)
          have ct : ¬ (nth out k).tags = (nth l i).tags := fun h => c ⟨ck, h⟩
          have e3 := hr.el k ck
          have e4 := hr.ha k ck
          generalize nth out k = y at *
          obtain ⟨ta, wa⟩ := y
          generalize hx : nth l i = x at *
          obtain ⟨tb, wb⟩ := x
          simp only at s1 s2 sm e3 e4 ct cw
          simp only [ct, decide_false] at sm
          simp (disch := omega) only [go_sem, K.ref26_Tidy_l1b, ↓reduceIte, Nat.reduceAdd, Nat.reduceSub, l2, hx, cw, sm, e1, e2, e3, e4, hs1, hs2, hs3, hs4, hs5, hs6, hp_get, hp_get_len, hp_get_add, hp_set_len, hp_assoc, Nat.add_assoc, Nat.sub_zero]
        · have ek : k = out.length := by omega
          subst ek
          generalize hx : nth l i = x at *
          obtain ⟨tb, wb⟩ := x
          simp only at s2 cw
          simp (disch := omega) only [go_sem, K.ref26_Tidy_l1b, ↓reduceIte, Nat.reduceAdd, Nat.reduceSub, l2, hx, cw, e1, e2, hs1, hs2, hs3, hs4, hs5, hs6, hp_get, hp_get_len, hp_get_add, hp_set_len, hp_assoc, Nat.add_assoc, Nat.sub_zero]
      exact ⟨_, _, run, .inr ⟨H.length, _, _, _, by rw [List.length_append, List.length_append, List.length_take, List.length_drop, List.length_singleton, Nat.min_eq_left kl]; congr 1; omega, by rw [List.length_append, List.length_append, List.length_singleton]; omega, hr.ins kl (nth l i) _⟩⟩

theorem tidy1_len (out : List World) (x : World) : (tidy1 out x).length ≤ out.length + 1 ∧ out.length ≤ (tidy1 out x).length ∧ 1 ≤ (tidy1 out x).length := by
  have kl := tidyK_le out x
  unfold tidy1
  split
  · rename_i h
    rw [List.length_set]; omega
  · rw [List.length_append, List.length_append, List.length_take, List.length_drop, List.length_singleton]; omega
theorem tidyN_len (l : List World) : ∀ j, (tidyN l j).length ≤ j
  | 0 => Nat.le_refl _
  | j + 1 => by
    have := tidyN_len l j
    have := (tidy1_len (tidyN l j) (nth l j)).1
    simp only [tidyN]; omega

theorem joinF_frm (a b : Wh) : (joinF a b).1.frm.length ≤ a.frm.length := by
  unfold joinF
  split
  · simp only [minN_len]; omega
  · simp
theorem joinN_sz (a b : List Wh) (n : Nat) (h : ∀ w ∈ a, w.frm.length ≤ n) : ∀ p, p ≤ a.length → ∀ w ∈ joinN a b p, w.frm.length ≤ n
  | 0, _, w, hw => h w hw
  | p + 1, hp, w, hw => by
    simp only [joinN] at hw
    rcases List.mem_or_eq_of_mem_set hw with hw | rfl
    · exact joinN_sz a b n h p (by omega) w hw
    · exact Nat.le_trans (joinF_frm _ _) (h _ (nth_mem (by omega)))
theorem tidy1_sz {out : List World} {x : World} (ho : ∀ y ∈ out, y.sz) (hx : x.sz) : ∀ y ∈ tidy1 out x, y.sz := by
  intro y hy
  unfold tidy1 at hy
  split at hy
  · rename_i h
    rcases List.mem_or_eq_of_mem_set hy with hy | rfl
    · exact ho y hy
    · obtain ⟨s1, s2, s3⟩ := ho _ (nth_mem h.1)
      refine ⟨hx.1, ?_, ?_⟩
      · show (joinN _ _ _).length ≤ _
        rw [joinN_len]; exact s2
      · exact joinN_sz _ _ _ s3 _ (Nat.min_le_left _ _)
  · rcases List.mem_append.1 hy with hy | hy
    · rcases List.mem_append.1 hy with hy | hy
      · exact ho y (List.mem_of_mem_take hy)
      · rw [List.mem_singleton.1 hy]; exact hx
    · exact ho y (List.mem_of_mem_drop hy)
theorem tidyN_sz {l : List World} (hl : ∀ x ∈ l, x.sz) : ∀ j, j ≤ l.length → ∀ y ∈ tidyN l j, y.sz
  | 0, _, y, hy => by simp [tidyN] at hy
  | j + 1, h, y, hy => tidy1_sz (tidyN_sz hl j (by omega)) (hl _ (nth_mem (by omega))) y hy

theorem Rp.frz {H : Heap} {id : Nat} {es : List D} {fa fb : Nat → Nat} {out : List World} (hr : Rp H id es fa fb out) :
    mapO (frz H 8) es = some (out.map World.e) ∧ ∀ i ∈ es.flatMap (arrs H 8), i ≠ id := by
  have hl := hr.len
  have key : ∀ (j : Nat) (hj : j < out.length), Go.Ev.frz H 8 (.agg [.ref (fa j) 0 (nth out j).tags.length, .ref (fb j) 0 (nth out j).whr.length]) = some (nth out j).e ∧
      arrs H 8 (.agg [.ref (fa j) 0 (nth out j).tags.length, .ref (fb j) 0 (nth out j).whr.length]) = [fa j, fb j] := by
    intro j hj
    have h1 := hr.ha j hj
    have h2 := hr.hb j hj
    simp (disch := omega) only [go_sem, h1, h2, ints, whs, ↓reduceIte]
  constructor
  · have : ∀ (es : List D) (ts : List T), es.length = ts.length → (∀ (j : Nat) e t, es[j]? = some e → ts[j]? = some t → Go.Ev.frz H 8 e = some t) → mapO (Go.Ev.frz H 8) es = some ts := by
      intro es
      induction es with
      | nil => intro ts h _; cases ts with
        | nil => rfl
        | cons => simp at h
      | cons e es ih =>
        intro ts h hh
        cases ts with
        | nil => simp at h
        | cons t ts =>
          have h1 := hh 0 e t rfl rfl
          have h2 := ih ts (by simpa using h) fun j e t he ht => hh (j + 1) e t (by simpa using he) (by simpa using ht)
          simp only [mapO, h1, Option.bind_some, h2, Option.map_some]
    refine this es _ (by rw [List.length_map, hl]) fun j e t he ht => ?_
    have hj : j < out.length := by rw [← hl]; exact (List.getElem?_eq_some_iff.1 he).1
    rw [hr.el j hj] at he
    rw [map_nth _ hj] at ht
    cases he; cases ht
    exact (key j hj).1
  · intro i hi
    obtain ⟨e, he, hi⟩ := List.mem_flatMap.1 hi
    obtain ⟨j, hj⟩ := List.mem_iff_getElem?.1 he
    have hjl : j < out.length := by rw [← hl]; exact (List.getElem?_eq_some_iff.1 hj).1
    rw [hr.el j hjl] at hj
    cases hj
    rw [(key j hjl).2] at hi
    simp only [List.mem_cons, List.not_mem_nil, or_false] at hi
    rcases hi with rfl | rfl
    · exact hr.na j hjl
    · exact hr.nb j hjl

theorem tidy_ok (l : List World) (h0 : 1 ≤ l.length) (hl : l.length ≤ 100000) (hs : ∀ x ∈ l, x.sz) :
    CALL 1 N.ref26_Tidy [.t (.sl (l.map World.e))] [] = some (.ref 0 0 (tidyF l).length, [.arr 2 false 0 (((tidyF l).map World.e).map .t)]) := by
  refine CALL_of K.t_ref26_Tidy rfl ?_
  have loop : ∀ a b c : D, ∃ q, exS CALL K.ref26_Tidy_l1 ⟨[.t (.sl (l.map World.e)), a, .nil, I 0, b, c], []⟩ = some q ∧ ∃ v H, q = (.exit 0, ⟨[.t (.sl (l.map World.e)), .und, v, I l.length, .und, .und], H⟩) ∧ Rep H v (tidyF l) := by
    intro a b c
    refine loop_inv (fun j st => ∃ v H, st = ⟨[.t (.sl (l.map World.e)), .und, v, I j, .und, .und], H⟩ ∧ Rep H v (tidyN l j)) l.length _ ⟨.nil, [], rfl, .inl ⟨rfl, rfl⟩⟩ ?_ ?_
    · rintro j st hj ⟨v, H, rfl, hr⟩
      have ln := tidyN_len l j
      obtain ⟨v', H', h1, h2⟩ := tidy_round l j hj (by omega) (tidyN l j) (by omega) (tidyN_sz hs j (by omega)) (hs _ (nth_mem hj)) H v hr
      exact ⟨_, h1, v', H', rfl, h2⟩
    · rintro st ⟨v, H, rfl, hr⟩
      refine ⟨(.exit 0, ⟨[.t (.sl (l.map World.e)), .und, v, I l.length, .und, .und], H⟩), ?_, by simp, v, H, rfl, hr⟩
      simp (disch := omega) only [go_sem, K.ref26_Tidy_l1b, ↓reduceIte, Nat.reduceAdd, Nat.reduceSub]
  obtain ⟨q, hq, v, H, rfl, hr⟩ := loop .nil .und .und
  have nz : 1 ≤ (tidyF l).length := by
    unfold tidyF
    cases hn : l.length with
    | zero => omega
    | succ n => exact (tidy1_len _ _).2.2
  rcases hr with ⟨rfl, he⟩ | ⟨id, es, fa, fb, rfl, h0, hr⟩
  · rw [he] at nz; simp at nz
  · obtain ⟨f1, f2⟩ := hr.frz
    have fin := finish_live H id 2 (tidyF l).length es _ hr.arr hr.len.symm f1 f2
    simp (disch := omega) only [go_sem, K.ref26_Tidy, ↓reduceIte, Nat.reduceAdd, Nat.reduceSub, hq, fin]

end Go.Ev

/- FiringNeeds. -/
namespace Go.Ev
open Go
variable [Lib] [Has1] [Has2] [Has3] [Has4]

def rdX : Blast := ⟨[1], 300, 1800⟩
def rdK (out : Bool) : Keys := ⟨[0], [2], out⟩
def rdB (a : Int) : Bel := ⟨[⟨[1], [⟨0, [0, a]⟩]⟩]⟩
theorem rd_safe (out : Bool) : safeF rdX (rdK out) (rdB never) = out := by cases out <;> decide
theorem rd_unsafe (out : Bool) : safeF rdX (rdK out) (rdB 5000) = false := by cases out <;> decide
theorem rdB_sz (a : Int) : (rdB a).sz := by
  refine ⟨by simp [rdB], fun x hx => ?_⟩
  simp only [rdB, List.mem_cons, List.not_mem_nil, or_false] at hx
  subst hx
  refine ⟨by simp, by simp, fun w hw => ?_⟩
  simp only [List.mem_cons, List.not_mem_nil, or_false] at hw
  subst hw; simp

abbrev fnBT (a : Int) : T := .sl [.agg [.sl [.int .i64 1], .sl [.agg [.int .i64 0, .sl [.int .i64 0, .int .i64 a]]]]]
abbrev fnH (d : Dice) (p : Bool) (st fi se ti : Int) : Heap := [d.obj, .box [.t (.sl [.int .i64 1]), I 300, I 1800], .box [.t (.sl [.int .i64 0]), .t (.sl [.int .i64 2]), B true], .box [.t (fnBT 1099511627776)],
  .arr 2 p 0 [.agg [.ref 5 0 1, .ref 6 0 1]], .arr 1 p 0 [I 1], .arr 2 p 0 [.agg [I 0, .ref 7 0 2]], .arr 1 p 0 [I 0, I 5000], .box [.ref 4 0 1], .box [I st, I fi, I se, I ti]]
abbrev fnS (d : Dice) (p : Bool) (st fi se ti now ar ag f1 f2 : Int) (n : Nat) : St :=
  ⟨[.und, .und, .bp 0 0, .bp 1 0, .bp 2 0, .bp 3 0, .bp 8 0, .bp 9 0, I now, I ar, I ag, I f1, I f2, I n, .und, .und, .und, .und, .und, .und, .und, .und, .und, .und, .und, .und, .und], fnH d p st fi se ti⟩


theorem rd_shot (s : Shot) : shotF rdX s = (decide (0 ≤ s.ti ∧ s.ti ≤ 2147483648) && stateF s) := by
  have h : (!decide (rdX.area.length = 0) && risB rdX.area 0 63 && decide (1 ≤ rdX.hold ∧ rdX.hold ≤ 100000) && decide (1 ≤ rdX.mis ∧ rdX.mis ≤ 100000)) = true := by decide
  simp only [shotF, h, Bool.true_and]
theorem stateF_1 (r t : Int) (h : 0 < r) : stateF ⟨1, r, 0, t⟩ = true := by simp [stateF, h]
theorem stateF_2 (a r t : Int) (h : 0 < r) (h2 : 0 < a) (h3 : a ≠ r) : stateF ⟨2, a, r, t⟩ = true := by simp [stateF, h, h2, h3]
theorem stateF_d {s : Shot} (h : stateF s = true) : (s.st = 1 → 0 < s.fi) ∧ (s.st = 2 → 0 < s.fi ∧ 0 < s.se ∧ s.fi ≠ s.se) := by
  unfold stateF at h
  constructor
  · intro e; simp [e] at h; exact h.1
  · intro e; simp [e] at h; exact h
theorem stateF_3 (a r t st : Int) (h : 0 < r) (h2 : 0 < a) (h3 : a ≠ r) (h4 : st = 3 ∨ st = 4) : stateF ⟨st, a, r, t⟩ = true := by rcases h4 with rfl | rfl <;> simp [stateF, h, h2, h3]

theorem checkF_z {r : Req} {odd : Bool} (h : checkF r odd = 0) : shotF r.x r.s = true ∧ r.s.st = r.from_ ∧ 0 ≤ r.t ∧ r.s.ti ≤ r.t ∧ r.t ≤ 2147483648 ∧ odd = false ∧ (r.from_ ≠ 0 → r.t - r.s.ti ≤ r.x.hold) ∧ safeF r.x r.k r.b = true := by
  unfold checkF at h
  split at h; · omega
  split at h; · omega
  split at h; · omega
  split at h; · omega
  split at h; · omega
  split at h; · omega
  split at h; · omega
  rename_i h1 h2 h3 h4 h5 h6 h7
  refine ⟨by simpa using h1, by omega, by omega, by omega, by omega, by simpa using h4, by omega, by simpa using h7⟩

def fnInv (st fi se ti now ar ag f1 f2 : Int) : Prop := shotF rdX ⟨st, fi, se, ti⟩ = true ∧ (st = 1 → ar = ti ∧ f1 = fi) ∧ (st = 2 → ag = ti ∧ f1 = fi ∧ f2 = se)

def fnB (a3 : Bool) : Bel := rdB (if a3 = true then 5000 else never)
theorem fn_safe (out a3 : Bool) : safeF rdX (rdK out) (fnB a3) = (out && !a3) := by cases out <;> cases a3 <;> decide
abbrev fnDead : List Nat := [0, 1, 14, 15, 16, 17, 18, 19, 20, 21, 22, 23, 24, 25, 26]
noncomputable abbrev fnRound (S : St) : Option St := roundC true fnDead 10 (exS CALL K.law34_FiringNeeds_l1b S)
def fnP (n : Nat) (b : Int) (S : St) : Prop := ∃ d p st fi se ti now ar ag f1 f2, S = fnS d p st fi se ti now ar ag f1 f2 n ∧ d.light ∧ 0 ≤ now ∧ now ≤ b ∧ fnInv st fi se ti now ar ag f1 f2

section
variable (d d1 d2 d3 d4 d5 : Dice) (p a3 : Bool) (st fi se ti now ar ag f1 f2 a1 a2 a4 : Int) (n : Nat) (b : Int) (h0 : 0 ≤ now) (h1 : now ≤ b) (hb : b ≤ 100000) (e5 : d5.light) (l2 : 0 ≤ a2) (m1 : 0 ≤ a1 ∧ a1 ≤ 301) (l4 : 0 ≤ a4) (h4 : a4 < 3) (hn : n ≤ 30)
  (o1 : CALL 0 N.made_Dice_Of [.bp 0 0, .t (.sl [.int .i64 0, .int .i64 10, .int .i64 200, .int .i64 301])] [d.obj] = some (I a1, [d1.obj])) (o2 : CALL 0 N.made_Dice_Next [.bp 0 0, I 6] [d1.obj] = some (I a2, [d2.obj]))
  (o3 : CALL 0 N.made_Dice_One [.bp 0 0, I 6] [d2.obj] = some (B a3, [d3.obj])) (o4 : CALL 0 N.made_Dice_Next [.bp 0 0, I 3] [d3.obj] = some (I a4, [d4.obj]))
include h0 h1 hb e5 l2 m1 l4 h4 hn o1 o2 o3 o4


theorem fn_arm (o5 : CALL 0 N.made_Dice_Next [.bp 0 0, I 4] [d4.obj] = some (I 0, [d5.obj])) (iv : fnInv st fi se ti now ar ag f1 f2) :
    ∃ S, fnRound (fnS d p st fi se ti now ar ag f1 f2 (n + 1)) = some S ∧ fnP n (b + 301) S := by
  obtain ⟨sf, i1, i2⟩ := iv
  have r1 := arm_ok rdX ⟨st, fi, se, ti⟩ (rdK (decide (0 < a2))) (fnB a3) (by simp [rdX]) (by simp [rdK]) (by simp [rdK]) (rdB_sz _) (1 + a4) (now + a1)
  have v1 := fvalid_ok rdX (by simp [rdX]) ⟨st, fi, se, ti⟩
  rw [sf] at v1
  by_cases e : checkF ⟨rdX, ⟨st, fi, se, ti⟩, rdK (decide (0 < a2)), fnB a3, now + a1, 0⟩ (decide (1 + a4 ≤ 0)) = 0
  · have z := checkF_z e
    simp only [fn_safe, Bool.and_eq_true, Bool.not_eq_true', decide_eq_true_eq] at z
    obtain ⟨z1, z2, z3, z4, z5, z6, z7, z8, rfl⟩ := z
    have hu : armF rdX ⟨st, fi, se, ti⟩ (rdK (decide (0 < a2))) (fnB false) (1 + a4) (now + a1) = (⟨1, 1 + a4, 0, now + a1⟩, 0) := by unfold armF; rw [if_neg (by simpa using e)]
    rw [hu] at r1
    change _ = _ at z2
    subst z2
    have sf2 : shotF rdX ⟨1, 1 + a4, 0, now + a1⟩ = true := by rw [rd_shot, stateF_1 _ _ (by omega)]; simp; omega
    have v2 := fvalid_ok rdX (by simp [rdX]) ⟨1, 1 + a4, 0, now + a1⟩
    rw [sf2] at v2
    simp only [z8, decide_true, rdX, rdK, fnB, rdB, Blast.e, Keys.e, Bel.e, World.e, Wh.e, tL, never, List.map_cons, List.map_nil, Shot.e, Bool.false_eq_true, if_false] at r1 v1 v2
    refine ⟨fnS d5 p 1 (1 + a4) 0 (now + a1) (now + a1) (now + a1) ag (1 + a4) f2 n, ?_, d5, p, 1, 1 + a4, 0, now + a1, now + a1, now + a1, ag, 1 + a4, f2, rfl, e5, by omega, by omega, sf2, fun _ => ⟨rfl, rfl⟩, fun h => absurd h (by omega)⟩
    unfold fnRound
    simp (disch := omega) only [go_sem, K.law34_FiringNeeds_l1b, ↓reduceIte, o1, o2, o3, o4, o5, r1, v2, Nat.reduceAdd, Nat.reduceSub, Nat.reduceMul]
  · have hu : armF rdX ⟨st, fi, se, ti⟩ (rdK (decide (0 < a2))) (fnB a3) (1 + a4) (now + a1) = (⟨st, fi, se, ti⟩, checkF ⟨rdX, ⟨st, fi, se, ti⟩, rdK (decide (0 < a2)), fnB a3, now + a1, 0⟩ (decide (1 + a4 ≤ 0))) := by unfold armF; rw [if_pos e]
    rw [hu] at r1
    generalize checkF ⟨rdX, ⟨st, fi, se, ti⟩, rdK (decide (0 < a2)), fnB a3, now + a1, 0⟩ (decide (1 + a4 ≤ 0)) = er at *
    cases a3 <;> by_cases c : 0 < a2 <;> simp only [c, decide_true, decide_false, rdX, rdK, fnB, rdB, Blast.e, Keys.e, Bel.e, World.e, Wh.e, tL, never, List.map_cons, List.map_nil, Shot.e, Bool.false_eq_true, if_false, if_true] at r1 v1
    · refine ⟨fnS d5 p st fi se ti (now + a1) ar ag f1 f2 n, ?_, d5, p, st, fi, se, ti, now + a1, ar, ag, f1, f2, rfl, e5, by omega, by omega, sf, i1, i2⟩
      unfold fnRound
      simp (disch := omega) only [go_sem, K.law34_FiringNeeds_l1b, ↓reduceIte, o1, o2, o3, o4, o5, r1, v1, Nat.reduceAdd, Nat.reduceSub, Nat.reduceMul]
    · refine ⟨fnS d5 p st fi se ti (now + a1) ar ag f1 f2 n, ?_, d5, p, st, fi, se, ti, now + a1, ar, ag, f1, f2, rfl, e5, by omega, by omega, sf, i1, i2⟩
      unfold fnRound
      simp (disch := omega) only [go_sem, K.law34_FiringNeeds_l1b, ↓reduceIte, o1, o2, o3, o4, o5, r1, v1, Nat.reduceAdd, Nat.reduceSub, Nat.reduceMul]
    · refine ⟨fnS d5 true st fi se ti (now + a1) ar ag f1 f2 n, ?_, d5, true, st, fi, se, ti, now + a1, ar, ag, f1, f2, rfl, e5, by omega, by omega, sf, i1, i2⟩
      unfold fnRound
      simp (disch := omega) only [go_sem, K.law34_FiringNeeds_l1b, ↓reduceIte, o1, o2, o3, o4, o5, r1, v1, Nat.reduceAdd, Nat.reduceSub, Nat.reduceMul]
    · refine ⟨fnS d5 true st fi se ti (now + a1) ar ag f1 f2 n, ?_, d5, true, st, fi, se, ti, now + a1, ar, ag, f1, f2, rfl, e5, by omega, by omega, sf, i1, i2⟩
      unfold fnRound
      simp (disch := omega) only [go_sem, K.law34_FiringNeeds_l1b, ↓reduceIte, o1, o2, o3, o4, o5, r1, v1, Nat.reduceAdd, Nat.reduceSub, Nat.reduceMul]

theorem fn_agree (o5 : CALL 0 N.made_Dice_Next [.bp 0 0, I 4] [d4.obj] = some (I 1, [d5.obj])) (iv : fnInv st fi se ti now ar ag f1 f2) :
    ∃ S, fnRound (fnS d p st fi se ti now ar ag f1 f2 (n + 1)) = some S ∧ fnP n (b + 301) S := by
  obtain ⟨sf, i1, i2⟩ := iv
  have r1 := agree_ok rdX ⟨st, fi, se, ti⟩ (rdK (decide (0 < a2))) (fnB a3) (by simp [rdX]) (by simp [rdK]) (by simp [rdK]) (rdB_sz _) (1 + a4) (now + a1)
  have v1 := fvalid_ok rdX (by simp [rdX]) ⟨st, fi, se, ti⟩
  rw [sf] at v1
  by_cases e : checkF ⟨rdX, ⟨st, fi, se, ti⟩, rdK (decide (0 < a2)), fnB a3, now + a1, 1⟩ (decide (1 + a4 ≤ 0) || decide (1 + a4 = fi)) = 0
  · have z := checkF_z e
    simp only [fn_safe, Bool.and_eq_true, Bool.not_eq_true', decide_eq_true_eq] at z
    obtain ⟨z1, z2, z3, z4, z5, z6, z7, z8, rfl⟩ := z
    have hu : agreeF rdX ⟨st, fi, se, ti⟩ (rdK (decide (0 < a2))) (fnB false) (1 + a4) (now + a1) = (⟨2, fi, 1 + a4, now + a1⟩, 0) := by unfold agreeF; rw [if_neg (by simpa using e)]
    rw [hu] at r1
    change _ = _ at z2
    subst z2
    simp only [Bool.or_eq_false_iff, decide_eq_false_iff_not] at z6
    obtain ⟨j1, j2⟩ := i1 rfl
    simp only [rd_shot, Bool.and_eq_true] at sf
    have sd : 0 < fi := (stateF_d sf.2).1 rfl
    have sti : 0 ≤ ti ∧ ti ≤ 2147483648 := of_decide_eq_true sf.1
    have z3 : 0 ≤ now + a1 := z3
    have z5 : now + a1 ≤ 2147483648 := z5
    have sf2 : shotF rdX ⟨2, fi, 1 + a4, now + a1⟩ = true := by rw [rd_shot, stateF_2 _ _ _ (by omega) sd (by omega)]; simp; omega
    have z7 : now + a1 - ti ≤ 300 := z7 (by simp)
    clear z1
    have v2 := fvalid_ok rdX (by simp [rdX]) ⟨2, fi, 1 + a4, now + a1⟩
    rw [sf2] at v2
    simp only [z8, decide_true, rdX, rdK, fnB, rdB, Blast.e, Keys.e, Bel.e, World.e, Wh.e, tL, never, List.map_cons, List.map_nil, Shot.e, Bool.false_eq_true, if_false] at r1 v1 v2
    refine ⟨fnS d5 p 2 fi (1 + a4) (now + a1) (now + a1) ar (now + a1) f1 (1 + a4) n, ?_, d5, p, 2, fi, 1 + a4, now + a1, now + a1, ar, now + a1, f1, 1 + a4, rfl, e5, by omega, by omega, sf2, fun h => absurd h (by omega), fun _ => ⟨rfl, j2, rfl⟩⟩
    unfold fnRound
    simp (disch := omega) only [go_sem, K.law34_FiringNeeds_l1b, ↓reduceIte, o1, o2, o3, o4, o5, r1, v2, Nat.reduceAdd, Nat.reduceSub, Nat.reduceMul]
  · have hu : agreeF rdX ⟨st, fi, se, ti⟩ (rdK (decide (0 < a2))) (fnB a3) (1 + a4) (now + a1) = (⟨st, fi, se, ti⟩, checkF ⟨rdX, ⟨st, fi, se, ti⟩, rdK (decide (0 < a2)), fnB a3, now + a1, 1⟩ (decide (1 + a4 ≤ 0) || decide (1 + a4 = fi))) := by unfold agreeF; rw [if_pos e]
    rw [hu] at r1
    generalize checkF ⟨rdX, ⟨st, fi, se, ti⟩, rdK (decide (0 < a2)), fnB a3, now + a1, 1⟩ (decide (1 + a4 ≤ 0) || decide (1 + a4 = fi)) = er at *
    cases a3 <;> by_cases c : 0 < a2 <;> simp only [c, decide_true, decide_false, rdX, rdK, fnB, rdB, Blast.e, Keys.e, Bel.e, World.e, Wh.e, tL, never, List.map_cons, List.map_nil, Shot.e, Bool.false_eq_true, if_false, if_true] at r1 v1
    · refine ⟨fnS d5 p st fi se ti (now + a1) ar ag f1 f2 n, ?_, d5, p, st, fi, se, ti, now + a1, ar, ag, f1, f2, rfl, e5, by omega, by omega, sf, i1, i2⟩
      unfold fnRound
      simp (disch := omega) only [go_sem, K.law34_FiringNeeds_l1b, ↓reduceIte, o1, o2, o3, o4, o5, r1, v1, Nat.reduceAdd, Nat.reduceSub, Nat.reduceMul]
    · refine ⟨fnS d5 p st fi se ti (now + a1) ar ag f1 f2 n, ?_, d5, p, st, fi, se, ti, now + a1, ar, ag, f1, f2, rfl, e5, by omega, by omega, sf, i1, i2⟩
      unfold fnRound
      simp (disch := omega) only [go_sem, K.law34_FiringNeeds_l1b, ↓reduceIte, o1, o2, o3, o4, o5, r1, v1, Nat.reduceAdd, Nat.reduceSub, Nat.reduceMul]
    · refine ⟨fnS d5 true st fi se ti (now + a1) ar ag f1 f2 n, ?_, d5, true, st, fi, se, ti, now + a1, ar, ag, f1, f2, rfl, e5, by omega, by omega, sf, i1, i2⟩
      unfold fnRound
      simp (disch := omega) only [go_sem, K.law34_FiringNeeds_l1b, ↓reduceIte, o1, o2, o3, o4, o5, r1, v1, Nat.reduceAdd, Nat.reduceSub, Nat.reduceMul]
    · refine ⟨fnS d5 true st fi se ti (now + a1) ar ag f1 f2 n, ?_, d5, true, st, fi, se, ti, now + a1, ar, ag, f1, f2, rfl, e5, by omega, by omega, sf, i1, i2⟩
      unfold fnRound
      simp (disch := omega) only [go_sem, K.law34_FiringNeeds_l1b, ↓reduceIte, o1, o2, o3, o4, o5, r1, v1, Nat.reduceAdd, Nat.reduceSub, Nat.reduceMul]

theorem fn_fire (d6 : Dice) (e6 : d6.light) (fails : Bool) (o5 : CALL 0 N.made_Dice_Next [.bp 0 0, I 4] [d4.obj] = some (I 2, [d5.obj])) (o6 : CALL 0 N.made_Dice_One [.bp 0 0, I 3] [d5.obj] = some (B fails, [d6.obj])) (iv : fnInv st fi se ti now ar ag f1 f2) :
    ∃ S, fnRound (fnS d p st fi se ti now ar ag f1 f2 (n + 1)) = some S ∧ fnP n (b + 301) S := by
  obtain ⟨sf, i1, i2⟩ := iv
  have r1 := fire_ok rdX ⟨st, fi, se, ti⟩ (rdK (decide (0 < a2))) (fnB a3) (by simp [rdX]) (by simp [rdK]) (by simp [rdK]) (rdB_sz _) (now + a1) fails
  have v1 := fvalid_ok rdX (by simp [rdX]) ⟨st, fi, se, ti⟩
  rw [sf] at v1
  by_cases e : checkF ⟨rdX, ⟨st, fi, se, ti⟩, rdK (decide (0 < a2)), fnB a3, now + a1, 2⟩ false = 0
  · have z := checkF_z e
    simp only [fn_safe, Bool.and_eq_true, Bool.not_eq_true', decide_eq_true_eq] at z
    obtain ⟨z1, z2, z3, z4, z5, z6, z7, z8, rfl⟩ := z
    have hu : fireF rdX ⟨st, fi, se, ti⟩ (rdK (decide (0 < a2))) (fnB false) (now + a1) fails = (⟨if fails = true then 4 else 3, fi, se, now + a1⟩, 0) := by unfold fireF; rw [if_neg (by simpa using e)]
    rw [hu] at r1
    change _ = _ at z2
    subst z2
    obtain ⟨rfl, rfl, rfl⟩ := i2 rfl
    simp only [rd_shot, Bool.and_eq_true] at sf
    have sd : 0 < f1 ∧ 0 < f2 ∧ f1 ≠ f2 := (stateF_d sf.2).2 rfl
    have sti : 0 ≤ ag ∧ ag ≤ 2147483648 := of_decide_eq_true sf.1
    have z3 : 0 ≤ now + a1 := z3
    have z5 : now + a1 ≤ 2147483648 := z5
    have z7 : now + a1 - ag ≤ 300 := z7 (by simp)
    clear z1 z6 sf i1 i2
    cases fails
    · have sf2 : shotF rdX ⟨3, f1, f2, now + a1⟩ = true := by rw [rd_shot, stateF_3 _ _ _ _ (by omega) (by omega) (by omega) (.inl rfl)]; simp; omega
      have v2 := fvalid_ok rdX (by simp [rdX]) ⟨3, f1, f2, now + a1⟩
      rw [sf2] at v2
      simp only [z8, decide_true, rdX, rdK, fnB, rdB, Blast.e, Keys.e, Bel.e, World.e, Wh.e, tL, never, List.map_cons, List.map_nil, Shot.e, Bool.false_eq_true, if_false] at r1 v1 v2
      refine ⟨fnS d6 p 3 f1 f2 (now + a1) (now + a1) ar ag f1 f2 n, ?_, d6, p, 3, f1, f2, now + a1, now + a1, ar, ag, f1, f2, rfl, e6, by omega, by omega, sf2, fun h => absurd h (by omega), fun h => absurd h (by omega)⟩
      unfold fnRound
      simp (disch := omega) only [go_sem, K.law34_FiringNeeds_l1b, ↓reduceIte, o1, o2, o3, o4, o5, o6, r1, v2, Nat.reduceAdd, Nat.reduceSub, Nat.reduceMul]
    · have sf2 : shotF rdX ⟨4, f1, f2, now + a1⟩ = true := by rw [rd_shot, stateF_3 _ _ _ _ (by omega) (by omega) (by omega) (.inr rfl)]; simp; omega
      have v2 := fvalid_ok rdX (by simp [rdX]) ⟨4, f1, f2, now + a1⟩
      rw [sf2] at v2
      simp only [z8, decide_true, rdX, rdK, fnB, rdB, Blast.e, Keys.e, Bel.e, World.e, Wh.e, tL, never, List.map_cons, List.map_nil, Shot.e, Bool.false_eq_true, if_false, if_true] at r1 v1 v2
      refine ⟨fnS d6 p 4 f1 f2 (now + a1) (now + a1) ar ag f1 f2 n, ?_, d6, p, 4, f1, f2, now + a1, now + a1, ar, ag, f1, f2, rfl, e6, by omega, by omega, sf2, fun h => absurd h (by omega), fun h => absurd h (by omega)⟩
      unfold fnRound
      simp (disch := omega) only [go_sem, K.law34_FiringNeeds_l1b, ↓reduceIte, o1, o2, o3, o4, o5, o6, r1, v2, Nat.reduceAdd, Nat.reduceSub, Nat.reduceMul]
  · have hu : fireF rdX ⟨st, fi, se, ti⟩ (rdK (decide (0 < a2))) (fnB a3) (now + a1) fails = (⟨st, fi, se, ti⟩, checkF ⟨rdX, ⟨st, fi, se, ti⟩, rdK (decide (0 < a2)), fnB a3, now + a1, 2⟩ false) := by unfold fireF; rw [if_pos e]
    rw [hu] at r1
    generalize checkF ⟨rdX, ⟨st, fi, se, ti⟩, rdK (decide (0 < a2)), fnB a3, now + a1, 2⟩ false = er at *
    cases a3 <;> by_cases c : 0 < a2 <;> simp only [c, decide_true, decide_false, rdX, rdK, fnB, rdB, Blast.e, Keys.e, Bel.e, World.e, Wh.e, tL, never, List.map_cons, List.map_nil, Shot.e, Bool.false_eq_true, if_false, if_true] at r1 v1
    · refine ⟨fnS d6 p st fi se ti (now + a1) ar ag f1 f2 n, ?_, d6, p, st, fi, se, ti, now + a1, ar, ag, f1, f2, rfl, e6, by omega, by omega, sf, i1, i2⟩
      unfold fnRound
      simp (disch := omega) only [go_sem, K.law34_FiringNeeds_l1b, ↓reduceIte, o1, o2, o3, o4, o5, o6, r1, v1, Nat.reduceAdd, Nat.reduceSub, Nat.reduceMul]
    · refine ⟨fnS d6 p st fi se ti (now + a1) ar ag f1 f2 n, ?_, d6, p, st, fi, se, ti, now + a1, ar, ag, f1, f2, rfl, e6, by omega, by omega, sf, i1, i2⟩
      unfold fnRound
      simp (disch := omega) only [go_sem, K.law34_FiringNeeds_l1b, ↓reduceIte, o1, o2, o3, o4, o5, o6, r1, v1, Nat.reduceAdd, Nat.reduceSub, Nat.reduceMul]
    · refine ⟨fnS d6 true st fi se ti (now + a1) ar ag f1 f2 n, ?_, d6, true, st, fi, se, ti, now + a1, ar, ag, f1, f2, rfl, e6, by omega, by omega, sf, i1, i2⟩
      unfold fnRound
      simp (disch := omega) only [go_sem, K.law34_FiringNeeds_l1b, ↓reduceIte, o1, o2, o3, o4, o5, o6, r1, v1, Nat.reduceAdd, Nat.reduceSub, Nat.reduceMul]
    · refine ⟨fnS d6 true st fi se ti (now + a1) ar ag f1 f2 n, ?_, d6, true, st, fi, se, ti, now + a1, ar, ag, f1, f2, rfl, e6, by omega, by omega, sf, i1, i2⟩
      unfold fnRound
      simp (disch := omega) only [go_sem, K.law34_FiringNeeds_l1b, ↓reduceIte, o1, o2, o3, o4, o5, o6, r1, v1, Nat.reduceAdd, Nat.reduceSub, Nat.reduceMul]

theorem fn_abort (a5 : Int) (h5 : 3 ≤ a5) (o5 : CALL 0 N.made_Dice_Next [.bp 0 0, I 4] [d4.obj] = some (I a5, [d5.obj])) (iv : fnInv st fi se ti now ar ag f1 f2) :
    ∃ S, fnRound (fnS d p st fi se ti now ar ag f1 f2 (n + 1)) = some S ∧ fnP n (b + 301) S := by
  obtain ⟨sf, i1, i2⟩ := iv
  have r1 := abort_ok rdX ⟨st, fi, se, ti⟩ (by simp [rdX]) (now + a1)
  have v1 := fvalid_ok rdX (by simp [rdX]) ⟨st, fi, se, ti⟩
  rw [sf] at v1
  have key : abortF rdX ⟨st, fi, se, ti⟩ (now + a1) = (⟨0, 0, 0, 0⟩, 0) ∨ ∃ e, e ≠ 0 ∧ abortF rdX ⟨st, fi, se, ti⟩ (now + a1) = (⟨st, fi, se, ti⟩, e) := by
    unfold abortF
    split; · exact .inr ⟨6, by omega, rfl⟩
    split; · exact .inr ⟨10, by omega, rfl⟩
    split; · exact .inr ⟨8, by omega, rfl⟩
    split; · exact .inr ⟨10, by omega, rfl⟩
    exact .inl rfl
  rcases key with hu | ⟨e, e0, hu⟩
  · rw [hu] at r1
    have sf2 : shotF rdX ⟨0, 0, 0, 0⟩ = true := by decide
    have v2 := fvalid_ok rdX (by simp [rdX]) ⟨0, 0, 0, 0⟩
    rw [sf2] at v2
    simp only [rdX, rdK, fnB, rdB, Blast.e, Keys.e, Bel.e, World.e, Wh.e, tL, never, List.map_cons, List.map_nil, Shot.e, Bool.false_eq_true, if_false] at r1 v1 v2
    cases a3 <;> by_cases c : 0 < a2
    · refine ⟨fnS d5 p 0 0 0 0 (now + a1) (-1) (-1) 0 0 n, ?_, d5, p, 0, 0, 0, 0, now + a1, -1, -1, 0, 0, rfl, e5, by omega, by omega, sf2, fun h => absurd h (by omega), fun h => absurd h (by omega)⟩
      unfold fnRound
      simp (disch := omega) only [go_sem, K.law34_FiringNeeds_l1b, ↓reduceIte, o1, o2, o3, o4, o5, r1, v2, Nat.reduceAdd, Nat.reduceSub, Nat.reduceMul]
    · refine ⟨fnS d5 p 0 0 0 0 (now + a1) (-1) (-1) 0 0 n, ?_, d5, p, 0, 0, 0, 0, now + a1, -1, -1, 0, 0, rfl, e5, by omega, by omega, sf2, fun h => absurd h (by omega), fun h => absurd h (by omega)⟩
      unfold fnRound
      simp (disch := omega) only [go_sem, K.law34_FiringNeeds_l1b, ↓reduceIte, o1, o2, o3, o4, o5, r1, v2, Nat.reduceAdd, Nat.reduceSub, Nat.reduceMul]
    · refine ⟨fnS d5 p 0 0 0 0 (now + a1) (-1) (-1) 0 0 n, ?_, d5, p, 0, 0, 0, 0, now + a1, -1, -1, 0, 0, rfl, e5, by omega, by omega, sf2, fun h => absurd h (by omega), fun h => absurd h (by omega)⟩
      unfold fnRound
      simp (disch := omega) only [go_sem, K.law34_FiringNeeds_l1b, ↓reduceIte, o1, o2, o3, o4, o5, r1, v2, Nat.reduceAdd, Nat.reduceSub, Nat.reduceMul]
    · refine ⟨fnS d5 p 0 0 0 0 (now + a1) (-1) (-1) 0 0 n, ?_, d5, p, 0, 0, 0, 0, now + a1, -1, -1, 0, 0, rfl, e5, by omega, by omega, sf2, fun h => absurd h (by omega), fun h => absurd h (by omega)⟩
      unfold fnRound
      simp (disch := omega) only [go_sem, K.law34_FiringNeeds_l1b, ↓reduceIte, o1, o2, o3, o4, o5, r1, v2, Nat.reduceAdd, Nat.reduceSub, Nat.reduceMul]
  · rw [hu] at r1
    simp only [rdX, rdK, fnB, rdB, Blast.e, Keys.e, Bel.e, World.e, Wh.e, tL, never, List.map_cons, List.map_nil, Shot.e, Bool.false_eq_true, if_false] at r1 v1
    cases a3 <;> by_cases c : 0 < a2
    · refine ⟨fnS d5 p st fi se ti (now + a1) ar ag f1 f2 n, ?_, d5, p, st, fi, se, ti, now + a1, ar, ag, f1, f2, rfl, e5, by omega, by omega, sf, i1, i2⟩
      unfold fnRound
      simp (disch := omega) only [go_sem, K.law34_FiringNeeds_l1b, ↓reduceIte, o1, o2, o3, o4, o5, r1, v1, Nat.reduceAdd, Nat.reduceSub, Nat.reduceMul]
    · refine ⟨fnS d5 p st fi se ti (now + a1) ar ag f1 f2 n, ?_, d5, p, st, fi, se, ti, now + a1, ar, ag, f1, f2, rfl, e5, by omega, by omega, sf, i1, i2⟩
      unfold fnRound
      simp (disch := omega) only [go_sem, K.law34_FiringNeeds_l1b, ↓reduceIte, o1, o2, o3, o4, o5, r1, v1, Nat.reduceAdd, Nat.reduceSub, Nat.reduceMul]
    · refine ⟨fnS d5 p st fi se ti (now + a1) ar ag f1 f2 n, ?_, d5, p, st, fi, se, ti, now + a1, ar, ag, f1, f2, rfl, e5, by omega, by omega, sf, i1, i2⟩
      unfold fnRound
      simp (disch := omega) only [go_sem, K.law34_FiringNeeds_l1b, ↓reduceIte, o1, o2, o3, o4, o5, r1, v1, Nat.reduceAdd, Nat.reduceSub, Nat.reduceMul]
    · refine ⟨fnS d5 p st fi se ti (now + a1) ar ag f1 f2 n, ?_, d5, p, st, fi, se, ti, now + a1, ar, ag, f1, f2, rfl, e5, by omega, by omega, sf, i1, i2⟩
      unfold fnRound
      simp (disch := omega) only [go_sem, K.law34_FiringNeeds_l1b, ↓reduceIte, o1, o2, o3, o4, o5, r1, v1, Nat.reduceAdd, Nat.reduceSub, Nat.reduceMul]
end
theorem fn_round (n : Nat) (hn : n ≤ 30) (b : Int) (hb : b ≤ 100000) (S : St) (h : fnP (n + 1) b S) : ∃ S', fnRound S = some S' ∧ fnP n (b + 301) S' := by
  obtain ⟨d, p, st, fi, se, ti, now, ar, ag, f1, f2, rfl, d0, h0, h1, iv⟩ := h
  have o1 := of_ok d [0, 10, 200, 301] (by simp) (by simp) d0
  have m1 := Dice.of_mem d (l := [0, 10, 200, 301]) (by simp)
  have e1 := Dice.of_light d0 [0, 10, 200, 301]
  generalize d.of [0, 10, 200, 301] = r1 at *
  obtain ⟨a1, d1⟩ := r1
  simp only [List.mem_cons, List.not_mem_nil, or_false] at o1 m1 e1
  have m1 : 0 ≤ a1 ∧ a1 ≤ 301 := by omega
  have o2 := next_ok d1 6 (by omega) e1
  have l2 := d1.next_lo 6
  have e2 := d1.next_light e1 6
  generalize d1.next 6 = r2 at *
  obtain ⟨a2, d2⟩ := r2
  simp only at o2 l2 e2
  have o3 := one_ok d2 6 (by omega) (by omega) e2
  have e3 := d2.one_light e2 6
  generalize d2.one 6 = r3 at *
  obtain ⟨a3, d3⟩ := r3
  simp only at o3 e3
  have o4 := next_ok d3 3 (by omega) e3
  have l4 := d3.next_lo 3
  have h4 := d3.next_hi (n := 3) (by omega)
  have e4 := d3.next_light e3 3
  generalize d3.next 3 = r4 at *
  obtain ⟨a4, d4⟩ := r4
  simp only at o4 l4 h4 e4
  have o5 := next_ok d4 4 (by omega) e4
  have l5 := d4.next_lo 4
  have h5 := d4.next_hi (n := 4) (by omega)
  have e5 := d4.next_light e4 4
  generalize d4.next 4 = r5 at *
  obtain ⟨a5, d5⟩ := r5
  simp only at o5 l5 h5 e5
  simp only [tL, List.map_cons, List.map_nil] at o1
  by_cases c0 : a5 = 0
  · subst c0
    exact fn_arm d d1 d2 d3 d4 d5 p a3 st fi se ti now ar ag f1 f2 a1 a2 a4 n b h0 h1 hb e5 l2 m1 l4 h4 hn o1 o2 o3 o4 o5 iv
  by_cases c1 : a5 = 1
  · subst c1
    exact fn_agree d d1 d2 d3 d4 d5 p a3 st fi se ti now ar ag f1 f2 a1 a2 a4 n b h0 h1 hb e5 l2 m1 l4 h4 hn o1 o2 o3 o4 o5 iv
  by_cases c2 : a5 = 2
  · subst c2
    have o6 := one_ok d5 3 (by omega) (by omega) e5
    have e6 := d5.one_light e5 3
    exact fn_fire d d1 d2 d3 d4 d5 p a3 st fi se ti now ar ag f1 f2 a1 a2 a4 n b h0 h1 hb e5 l2 m1 l4 h4 hn o1 o2 o3 o4 (d5.one 3).2 e6 (d5.one 3).1 o5 o6 iv
  · exact fn_abort d d1 d2 d3 d4 d5 p a3 st fi se ti now ar ag f1 f2 a1 a2 a4 n b h0 h1 hb e5 l2 m1 l4 h4 hn o1 o2 o3 o4 a5 (by omega) o5 iv

theorem roll2_ok (l : List Int) : CALL 0 N.made_Roll [.t (tL l)] [] = some (.bp 0 0, [Dice.obj ⟨l, 0⟩]) := by
  refine CALL_of K.t_made_Roll rfl ?_
  simp (disch := omega) only [go_sem, K.made_Roll, ↓reduceIte, Dice.obj, Nat.reduceAdd, Nat.reduceSub]

theorem FiringNeeds_law (aw : CALL 0 N.law34_awake [] [] = some (B true, []))
    (rd : CALL 0 N.law34_ready [] [] = some (.tup [.t (.agg [.sl [.int .i64 1], .int .i64 300, .int .i64 1800]), .t (.agg [.sl [.int .i64 0], .sl [.int .i64 2], .bool true]), .t (.agg [fnBT 1099511627776])], []))
    (cp : CALL 3 N.ref26_Copy_v2 [.t (.agg [fnBT 1099511627776])] [] = some (.agg [.ref 0 0 1], [.arr 2 false 0 [.agg [.ref 1 0 1, .ref 2 0 1]], .arr 1 false 0 [I 1], .arr 2 false 0 [.agg [I 0, .ref 3 0 2]], .arr 1 false 0 [I 0, I 1099511627776]]))
    (t : List Int) : CALL 0 N.law34_FiringNeeds [.t (tL t)] [] = some (B true, []) := by
  refine CALL_of K.t_law34_FiringNeeds rfl ?_
  have lo := light_ok t
  by_cases c : t.length ≤ 400
  · simp only [c, decide_true] at lo
    have ro := roll2_ok t
    have d0 : (Dice.mk t 0).light := c
    generalize (Dice.mk t 0) = d at *
    have o1 := next_ok d 30 (by omega) d0
    have l1 := d.next_lo 30
    have h1 := d.next_hi (n := 30) (by omega)
    have e1 := d.next_light d0 30
    generalize d.next 30 = r1 at *
    obtain ⟨a1, d1⟩ := r1
    simp only at o1 l1 h1 e1
    obtain ⟨n, rfl⟩ := Int.eq_ofNat_of_zero_le l1
    have loop : ∀ x v1 v2 v3 v4 v5 v6 v7 v8 v9 v10 v11 v12 v13 : D, ∃ q, exS CALL K.law34_FiringNeeds_l1 ⟨[x, v1, .bp 0 0, .bp 1 0, .bp 2 0, .bp 3 0, .bp 8 0, .bp 9 0, I 0, I (-1), I (-1), I 0, I 0, I n, v2, v3, v4, v5, v6, v7, v8, v9, v10, v11, v12, v13, .und], fnH d1 false 0 0 0 0⟩ = some q ∧
        ∃ d' p' st' fi' se' ti' vs', q = (.exit 0, ⟨.und :: .und :: vs', fnH d' p' st' fi' se' ti'⟩) ∧ vs'.length = 25 := by
      intro x v1 v2 v3 v4 v5 v6 v7 v8 v9 v10 v11 v12 v13
      refine loop_inv (fun j st => fnP (n - j) (301 * j) st) n _ ?_ ?_ ?_
      · exact ⟨d1, false, 0, 0, 0, 0, 0, -1, -1, 0, 0, rfl, e1, by omega, by omega, by decide, fun h => absurd h (by omega), fun h => absurd h (by omega)⟩
      · intro j st hj hp
        obtain ⟨m, hm⟩ : ∃ m, n - j = m + 1 := ⟨n - j - 1, by omega⟩
        simp only [hm] at hp
        obtain ⟨S', h1, h2⟩ := fn_round m (by omega) (301 * j) (by omega) st hp
        refine ⟨S', ?_, ?_⟩
        · obtain ⟨d', p', st', fi', se', ti', now', ar', ag', f1', f2', rfl, h3⟩ := hp
          exact h1
        · have e1 : n - (j + 1) = m := by omega
          have e2 : (301 : Int) * ((j + 1 : Nat) : Int) = 301 * (j : Int) + 301 := by omega
          simp only [e1, e2]; exact h2
      · intro st hp
        simp only [Nat.sub_self] at hp
        obtain ⟨d', p', st', fi', se', ti', now', ar', ag', f1', f2', rfl, h3⟩ := hp
        refine ⟨(.exit 0, fnS d' p' st' fi' se' ti' now' ar' ag' f1' f2' 0), ?_, by simp, d', p', st', fi', se', ti', _, rfl, rfl⟩
        simp (disch := omega) only [go_sem, K.law34_FiringNeeds_l1b, ↓reduceIte, Nat.reduceAdd, Nat.reduceSub, Nat.reduceMul]
        rfl
    obtain ⟨q, hq, d', p', st', fi', se', ti', vs', rfl, hv⟩ := loop (.t (tL t)) (B false) .und .und .und .und .und .und .und .und .und .und .und .und
    simp (disch := omega) only [go_sem, K.law34_FiringNeeds, ↓reduceIte, lo, ro, rd, cp, o1, hq, aw, Nat.reduceAdd, Nat.reduceSub, Nat.reduceMul]
  · simp only [c, decide_false] at lo
    simp (disch := omega) only [go_sem, K.law34_FiringNeeds, ↓reduceIte, lo, aw, Nat.reduceAdd, Nat.reduceSub, Nat.reduceMul]
end Go.Ev

