/- Parts of the proof: see the text that holds the theorem. -/
import Derived.Test.YtdmfagheaapamaaZ4
set_option linter.all false
set_option maxRecDepth 100000
/- MADE BY PROGRAM (lib.py): the compact code of functions. -/
namespace Go.Ev.K
open Go.Ev
/-- /law34.FiringRaw -/
def law34_FiringRaw : Fn := { nargs := 3, vars := [0, 1, 2, 4, 5, 6, 7, 8, 9, 10, 11, 12, 13], body := (.seq (.reg [{ o := .bx (.v 1) 3, d := some 3 }, { o := .bx (.v 2) 4, d := some 4 }, { o := .mv (.b false), d := some 5 }] []) (.seq (.ite [{ o := .mv (.v 0) }, { o := .ca N.made_Light 0 [] [.l 0] }, { o := .un .not (.l 0) }, { o := .mv (.l 0) }, { o := .fa (.v 3) 0, g := some (0, false) }, { o := .ld (.l 0) 1 false, g := some (1, false) }, { o := .ln (.l 0), g := some (2, false) }, { o := .bin .gtr (.l 0) (.i 80), g := some (3, false) }, { o := .pk (.l 4) (.b true) (.l 0) }] [] 0 (.seq (.reg [{ o := .ca N.law34_awake 0 [] [] }, { o := .mv (.l 0), d := some 5 }] []) .ret) .skip) (.seq (.reg [{ o := .mv (.v 0) }, { o := .ca N.made_Roll 0 [] [.l 0] }, { o := .mv (.l 0), d := some 6 }] []) (.seq (.reg [{ o := .mv (.v 6) }, { o := .bs [.i 1, .i 2, .i 3, .i 0, .i (-1)] 1 }, { o := .ca N.made_Dice_Of 0 [] [.l 1, .l 0] }, { o := .mv (.v 6) }, { o := .fa (.v 4) 3 }, { o := .ld (.l 0) 1 false }, { o := .fa (.v 4) 3 }, { o := .ld (.l 0) 1 false }, { o := .bin .quo (.l 0) (.i 2) }, { o := .bs [.l 3, .i 50, .l 0, .i (-1), .i 2147483648, .i 2147483649] 1 }, { o := .ca N.made_Dice_Of 0 [] [.l 6, .l 0] }, { o := .mv (.l 8), d := some 7 }, { o := .mv (.l 1), d := some 8 }] [(1, 1), (5, 0), (7, 0), (9, 0)]) (.seq (.reg [{ o := .mv (.v 6) }, { o := .ca N.made_Dice_Some 0 [] [.l 0, .i 4] }, { o := .mv (.v 6) }, { o := .ca N.made_Dice_Ints 0 [] [.l 0] }, { o := .mv (.v 6) }, { o := .ca N.made_Dice_One 0 [] [.l 0, .i 2] }, { o := .bd [.nil, .nil, .t (.bool false)] [(0, 1, .l 4), (1, 1, .l 2), (2, 1, .l 0)] }, { o := .al [.nil, .nil, .t (.bool false)] [], d := some 9 }, { o := .st (.l 0) (.l 1) 3 [] }] []) (.seq (.reg [{ o := .mv (.v 6) }, { o := .ca N.law34_scene 0 [] [.l 0] }, { o := .mv (.l 0) }, { o := .ex (.l 0) 0 }, { o := .ex (.l 1) 1 }, { o := .ex (.l 2) 2 }, { o := .al [.nil, .t (.int .i64 (0)), .t (.int .i64 (0))] [], d := some 10 }, { o := .al [.nil, .nil, .t (.bool false)] [], d := some 11 }, { o := .al [.nil] [], d := some 12 }, { o := .st (.l 2) (.l 5) 3 [] }, { o := .st (.l 2) (.l 5) 3 [] }, { o := .st (.l 2) (.l 5) 1 [] }] []) (.seq (.reg [{ o := .ca N.law34_awake 0 [] [] }, { o := .mv (.l 0) }, { o := .ld (.v 3) 3 true, g := some (0, true) }, { o := .ld (.v 4) 4 true, g := some (1, true) }, { o := .ld (.v 9) 3 true, g := some (2, true) }, { o := .ld (.v 12) 1 true, g := some (3, true) }, { o := .mv (.v 7), g := some (4, true) }, { o := .mv (.v 8), g := some (5, true) }, { o := .mv (.v 6), g := some (6, true) }, { o := .ca N.made_Dice_One 0 [] [.l 0, .i 2], g := some (7, true) }, { o := .ca N.law34_agree 0 [] [.l 7, .l 6, .l 5, .l 4, .l 3, .l 2, .l 0], g := some (8, true) }, { o := .pk (.l 9) (.l 0) (.b false) }, { o := .mv (.l 0) }, { o := .ld (.v 10) 3 true, g := some (0, true) }, { o := .ld (.v 4) 4 true, g := some (1, true) }, { o := .ld (.v 11) 3 true, g := some (2, true) }, { o := .ld (.v 12) 1 true, g := some (3, true) }, { o := .mv (.v 7), g := some (4, true) }, { o := .mv (.v 8), g := some (5, true) }, { o := .ca N.law34_agree 0 [] [.l 5, .l 4, .l 3, .l 2, .l 1, .l 0, .b false], g := some (6, true) }, { o := .pk (.l 7) (.l 0) (.b false) }, { o := .mv (.l 0) }, { o := .ld (.v 3) 3 true, g := some (0, true) }, { o := .bd [.t (.int .i64 (0)), .t (.int .i64 (0)), .t (.int .i64 (0)), .t (.int .i64 (0))] [], g := some (1, true) }, { o := .ld (.v 11) 3 true, g := some (2, true) }, { o := .ld (.v 12) 1 true, g := some (3, true) }, { o := .mv (.v 7), g := some (4, true) }, { o := .mv (.v 8), g := some (5, true) }, { o := .ca N.law34_agree 0 [] [.l 5, .l 4, .l 3, .l 2, .l 1, .l 0, .b true], g := some (6, true) }, { o := .pk (.l 7) (.l 0) (.b false) }, { o := .mv (.l 0) }, { o := .ld (.v 10) 3 true, g := some (0, true) }, { o := .ld (.v 4) 4 true, g := some (1, true) }, { o := .ld (.v 9) 3 true, g := some (2, true) }, { o := .bd [.nil] [], g := some (3, true) }, { o := .mv (.v 7), g := some (4, true) }, { o := .mv (.v 8), g := some (5, true) }, { o := .ca N.law34_agree 0 [] [.l 5, .l 4, .l 3, .l 2, .l 1, .l 0, .b true], g := some (6, true) }, { o := .pk (.l 7) (.l 0) (.b false) }, { o := .mv (.l 0), d := some 5 }] [(2, 10), (3, 10), (4, 10), (5, 10)]) .ret))))))), res := [(5, none)] }
def law34_FiringMade_l1b : C := (.seq (.ite [{ o := .mv (.v 7) }, { o := .bin .lss (.l 0) (.i 6) }] [] 0 .skip (.exit 0)) (.seq (.blk 1 (.seq (.reg [{ o := .fa (.v 6) 3 }, { o := .ld (.l 0) 1 false }, { o := .mv (.v 2) }, { o := .fa (.v 3) 1 }, { o := .ld (.l 0) 1 false }, { o := .fa (.v 3) 1 }, { o := .ld (.l 0) 1 false }, { o := .bin .add (.l 0) (.i 1) }, { o := .fa (.v 3) 2 }, { o := .ld (.l 0) 1 false }, { o := .fa (.v 3) 2 }, { o := .ld (.l 0) 1 false }, { o := .bin .sub (.l 0) (.i 1) }, { o := .bs [.i 0, .l 8, .l 5, .l 3, .l 0, .i (-1), .i 5] 1 }, { o := .ca N.made_Dice_Of 0 [] [.l 11, .l 0] }, { o := .bin .add (.l 13) (.l 0) }, { o := .mv (.l 0), d := some 8 }] [(1, 14), (1, 15)]) (.ite [{ o := .ld (.v 3) 3 true }, { o := .ld (.v 6) 4 true }, { o := .ld (.v 4) 3 true }, { o := .ld (.v 5) 1 true }, { o := .mv (.v 2) }, { o := .bs [.i 1, .i 2, .i 3, .i 0] 1 }, { o := .ca N.made_Dice_Of 0 [] [.l 1, .l 0] }, { o := .mv (.v 8) }, { o := .mv (.v 2) }, { o := .ca N.made_Dice_One 0 [] [.l 0, .i 2] }, { o := .ca N.law34_agree 0 [] [.l 9, .l 8, .l 7, .l 6, .l 3, .l 2, .l 0] }, { o := .un .not (.l 0) }] [(0, 6), (0, 7), (0, 10), (1, 6), (1, 7), (1, 10), (2, 6), (2, 7), (2, 10), (3, 6), (3, 7), (3, 10)] 0 (.seq (.reg [{ o := .mv (.b false), d := some 1 }] []) .ret) .skip))) (.reg [{ o := .mv (.v 7) }, { o := .bin .add (.l 0) (.i 1) }, { o := .mv (.l 0), d := some 7 }] [])))
def law34_FiringMade_l1 : C := .loop true [0, 1, 8] K.law34_FiringMade_l1b
/-- /law34.FiringMade -/
def law34_FiringMade : Fn := { nargs := 1, vars := [0, 2, 3, 4, 5, 6, 7, 8, 9], body := (.seq (.reg [{ o := .mv (.b false), d := some 1 }] []) (.seq (.ite [{ o := .mv (.v 0) }, { o := .ca N.made_Light 0 [] [.l 0] }, { o := .un .not (.l 0) }] [] 0 (.seq (.reg [{ o := .ca N.law34_awake 0 [] [] }, { o := .mv (.l 0), d := some 1 }] []) .ret) .skip) (.seq (.reg [{ o := .mv (.v 0) }, { o := .ca N.made_Roll 0 [] [.l 0] }, { o := .mv (.l 0), d := some 2 }] []) (.seq (.reg [{ o := .mv (.v 2) }, { o := .ca N.law34_scene 0 [] [.l 0] }, { o := .mv (.l 0) }, { o := .ex (.l 0) 0 }, { o := .ex (.l 1) 1 }, { o := .ex (.l 2) 2 }, { o := .al [.nil, .t (.int .i64 (0)), .t (.int .i64 (0))] [], d := some 3 }, { o := .al [.nil, .nil, .t (.bool false)] [], d := some 4 }, { o := .al [.nil] [], d := some 5 }, { o := .st (.l 2) (.l 5) 3 [] }, { o := .st (.l 2) (.l 5) 3 [] }, { o := .st (.l 2) (.l 5) 1 [] }] []) (.seq (.ite [{ o := .mv (.v 2) }, { o := .ca N.made_Dice_One 0 [] [.l 0, .i 2] }] [] 0 (.reg [{ o := .ca N.law34_ready 0 [] [] }, { o := .mv (.l 0) }, { o := .ex (.l 0) 0 }, { o := .ex (.l 1) 1 }, { o := .ex (.l 2) 2 }, { o := .st (.v 3) (.l 2) 3 [] }, { o := .st (.v 4) (.l 2) 3 [] }, { o := .st (.v 5) (.l 2) 1 [] }] []) .skip) (.seq (.reg [{ o := .mv (.v 2) }, { o := .ca N.made_Dice_Next 0 [] [.l 0, .i 5] }, { o := .bd [.t (.int .i64 (0)), .t (.int .i64 (0)), .t (.int .i64 (0)), .t (.int .i64 (0))] [(0, 1, .l 0)] }, { o := .al [.t (.int .i64 (0)), .t (.int .i64 (0)), .t (.int .i64 (0)), .t (.int .i64 (0))] [], d := some 6 }, { o := .st (.l 0) (.l 1) 4 [] }] []) (.seq (.ite [{ o := .fa (.v 6) 0 }, { o := .ld (.l 0) 1 false }, { o := .bin .gtr (.l 0) (.i 0) }] [] 0 (.reg [{ o := .mv (.v 2) }, { o := .ca N.made_Dice_Next 0 [] [.l 0, .i 2] }, { o := .bin .add (.i 1) (.l 0) }, { o := .mv (.v 2) }, { o := .bs [.i 500, .i 0, .i 77] 1 }, { o := .ca N.made_Dice_Of 0 [] [.l 1, .l 0] }, { o := .fa (.v 6) 1 }, { o := .st (.l 0) (.l 4) 1 [] }, { o := .fa (.v 6) 3 }, { o := .st (.l 0) (.l 3) 1 [] }] []) .skip) (.seq (.ite [{ o := .fa (.v 6) 0 }, { o := .ld (.l 0) 1 false }, { o := .bin .gtr (.l 0) (.i 1) }] [] 0 (.reg [{ o := .fa (.v 6) 1 }, { o := .ld (.l 0) 1 false }, { o := .bin .sub (.i 3) (.l 0) }, { o := .fa (.v 6) 2 }, { o := .st (.l 0) (.l 1) 1 [] }] []) .skip) (.seq (.seq (.reg [{ o := .mv (.i 0), d := some 7 }] []) (.blk 0 K.law34_FiringMade_l1)) (.seq (.reg [{ o := .ca N.law34_awake 0 [] [] }, { o := .mv (.l 0), d := some 1 }] []) .ret)))))))))), res := [(1, none)] }
def law34_FiringNeeds_l1b : C := (.seq (.ite [{ o := .mv (.v 13) }, { o := .bin .gtr (.l 0) (.i 0) }] [] 0 .skip (.exit 0)) (.seq (.blk 1 (.seq (.reg [{ o := .mv (.v 8) }, { o := .mv (.v 2) }, { o := .bs [.i 0, .i 10, .i 200, .i 301] 1 }, { o := .ca N.made_Dice_Of 0 [] [.l 1, .l 0] }, { o := .bin .add (.l 3) (.l 0) }, { o := .mv (.l 0), d := some 8 }] []) (.seq (.reg [{ o := .al [.nil, .nil, .t (.bool false)] [], d := some 14 }, { o := .al [.nil] [], d := some 15 }, { o := .ld (.v 4) 3 true }, { o := .ld (.v 5) 1 true }, { o := .st (.l 3) (.l 1) 3 [] }, { o := .st (.l 3) (.l 1) 1 [] }] [(3, 5)]) (.seq (.reg [{ o := .mv (.v 2) }, { o := .ca N.made_Dice_Next 0 [] [.l 0, .i 6] }, { o := .bin .gtr (.l 0) (.i 0) }, { o := .fa (.v 14) 2 }, { o := .st (.l 0) (.l 1) 1 [] }] []) (.seq (.ite [{ o := .mv (.v 2) }, { o := .ca N.made_Dice_One 0 [] [.l 0, .i 6] }] [] 0 (.reg [{ o := .ld (.v 6) 1 true }, { o := .st (.v 15) (.l 0) 1 [] }] []) .skip) (.seq (.reg [{ o := .fa (.v 14) 2 }, { o := .ld (.l 0) 1 false }, { o := .mv (.l 0) }, { o := .fa (.v 15) 0, g := some (0, true) }, { o := .ld (.l 0) 1 false, g := some (1, true) }, { o := .ia (.l 0) (.i 0) 2, g := some (2, true) }, { o := .fa (.l 0) 1, g := some (3, true) }, { o := .ld (.l 0) 1 false, g := some (4, true) }, { o := .ia (.l 0) (.i 0) 2, g := some (5, true) }, { o := .fa (.l 0) 1, g := some (6, true) }, { o := .ld (.l 0) 1 false, g := some (7, true) }, { o := .ia (.l 0) (.i 1) 1, g := some (8, true) }, { o := .ld (.l 0) 1 false, g := some (9, true) }, { o := .bin .eql (.l 0) (.i 1099511627776), g := some (10, true) }, { o := .pk (.l 11) (.l 0) (.b false) }, { o := .mv (.l 0), d := some 16 }] []) (.seq (.reg [{ o := .mv (.v 2) }, { o := .ca N.made_Dice_Next 0 [] [.l 0, .i 3] }, { o := .bin .add (.i 1) (.l 0) }, { o := .mv (.l 0), d := some 17 }] []) (.seq (.seq (.reg [{ o := .mv (.v 2) }, { o := .ca N.made_Dice_Next 0 [] [.l 0, .i 4], d := some 26 }] []) (.blk 2 (.ite [{ o := .bin .eql (.v 26) (.i 0) }, { o := .mv (.l 0) }] [] 0 (.seq (.reg [{ o := .ld (.v 3) 3 true }, { o := .ld (.v 7) 4 true }, { o := .ld (.v 14) 3 true }, { o := .ld (.v 15) 1 true }, { o := .mv (.v 17) }, { o := .mv (.v 8) }, { o := .ca N.firing_Arm 0 [] [.l 5, .l 4, .l 3, .l 2, .l 1, .l 0] }, { o := .mv (.l 0) }, { o := .ex (.l 0) 0 }, { o := .ex (.l 1) 1 }, { o := .al [.t (.int .i64 (0)), .t (.int .i64 (0)), .t (.int .i64 (0)), .t (.int .i64 (0))] [], d := some 18 }, { o := .st (.l 0) (.l 2) 4 [] }, { o := .mv (.l 2), d := some 19 }] []) (.seq (.ite [{ o := .mv (.v 19) }, { o := .bin .eql (.l 0) (.i 0) }] [] 0 (.seq (.ite [{ o := .mv (.v 16) }, { o := .un .not (.l 0) }, { o := .mv (.l 0) }, { o := .fa (.v 7) 0, g := some (0, false) }, { o := .ld (.l 0) 1 false, g := some (1, false) }, { o := .bin .neq (.l 0) (.i 0), g := some (2, false) }, { o := .pk (.l 3) (.b true) (.l 0) }] [] 0 (.seq (.reg [{ o := .mv (.b false), d := some 1 }] []) .ret) .skip) (.reg [{ o := .mv (.v 8) }, { o := .mv (.v 17) }, { o := .mv (.l 1), d := some 9 }, { o := .mv (.l 1), d := some 11 }] [])) .skip) (.reg [{ o := .ld (.v 18) 4 true }, { o := .st (.v 7) (.l 0) 4 [] }] []))) (.ite [{ o := .bin .eql (.v 26) (.i 1) }, { o := .mv (.l 0) }] [] 0 (.seq (.reg [{ o := .ld (.v 3) 3 true }, { o := .ld (.v 7) 4 true }, { o := .ld (.v 14) 3 true }, { o := .ld (.v 15) 1 true }, { o := .mv (.v 17) }, { o := .mv (.v 8) }, { o := .ca N.firing_Agree 0 [] [.l 5, .l 4, .l 3, .l 2, .l 1, .l 0] }, { o := .mv (.l 0) }, { o := .ex (.l 0) 0 }, { o := .ex (.l 1) 1 }, { o := .al [.t (.int .i64 (0)), .t (.int .i64 (0)), .t (.int .i64 (0)), .t (.int .i64 (0))] [], d := some 20 }, { o := .st (.l 0) (.l 2) 4 [] }, { o := .mv (.l 2), d := some 21 }] []) (.seq (.ite [{ o := .mv (.v 21) }, { o := .bin .eql (.l 0) (.i 0) }] [] 0 (.seq (.ite [{ o := .mv (.v 16) }, { o := .un .not (.l 0) }, { o := .mv (.l 0) }, { o := .mv (.v 9), g := some (0, false) }, { o := .bin .lss (.l 0) (.i 0), g := some (1, false) }, { o := .pk (.l 2) (.b true) (.l 0) }, { o := .mv (.l 0) }, { o := .mv (.v 8), g := some (0, false) }, { o := .mv (.v 9), g := some (1, false) }, { o := .bin .sub (.l 1) (.l 0), g := some (2, false) }, { o := .fa (.v 3) 1, g := some (3, false) }, { o := .ld (.l 0) 1 false, g := some (4, false) }, { o := .bin .gtr (.l 2) (.l 0), g := some (5, false) }, { o := .pk (.l 6) (.b true) (.l 0) }, { o := .mv (.l 0) }, { o := .mv (.v 17), g := some (0, false) }, { o := .mv (.v 11), g := some (1, false) }, { o := .bin .eql (.l 1) (.l 0), g := some (2, false) }, { o := .pk (.l 3) (.b true) (.l 0) }] [] 0 (.seq (.reg [{ o := .mv (.b false), d := some 1 }] []) .ret) .skip) (.reg [{ o := .mv (.v 8) }, { o := .mv (.v 17) }, { o := .mv (.l 1), d := some 10 }, { o := .mv (.l 1), d := some 12 }] [])) .skip) (.reg [{ o := .ld (.v 20) 4 true }, { o := .st (.v 7) (.l 0) 4 [] }] []))) (.ite [{ o := .bin .eql (.v 26) (.i 2) }, { o := .mv (.l 0) }] [] 0 (.seq (.reg [{ o := .al [.t (.int .i64 (0)), .t (.int .i64 (0)), .t (.int .i64 (0)), .t (.int .i64 (0))] [], d := some 22 }, { o := .ld (.v 3) 3 true }, { o := .ld (.v 7) 4 true }, { o := .ld (.v 14) 3 true }, { o := .ld (.v 15) 1 true }, { o := .mv (.v 8) }, { o := .mv (.v 2) }, { o := .ca N.made_Dice_One 0 [] [.l 0, .i 3] }, { o := .ca N.firing_Fire 0 [] [.l 6, .l 5, .l 4, .l 3, .l 2, .l 0] }, { o := .mv (.l 0) }, { o := .ex (.l 0) 0 }, { o := .ex (.l 1) 1 }, { o := .st (.l 11) (.l 1) 4 [] }, { o := .mv (.l 1), d := some 23 }] [(0, 8), (0, 9), (1, 8), (2, 8), (3, 8), (4, 8)]) (.seq (.ite [{ o := .mv (.v 23) }, { o := .bin .eql (.l 0) (.i 0) }, { o := .mv (.l 0) }, { o := .mv (.v 16), g := some (0, true) }, { o := .un .not (.l 0), g := some (1, true) }, { o := .mv (.l 0), g := some (2, true) }, { o := .mv (.v 10), g := some (0, false) }, { o := .bin .lss (.l 0) (.i 0), g := some (1, false) }, { o := .pk (.l 2) (.b true) (.l 0), g := some (5, true) }, { o := .mv (.l 0), g := some (6, true) }, { o := .mv (.v 8), g := some (0, false) }, { o := .mv (.v 10), g := some (1, false) }, { o := .bin .sub (.l 1) (.l 0), g := some (2, false) }, { o := .fa (.v 3) 1, g := some (3, false) }, { o := .ld (.l 0) 1 false, g := some (4, false) }, { o := .bin .gtr (.l 2) (.l 0), g := some (5, false) }, { o := .pk (.l 6) (.b true) (.l 0), g := some (13, true) }, { o := .mv (.l 0), g := some (14, true) }, { o := .mv (.v 11), g := some (0, false) }, { o := .mv (.v 12), g := some (1, false) }, { o := .bin .eql (.l 1) (.l 0), g := some (2, false) }, { o := .pk (.l 3) (.b true) (.l 0), g := some (18, true) }, { o := .pk (.l 19) (.l 0) (.b false) }] [] 0 (.seq (.reg [{ o := .mv (.b false), d := some 1 }] []) .ret) .skip) (.reg [{ o := .ld (.v 22) 4 true }, { o := .st (.v 7) (.l 0) 4 [] }] []))) (.seq (.reg [{ o := .ld (.v 3) 3 true }, { o := .ld (.v 7) 4 true }, { o := .mv (.v 8) }, { o := .ca N.firing_Abort 0 [] [.l 2, .l 1, .l 0] }, { o := .mv (.l 0) }, { o := .ex (.l 0) 0 }, { o := .ex (.l 1) 1 }, { o := .al [.t (.int .i64 (0)), .t (.int .i64 (0)), .t (.int .i64 (0)), .t (.int .i64 (0))] [], d := some 24 }, { o := .st (.l 0) (.l 2) 4 [] }, { o := .mv (.l 2), d := some 25 }] []) (.seq (.ite [{ o := .mv (.v 25) }, { o := .bin .eql (.l 0) (.i 0) }] [] 0 (.reg [{ o := .mv (.i (-1)), d := some 9 }, { o := .mv (.i (-1)), d := some 10 }, { o := .mv (.i 0), d := some 11 }, { o := .mv (.i 0), d := some 12 }] []) .skip) (.reg [{ o := .ld (.v 24) 4 true }, { o := .st (.v 7) (.l 0) 4 [] }] [])))))))) (.ite [{ o := .ld (.v 3) 3 true }, { o := .ld (.v 7) 4 true }, { o := .ca N.firing_Valid 0 [] [.l 1, .l 0] }, { o := .un .not (.l 0) }] [] 0 (.seq (.reg [{ o := .mv (.b false), d := some 1 }] []) .ret) .skip))))))))) (.reg [{ o := .mv (.v 13) }, { o := .bin .sub (.l 0) (.i 1) }, { o := .mv (.l 0), d := some 13 }] [])))
def law34_FiringNeeds_l1 : C := .loop true [0, 1, 14, 15, 16, 17, 18, 19, 20, 21, 22, 23, 24, 25, 26] K.law34_FiringNeeds_l1b
/-- /law34.FiringNeeds -/
def law34_FiringNeeds : Fn := { nargs := 1, vars := [0, 2, 3, 4, 5, 6, 7, 8, 9, 10, 11, 12, 13, 14, 15, 16, 17, 18, 19, 20, 21, 22, 23, 24, 25, 26, 88], body := (.seq (.reg [{ o := .mv (.b false), d := some 1 }] []) (.seq (.ite [{ o := .mv (.v 0) }, { o := .ca N.made_Light 0 [] [.l 0] }, { o := .un .not (.l 0) }] [] 0 (.seq (.reg [{ o := .ca N.law34_awake 0 [] [] }, { o := .mv (.l 0), d := some 1 }] []) .ret) .skip) (.seq (.reg [{ o := .mv (.v 0) }, { o := .ca N.made_Roll 0 [] [.l 0] }, { o := .mv (.l 0), d := some 2 }] []) (.seq (.reg [{ o := .ca N.law34_ready 0 [] [] }, { o := .mv (.l 0) }, { o := .ex (.l 0) 0 }, { o := .ex (.l 1) 1 }, { o := .ex (.l 2) 2 }, { o := .al [.nil, .t (.int .i64 (0)), .t (.int .i64 (0))] [], d := some 3 }, { o := .al [.nil, .nil, .t (.bool false)] [], d := some 4 }, { o := .al [.nil] [], d := some 5 }, { o := .st (.l 2) (.l 5) 3 [] }, { o := .st (.l 2) (.l 5) 3 [] }, { o := .st (.l 2) (.l 5) 1 [] }] []) (.seq (.reg [{ o := .ld (.v 5) 1 true }, { o := .ca N.ref26_Copy_v2 3 [] [.l 0] }, { o := .al [.nil] [], d := some 6 }, { o := .st (.l 0) (.l 1) 1 [] }] []) (.seq (.reg [{ o := .fa (.v 6) 0 }, { o := .ld (.l 0) 1 false }, { o := .ia (.l 0) (.i 0) 2 }, { o := .fa (.l 0) 1 }, { o := .ld (.l 0) 1 false }, { o := .ia (.l 0) (.i 0) 2 }, { o := .fa (.l 0) 1 }, { o := .ld (.l 0) 1 false }, { o := .ia (.l 0) (.i 1) 1 }, { o := .st (.l 0) (.i 5000) 1 [] }] []) (.seq (.reg [{ o := .al [.t (.int .i64 (0)), .t (.int .i64 (0)), .t (.int .i64 (0)), .t (.int .i64 (0))] [], d := some 7 }] []) (.seq (.reg [{ o := .mv (.i 0), d := some 8 }, { o := .mv (.i (-1)), d := some 9 }, { o := .mv (.i (-1)), d := some 10 }, { o := .mv (.i 0), d := some 11 }, { o := .mv (.i 0), d := some 12 }] []) (.seq (.seq (.reg [{ o := .mv (.v 2) }, { o := .ca N.made_Dice_Next 0 [] [.l 0, .i 30] }, { o := .mv (.l 0), d := some 13 }] []) (.blk 0 K.law34_FiringNeeds_l1)) (.seq (.reg [{ o := .ca N.law34_awake 0 [] [] }, { o := .mv (.l 0), d := some 1 }] []) .ret)))))))))), res := [(1, none)] }
/-- /law34.awake -/
def law34_awake : Fn := { nargs := 0, vars := [0, 1, 2, 3, 4, 5, 6, 7, 8, 9, 11], body := (.seq (.reg [{ o := .mv (.b false), d := some 0 }] []) (.seq (.reg [{ o := .ca N.law34_ready 0 [] [] }, { o := .mv (.l 0) }, { o := .ex (.l 0) 0 }, { o := .ex (.l 1) 1 }, { o := .ex (.l 2) 2 }, { o := .al [.nil, .t (.int .i64 (0)), .t (.int .i64 (0))] [], d := some 1 }, { o := .al [.nil, .nil, .t (.bool false)] [], d := some 2 }, { o := .al [.nil] [], d := some 3 }, { o := .st (.l 2) (.l 5) 3 [] }, { o := .st (.l 2) (.l 5) 3 [] }, { o := .st (.l 2) (.l 5) 1 [] }] []) (.seq (.reg [{ o := .ld (.v 1) 3 true }, { o := .bd [.t (.int .i64 (0)), .t (.int .i64 (0)), .t (.int .i64 (0)), .t (.int .i64 (0))] [] }, { o := .ld (.v 2) 3 true }, { o := .ld (.v 3) 1 true }, { o := .ca N.firing_Arm 0 [] [.l 3, .l 2, .l 1, .l 0, .i 1, .i 100] }, { o := .mv (.l 0) }, { o := .ex (.l 0) 0 }, { o := .ex (.l 1) 1 }, { o := .al [.t (.int .i64 (0)), .t (.int .i64 (0)), .t (.int .i64 (0)), .t (.int .i64 (0))] [], d := some 4 }, { o := .st (.l 0) (.l 2) 4 [] }, { o := .mv (.l 2), d := some 5 }] []) (.seq (.reg [{ o := .ld (.v 1) 3 true }, { o := .ld (.v 4) 4 true }, { o := .ld (.v 2) 3 true }, { o := .ld (.v 3) 1 true }, { o := .ca N.firing_Agree 0 [] [.l 3, .l 2, .l 1, .l 0, .i 2, .i 200] }, { o := .mv (.l 0) }, { o := .ex (.l 0) 0 }, { o := .ex (.l 1) 1 }, { o := .al [.t (.int .i64 (0)), .t (.int .i64 (0)), .t (.int .i64 (0)), .t (.int .i64 (0))] [], d := some 6 }, { o := .st (.l 0) (.l 2) 4 [] }, { o := .mv (.l 2), d := some 7 }] []) (.seq (.reg [{ o := .ld (.v 1) 3 true }, { o := .ld (.v 6) 4 true }, { o := .ld (.v 2) 3 true }, { o := .ld (.v 3) 1 true }, { o := .ca N.firing_Fire 0 [] [.l 3, .l 2, .l 1, .l 0, .i 300, .b false] }, { o := .mv (.l 0) }, { o := .ex (.l 0) 0 }, { o := .ex (.l 1) 1 }, { o := .al [.t (.int .i64 (0)), .t (.int .i64 (0)), .t (.int .i64 (0)), .t (.int .i64 (0))] [], d := some 8 }, { o := .st (.l 0) (.l 2) 4 [] }, { o := .mv (.l 2), d := some 9 }] []) (.seq (.reg [{ o := .ld (.v 1) 3 true }, { o := .ld (.v 4) 4 true }, { o := .ld (.v 2) 3 true }, { o := .ld (.v 3) 1 true }, { o := .ca N.firing_Agree 0 [] [.l 3, .l 2, .l 1, .l 0, .i 1, .i 200] }, { o := .mv (.l 0) }, { o := .ex (.l 0) 0 }, { o := .ex (.l 1) 1 }, { o := .al [.t (.int .i64 (0)), .t (.int .i64 (0)), .t (.int .i64 (0)), .t (.int .i64 (0))] [] }, { o := .st (.l 0) (.l 2) 4 [] }, { o := .mv (.l 2), d := some 10 }] []) (.seq (.reg [{ o := .mv (.v 5) }, { o := .bin .eql (.l 0) (.i 0) }, { o := .mv (.l 0) }, { o := .mv (.v 7), g := some (0, true) }, { o := .bin .eql (.l 0) (.i 0), g := some (1, true) }, { o := .pk (.l 2) (.l 0) (.b false) }, { o := .mv (.l 0) }, { o := .mv (.v 9), g := some (0, true) }, { o := .bin .eql (.l 0) (.i 0), g := some (1, true) }, { o := .pk (.l 2) (.l 0) (.b false) }, { o := .mv (.l 0) }, { o := .mv (.v 10), g := some (0, true) }, { o := .bin .eql (.l 0) (.i 19), g := some (1, true) }, { o := .pk (.l 2) (.l 0) (.b false) }, { o := .mv (.l 0) }, { o := .fa (.v 4) 0, g := some (0, true) }, { o := .ld (.l 0) 1 false, g := some (1, true) }, { o := .bin .eql (.l 0) (.i 1), g := some (2, true) }, { o := .pk (.l 3) (.l 0) (.b false) }, { o := .mv (.l 0) }, { o := .fa (.v 8) 0, g := some (0, true) }, { o := .ld (.l 0) 1 false, g := some (1, true) }, { o := .bin .eql (.l 0) (.i 3), g := some (2, true) }, { o := .pk (.l 3) (.l 0) (.b false) }, { o := .mv (.l 0) }, { o := .fa (.v 8) 3, g := some (0, true) }, { o := .ld (.l 0) 1 false, g := some (1, true) }, { o := .bin .eql (.l 0) (.i 300), g := some (2, true) }, { o := .pk (.l 3) (.l 0) (.b false) }, { o := .mv (.l 0) }, { o := .ld (.v 1) 3 true, g := some (0, true) }, { o := .ld (.v 4) 4 true, g := some (1, true) }, { o := .ca N.firing_Due 0 [] [.l 1, .l 0, .i 150], g := some (2, true) }, { o := .bin .eql (.l 0) (.i 250), g := some (3, true) }, { o := .pk (.l 4) (.l 0) (.b false) }, { o := .mv (.l 0), d := some 0 }] []) .ret))))))), res := [(0, none)] }
def made_Dice_Ints_l1b : C := (.seq (.ite [{ o := .mv (.v 3) }, { o := .bin .gtr (.l 0) (.i 0) }] [] 0 .skip (.exit 0)) (.seq (.blk 1 (.reg [{ o := .mv (.v 2) }, { o := .mv (.v 0) }, { o := .ca N.made_Dice_Next 0 [] [.l 0, .i 9] }, { o := .bin .sub (.l 0) (.i 1) }, { o := .bs [.l 0] 1 }, { o := .app (.l 4) (.l 0) true 1 }, { o := .mv (.l 0), d := some 2 }] [])) (.reg [{ o := .mv (.v 3) }, { o := .bin .sub (.l 0) (.i 1) }, { o := .mv (.l 0), d := some 3 }] [])))
def made_Dice_Ints_l1 : C := .loop true [1] K.made_Dice_Ints_l1b
/-- (*/made.Dice).Ints -/
def made_Dice_Ints : Fn := { nargs := 1, vars := [0, 2, 3, 4], body := (.seq (.reg [{ o := .mv (.c (.nil)), d := some 1 }] []) (.seq (.reg [{ o := .nw 1, d := some 2 }] []) (.seq (.seq (.reg [{ o := .mv (.v 0) }, { o := .ca N.made_Dice_Next 0 [] [.l 0, .i 5] }, { o := .mv (.l 0), d := some 3 }] []) (.blk 0 K.made_Dice_Ints_l1)) (.seq (.reg [{ o := .mv (.v 2) }, { o := .mv (.l 0), d := some 1 }] []) .ret)))), res := [(1, none)] }
/-- /law34.scene -/
def law34_scene : Fn := { nargs := 1, vars := [0, 2, 3, 4, 5, 6, 7, 8, 9, 10, 11], body := (.seq (.reg [{ o := .al [.nil, .t (.int .i64 (0)), .t (.int .i64 (0))] [], d := some 1 }, { o := .al [.nil, .nil, .t (.bool false)] [], d := some 2 }, { o := .al [.nil] [], d := some 3 }] []) (.seq (.reg [{ o := .mv (.v 0) }, { o := .ca N.made_Dice_Mine 0 [] [.l 0] }, { o := .al [.nil, .nil] [], d := some 4 }, { o := .st (.l 0) (.l 1) 2 [] }] []) (.seq (.reg [{ o := .al [.nil, .t (.int .i64 (0)), .t (.int .i64 (0))] [], d := some 5 }, { o := .fa (.v 4) 0 }, { o := .ld (.l 0) 1 false }, { o := .ln (.l 0) }, { o := .bin .sub (.l 0) (.i 1) }, { o := .bs [.l 0] 1 }, { o := .mv (.v 0) }, { o := .bs [.i 299, .i 9] 1 }, { o := .ca N.made_Dice_Of 0 [] [.l 1, .l 0] }, { o := .bin .add (.i 1) (.l 0) }, { o := .mv (.v 0) }, { o := .bs [.i 1799, .i 9] 1 }, { o := .ca N.made_Dice_Of 0 [] [.l 1, .l 0] }, { o := .bin .add (.i 1) (.l 0) }, { o := .bd [.nil, .t (.int .i64 (0)), .t (.int .i64 (0))] [(0, 1, .l 8), (1, 1, .l 4), (2, 1, .l 0)] }, { o := .st (.l 14) (.l 0) 3 [] }] [(0, 9), (0, 13), (2, 9), (2, 13), (5, 9), (5, 13), (7, 7), (11, 1)]) (.seq (.reg [{ o := .mv (.v 0) }, { o := .ld (.v 4) 2 true }, { o := .ca N.made_Dice_Belief 0 [] [.l 1, .l 0] }, { o := .al [.nil] [], d := some 6 }, { o := .st (.l 0) (.l 1) 1 [] }] []) (.seq (.reg [{ o := .ld (.v 4) 2 true }, { o := .fa (.v 5) 0 }, { o := .ld (.l 0) 1 false }, { o := .ca N.ref32_Border 0 [] [.l 2, .l 0] }, { o := .mv (.l 0), d := some 7 }] []) (.seq (.reg [{ o := .al [.nil] [], d := some 8 }, { o := .ld (.v 4) 2 true }, { o := .ld (.v 6) 1 true }, { o := .mv (.v 7) }, { o := .ld (.v 6) 1 true }, { o := .ca N.made_Last 0 [] [.l 0] }, { o := .mv (.v 0) }, { o := .ca N.made_Dice_Next 0 [] [.l 0, .i 50] }, { o := .bin .add (.l 2) (.l 0) }, { o := .ca N.ref32_Seal 0 [] [.l 7, .l 6, .l 5, .l 0] }, { o := .mv (.l 0) }, { o := .ex (.l 0) 0 }, { o := .ex (.l 1) 1 }, { o := .st (.l 12) (.l 1) 1 [] }, { o := .mv (.l 1), d := some 9 }] [(0, 6), (0, 8), (0, 10), (1, 6), (1, 8), (2, 6), (2, 8)]) (.seq (.ite [{ o := .mv (.v 9) }, { o := .bin .neq (.l 0) (.i 0) }] [] 0 (.reg [{ o := .ld (.v 6) 1 true }, { o := .st (.v 8) (.l 0) 1 [] }] []) .skip) (.seq (.reg [{ o := .bs [.i 1] 1 }, { o := .bs [.i 2] 1 }, { o := .mv (.v 0) }, { o := .ca N.made_Dice_Next 0 [] [.l 0, .i 6] }, { o := .bin .gtr (.l 0) (.i 0) }, { o := .bd [.nil, .nil, .t (.bool false)] [(0, 1, .l 4), (1, 1, .l 3), (2, 1, .l 0)] }, { o := .al [.nil, .nil, .t (.bool false)] [], d := some 10 }, { o := .st (.l 0) (.l 1) 3 [] }] []) (.seq (.reg [{ o := .ld (.v 5) 3 true }, { o := .ld (.v 10) 3 true }, { o := .ld (.v 8) 1 true }, { o := .st (.v 1) (.l 2) 3 [] }, { o := .st (.v 2) (.l 2) 3 [] }, { o := .st (.v 3) (.l 2) 1 [] }] [(1, 4), (2, 4), (2, 5)]) .ret))))))))), res := [(1, some (3, true)), (2, some (3, true)), (3, some (1, true))] }
/-- /law34.agree -/
def law34_agree : Fn := { nargs := 7, vars := [0, 1, 2, 3, 4, 5, 6, 7, 8, 9, 10, 14, 15, 16, 17, 18, 19, 20, 21, 22, 23, 24, 25, 26, 27, 28, 29, 30], body := (.seq (.reg [{ o := .bx (.v 0) 3, d := some 7 }, { o := .bx (.v 1) 4, d := some 8 }, { o := .bx (.v 2) 3, d := some 9 }, { o := .bx (.v 3) 1, d := some 10 }, { o := .mv (.b false), d := some 11 }] []) (.seq (.reg [{ o := .ld (.v 7) 3 true }, { o := .ld (.v 8) 4 true }, { o := .ld (.v 9) 3 true }, { o := .ld (.v 10) 1 true }, { o := .mv (.v 4) }, { o := .mv (.v 5) }, { o := .ca N.firing_Arm 0 [] [.l 5, .l 4, .l 3, .l 2, .l 1, .l 0] }, { o := .mv (.l 0) }, { o := .ex (.l 0) 0 }, { o := .ex (.l 1) 1 }, { o := .al [.t (.int .i64 (0)), .t (.int .i64 (0)), .t (.int .i64 (0)), .t (.int .i64 (0))] [], d := some 12 }, { o := .st (.l 0) (.l 2) 4 [] }, { o := .mv (.l 2), d := some 13 }] []) (.seq (.reg [{ o := .ld (.v 7) 3 true }, { o := .ld (.v 8) 4 true }, { o := .ld (.v 9) 3 true }, { o := .ld (.v 10) 1 true }, { o := .mv (.v 4) }, { o := .mv (.v 5) }, { o := .ca N.ref34_Arm 0 [] [.l 5, .l 4, .l 3, .l 2, .l 1, .l 0] }, { o := .mv (.l 0) }, { o := .ex (.l 0) 0 }, { o := .ex (.l 1) 1 }, { o := .al [.t (.int .i64 (0)), .t (.int .i64 (0)), .t (.int .i64 (0)), .t (.int .i64 (0))] [], d := some 14 }, { o := .st (.l 0) (.l 2) 4 [] }, { o := .mv (.l 2), d := some 15 }] []) (.seq (.reg [{ o := .ld (.v 7) 3 true }, { o := .ld (.v 8) 4 true }, { o := .ld (.v 9) 3 true }, { o := .ld (.v 10) 1 true }, { o := .mv (.v 4) }, { o := .mv (.v 5) }, { o := .ca N.firing_Agree 0 [] [.l 5, .l 4, .l 3, .l 2, .l 1, .l 0] }, { o := .mv (.l 0) }, { o := .ex (.l 0) 0 }, { o := .ex (.l 1) 1 }, { o := .al [.t (.int .i64 (0)), .t (.int .i64 (0)), .t (.int .i64 (0)), .t (.int .i64 (0))] [], d := some 16 }, { o := .st (.l 0) (.l 2) 4 [] }, { o := .mv (.l 2), d := some 17 }] []) (.seq (.reg [{ o := .ld (.v 7) 3 true }, { o := .ld (.v 8) 4 true }, { o := .ld (.v 9) 3 true }, { o := .ld (.v 10) 1 true }, { o := .mv (.v 4) }, { o := .mv (.v 5) }, { o := .ca N.ref34_Agree 0 [] [.l 5, .l 4, .l 3, .l 2, .l 1, .l 0] }, { o := .mv (.l 0) }, { o := .ex (.l 0) 0 }, { o := .ex (.l 1) 1 }, { o := .al [.t (.int .i64 (0)), .t (.int .i64 (0)), .t (.int .i64 (0)), .t (.int .i64 (0))] [], d := some 18 }, { o := .st (.l 0) (.l 2) 4 [] }, { o := .mv (.l 2), d := some 19 }] []) (.seq (.reg [{ o := .ld (.v 7) 3 true }, { o := .ld (.v 8) 4 true }, { o := .ld (.v 9) 3 true }, { o := .ld (.v 10) 1 true }, { o := .mv (.v 5) }, { o := .mv (.v 6) }, { o := .ca N.firing_Fire 0 [] [.l 5, .l 4, .l 3, .l 2, .l 1, .l 0] }, { o := .mv (.l 0) }, { o := .ex (.l 0) 0 }, { o := .ex (.l 1) 1 }, { o := .al [.t (.int .i64 (0)), .t (.int .i64 (0)), .t (.int .i64 (0)), .t (.int .i64 (0))] [], d := some 20 }, { o := .st (.l 0) (.l 2) 4 [] }, { o := .mv (.l 2), d := some 21 }] []) (.seq (.reg [{ o := .ld (.v 7) 3 true }, { o := .ld (.v 8) 4 true }, { o := .ld (.v 9) 3 true }, { o := .ld (.v 10) 1 true }, { o := .mv (.v 5) }, { o := .mv (.v 6) }, { o := .ca N.ref34_Fire 0 [] [.l 5, .l 4, .l 3, .l 2, .l 1, .l 0] }, { o := .mv (.l 0) }, { o := .ex (.l 0) 0 }, { o := .ex (.l 1) 1 }, { o := .al [.t (.int .i64 (0)), .t (.int .i64 (0)), .t (.int .i64 (0)), .t (.int .i64 (0))] [], d := some 22 }, { o := .st (.l 0) (.l 2) 4 [] }, { o := .mv (.l 2), d := some 23 }] []) (.seq (.reg [{ o := .ld (.v 7) 3 true }, { o := .ld (.v 8) 4 true }, { o := .mv (.v 5) }, { o := .ca N.firing_Abort 0 [] [.l 2, .l 1, .l 0] }, { o := .mv (.l 0) }, { o := .ex (.l 0) 0 }, { o := .ex (.l 1) 1 }, { o := .al [.t (.int .i64 (0)), .t (.int .i64 (0)), .t (.int .i64 (0)), .t (.int .i64 (0))] [], d := some 24 }, { o := .st (.l 0) (.l 2) 4 [] }, { o := .mv (.l 2), d := some 25 }] []) (.seq (.reg [{ o := .ld (.v 7) 3 true }, { o := .ld (.v 8) 4 true }, { o := .mv (.v 5) }, { o := .ca N.ref34_Abort 0 [] [.l 2, .l 1, .l 0] }, { o := .mv (.l 0) }, { o := .ex (.l 0) 0 }, { o := .ex (.l 1) 1 }, { o := .al [.t (.int .i64 (0)), .t (.int .i64 (0)), .t (.int .i64 (0)), .t (.int .i64 (0))] [], d := some 26 }, { o := .st (.l 0) (.l 2) 4 [] }, { o := .mv (.l 2), d := some 27 }] []) (.seq (.reg [{ o := .ld (.v 12) 4 true }, { o := .ld (.v 14) 4 true }, { o := .eqk (.ints 4) false (.l 1) (.l 0) }, { o := .mv (.l 0) }, { o := .mv (.v 13), g := some (0, true) }, { o := .mv (.v 15), g := some (1, true) }, { o := .bin .eql (.l 1) (.l 0), g := some (2, true) }, { o := .pk (.l 3) (.l 0) (.b false) }, { o := .mv (.l 0) }, { o := .ld (.v 16) 4 true, g := some (0, true) }, { o := .ld (.v 18) 4 true, g := some (1, true) }, { o := .eqk (.ints 4) false (.l 1) (.l 0), g := some (2, true) }, { o := .pk (.l 3) (.l 0) (.b false) }, { o := .mv (.l 0) }, { o := .mv (.v 17), g := some (0, true) }, { o := .mv (.v 19), g := some (1, true) }, { o := .bin .eql (.l 1) (.l 0), g := some (2, true) }, { o := .pk (.l 3) (.l 0) (.b false) }, { o := .mv (.l 0) }, { o := .ld (.v 20) 4 true, g := some (0, true) }, { o := .ld (.v 22) 4 true, g := some (1, true) }, { o := .eqk (.ints 4) false (.l 1) (.l 0), g := some (2, true) }, { o := .pk (.l 3) (.l 0) (.b false) }, { o := .mv (.l 0) }, { o := .mv (.v 21), g := some (0, true) }, { o := .mv (.v 23), g := some (1, true) }, { o := .bin .eql (.l 1) (.l 0), g := some (2, true) }, { o := .pk (.l 3) (.l 0) (.b false) }, { o := .mv (.l 0) }, { o := .ld (.v 24) 4 true, g := some (0, true) }, { o := .ld (.v 26) 4 true, g := some (1, true) }, { o := .eqk (.ints 4) false (.l 1) (.l 0), g := some (2, true) }, { o := .pk (.l 3) (.l 0) (.b false) }, { o := .mv (.l 0) }, { o := .mv (.v 25), g := some (0, true) }, { o := .mv (.v 27), g := some (1, true) }, { o := .bin .eql (.l 1) (.l 0), g := some (2, true) }, { o := .pk (.l 3) (.l 0) (.b false) }, { o := .mv (.l 0) }, { o := .ld (.v 7) 3 true, g := some (0, true) }, { o := .ld (.v 8) 4 true, g := some (1, true) }, { o := .ca N.firing_Valid 0 [] [.l 1, .l 0], g := some (2, true) }, { o := .ld (.v 7) 3 true, g := some (3, true) }, { o := .ld (.v 8) 4 true, g := some (4, true) }, { o := .ca N.ref34_Valid 0 [] [.l 1, .l 0], g := some (5, true) }, { o := .eqk (.bool) false (.l 3) (.l 0), g := some (6, true) }, { o := .pk (.l 7) (.l 0) (.b false) }, { o := .mv (.l 0) }, { o := .ld (.v 7) 3 true, g := some (0, true) }, { o := .ld (.v 9) 3 true, g := some (1, true) }, { o := .ld (.v 10) 1 true, g := some (2, true) }, { o := .ca N.firing_Safe 0 [] [.l 2, .l 1, .l 0], g := some (3, true) }, { o := .ld (.v 7) 3 true, g := some (4, true) }, { o := .ld (.v 9) 3 true, g := some (5, true) }, { o := .ld (.v 10) 1 true, g := some (6, true) }, { o := .ca N.ref34_Safe 0 [] [.l 2, .l 1, .l 0], g := some (7, true) }, { o := .eqk (.bool) false (.l 4) (.l 0), g := some (8, true) }, { o := .pk (.l 9) (.l 0) (.b false) }, { o := .mv (.l 0) }, { o := .ld (.v 7) 3 true, g := some (0, true) }, { o := .ld (.v 8) 4 true, g := some (1, true) }, { o := .mv (.v 5), g := some (2, true) }, { o := .ca N.firing_Due 0 [] [.l 2, .l 1, .l 0], g := some (3, true) }, { o := .ld (.v 7) 3 true, g := some (4, true) }, { o := .ld (.v 8) 4 true, g := some (5, true) }, { o := .mv (.v 5), g := some (6, true) }, { o := .ca N.ref34_Due 0 [] [.l 2, .l 1, .l 0], g := some (7, true) }, { o := .bin .eql (.l 4) (.l 0), g := some (8, true) }, { o := .pk (.l 9) (.l 0) (.b false) }, { o := .mv (.l 0), d := some 11 }] [(42, 0), (43, 0), (52, 45), (53, 45), (54, 45), (63, 56), (64, 56)]) .ret)))))))))), res := [(11, none)] }
/-- /law34.ready -/
def law34_ready : Fn := { nargs := 0, vars := [0, 1, 2, 3], body := (.seq (.reg [{ o := .al [.nil, .t (.int .i64 (0)), .t (.int .i64 (0))] [], d := some 0 }, { o := .al [.nil, .nil, .t (.bool false)] [], d := some 1 }, { o := .al [.nil] [], d := some 2 }] []) (.seq (.reg [{ o := .bs [.i 0, .i 1099511627776] 1 }, { o := .bd [.t (.int .i64 (0)), .nil] [(1, 1, .l 0)] }, { o := .al [.t (.int .i64 (0)), .nil] [], d := some 3 }, { o := .st (.l 0) (.l 1) 2 [] }] []) (.seq (.reg [{ o := .bs [.i 1] 1 }, { o := .bd [.nil, .t (.int .i64 (0)), .t (.int .i64 (0))] [(0, 1, .l 0), (1, 1, .i 300), (2, 1, .i 1800)] }, { o := .bs [.i 0] 1 }, { o := .bs [.i 2] 1 }, { o := .bd [.nil, .nil, .t (.bool false)] [(0, 1, .l 1), (1, 1, .l 0), (2, 1, .b true)] }, { o := .bs [.i 1] 1 }, { o := .ld (.v 3) 2 true }, { o := .bs [.l 0] 2 }, { o := .bd [.nil, .nil] [(0, 1, .l 2), (1, 1, .l 0)] }, { o := .bs [.l 0] 2 }, { o := .bd [.nil] [(0, 1, .l 0)] }, { o := .st (.v 0) (.l 9) 3 [] }, { o := .st (.v 1) (.l 7) 3 [] }, { o := .st (.v 2) (.l 2) 1 [] }] [(0, 0), (2, 12), (3, 12), (5, 12), (5, 13), (6, 12), (6, 13), (7, 12), (7, 13), (9, 12), (9, 13)]) .ret))), res := [(0, some (3, true)), (1, some (3, true)), (2, some (1, true))] }
/-- /firing.Arm -/
def firing_Arm : Fn := { nargs := 6, vars := [0, 1, 2, 3, 4, 5, 6, 7, 8, 9, 12, 13, 14], body := (.seq (.reg [{ o := .bx (.v 0) 3, d := some 6 }, { o := .bx (.v 1) 4, d := some 7 }, { o := .bx (.v 2) 3, d := some 8 }, { o := .bx (.v 3) 1, d := some 9 }, { o := .al [.t (.int .i64 (0)), .t (.int .i64 (0)), .t (.int .i64 (0)), .t (.int .i64 (0))] [], d := some 10 }, { o := .mv (.i 0), d := some 11 }] []) (.seq (.seq (.reg [{ o := .ld (.v 6) 3 true }, { o := .ld (.v 7) 4 true }, { o := .ld (.v 8) 3 true }, { o := .ld (.v 9) 1 true }, { o := .mv (.v 5) }, { o := .bd [.nil, .t (.int .i64 (0)), .t (.int .i64 (0)), .t (.int .i64 (0)), .t (.int .i64 (0)), .t (.int .i64 (0)), .t (.int .i64 (0)), .nil, .nil, .t (.bool false), .nil, .t (.int .i64 (0)), .t (.int .i64 (0))] [(0, 3, .l 4), (3, 4, .l 3), (7, 3, .l 2), (10, 1, .l 1), (11, 1, .l 0), (12, 1, .i 0)] }, { o := .mv (.v 4) }, { o := .bin .leq (.l 0) (.i 0) }, { o := .ca N.firing_request_check 0 [] [.l 2, .l 0] }, { o := .mv (.l 0), d := some 12 }] []) (.ite [{ o := .mv (.v 12) }, { o := .bin .neq (.l 0) (.i 0) }] [] 0 (.seq (.reg [{ o := .ld (.v 7) 4 true }, { o := .mv (.v 12) }, { o := .st (.v 10) (.l 1) 4 [] }, { o := .mv (.l 1), d := some 11 }] []) .ret) .skip)) (.seq (.reg [{ o := .mv (.v 4) }, { o := .mv (.v 5) }, { o := .bd [.t (.int .i64 (0)), .t (.int .i64 (0)), .t (.int .i64 (0)), .t (.int .i64 (0))] [(0, 1, .i 1), (1, 1, .l 1), (3, 1, .l 0)] }, { o := .st (.v 10) (.l 0) 4 [] }, { o := .mv (.i 0), d := some 11 }] []) .ret))), res := [(10, some (4, true)), (11, none)] }
/-- /firing.Agree -/
def firing_Agree : Fn := { nargs := 6, vars := [0, 1, 2, 3, 4, 5, 6, 7, 8, 9, 12, 13, 14], body := (.seq (.reg [{ o := .bx (.v 0) 3, d := some 6 }, { o := .bx (.v 1) 4, d := some 7 }, { o := .bx (.v 2) 3, d := some 8 }, { o := .bx (.v 3) 1, d := some 9 }, { o := .al [.t (.int .i64 (0)), .t (.int .i64 (0)), .t (.int .i64 (0)), .t (.int .i64 (0))] [], d := some 10 }, { o := .mv (.i 0), d := some 11 }] []) (.seq (.seq (.reg [{ o := .ld (.v 6) 3 true }, { o := .ld (.v 7) 4 true }, { o := .ld (.v 8) 3 true }, { o := .ld (.v 9) 1 true }, { o := .mv (.v 5) }, { o := .bd [.nil, .t (.int .i64 (0)), .t (.int .i64 (0)), .t (.int .i64 (0)), .t (.int .i64 (0)), .t (.int .i64 (0)), .t (.int .i64 (0)), .nil, .nil, .t (.bool false), .nil, .t (.int .i64 (0)), .t (.int .i64 (0))] [(0, 3, .l 4), (3, 4, .l 3), (7, 3, .l 2), (10, 1, .l 1), (11, 1, .l 0), (12, 1, .i 1)] }, { o := .mv (.v 4) }, { o := .bin .leq (.l 0) (.i 0) }, { o := .mv (.l 0) }, { o := .mv (.v 4), g := some (0, false) }, { o := .fa (.v 7) 1, g := some (1, false) }, { o := .ld (.l 0) 1 false, g := some (2, false) }, { o := .bin .eql (.l 2) (.l 0), g := some (3, false) }, { o := .pk (.l 4) (.b true) (.l 0) }, { o := .ca N.firing_request_check 0 [] [.l 8, .l 0] }, { o := .mv (.l 0), d := some 12 }] []) (.ite [{ o := .mv (.v 12) }, { o := .bin .neq (.l 0) (.i 0) }] [] 0 (.seq (.reg [{ o := .ld (.v 7) 4 true }, { o := .mv (.v 12) }, { o := .st (.v 10) (.l 1) 4 [] }, { o := .mv (.l 1), d := some 11 }] []) .ret) .skip)) (.seq (.reg [{ o := .mv (.v 4) }, { o := .mv (.v 5) }, { o := .fa (.v 7) 0 }, { o := .st (.l 0) (.i 2) 1 [] }, { o := .fa (.v 7) 2 }, { o := .st (.l 0) (.l 4) 1 [] }, { o := .fa (.v 7) 3 }, { o := .st (.l 0) (.l 5) 1 [] }] []) (.seq (.reg [{ o := .ld (.v 7) 4 true }, { o := .st (.v 10) (.l 0) 4 [] }, { o := .mv (.i 0), d := some 11 }] []) .ret)))), res := [(10, some (4, true)), (11, none)] }
/-- /firing.Fire -/
def firing_Fire : Fn := { nargs := 6, vars := [0, 1, 2, 3, 4, 5, 6, 7, 8, 9, 12, 13, 14], body := (.seq (.reg [{ o := .bx (.v 0) 3, d := some 6 }, { o := .bx (.v 1) 4, d := some 7 }, { o := .bx (.v 2) 3, d := some 8 }, { o := .bx (.v 3) 1, d := some 9 }, { o := .al [.t (.int .i64 (0)), .t (.int .i64 (0)), .t (.int .i64 (0)), .t (.int .i64 (0))] [], d := some 10 }, { o := .mv (.i 0), d := some 11 }] []) (.seq (.seq (.reg [{ o := .ld (.v 6) 3 true }, { o := .ld (.v 7) 4 true }, { o := .ld (.v 8) 3 true }, { o := .ld (.v 9) 1 true }, { o := .mv (.v 4) }, { o := .bd [.nil, .t (.int .i64 (0)), .t (.int .i64 (0)), .t (.int .i64 (0)), .t (.int .i64 (0)), .t (.int .i64 (0)), .t (.int .i64 (0)), .nil, .nil, .t (.bool false), .nil, .t (.int .i64 (0)), .t (.int .i64 (0))] [(0, 3, .l 4), (3, 4, .l 3), (7, 3, .l 2), (10, 1, .l 1), (11, 1, .l 0), (12, 1, .i 2)] }, { o := .ca N.firing_request_check 0 [] [.l 0, .b false] }, { o := .mv (.l 0), d := some 12 }] []) (.ite [{ o := .mv (.v 12) }, { o := .bin .neq (.l 0) (.i 0) }] [] 0 (.seq (.reg [{ o := .ld (.v 7) 4 true }, { o := .mv (.v 12) }, { o := .st (.v 10) (.l 1) 4 [] }, { o := .mv (.l 1), d := some 11 }] []) .ret) .skip)) (.seq (.reg [{ o := .mv (.v 4) }, { o := .fa (.v 7) 0 }, { o := .st (.l 0) (.i 3) 1 [] }, { o := .fa (.v 7) 3 }, { o := .st (.l 0) (.l 3) 1 [] }] []) (.seq (.ite [{ o := .mv (.v 5) }] [] 0 (.reg [{ o := .fa (.v 7) 0 }, { o := .st (.l 0) (.i 4) 1 [] }] []) .skip) (.seq (.reg [{ o := .ld (.v 7) 4 true }, { o := .st (.v 10) (.l 0) 4 [] }, { o := .mv (.i 0), d := some 11 }] []) .ret))))), res := [(10, some (4, true)), (11, none)] }
/-- /firing.Abort -/
def firing_Abort : Fn := { nargs := 3, vars := [0, 1, 2, 3, 4, 6, 7], body := (.seq (.reg [{ o := .bx (.v 0) 3, d := some 3 }, { o := .bx (.v 1) 4, d := some 4 }, { o := .al [.t (.int .i64 (0)), .t (.int .i64 (0)), .t (.int .i64 (0)), .t (.int .i64 (0))] [], d := some 5 }, { o := .mv (.i 0), d := some 6 }] []) (.seq (.blk 0 (.ite [{ o := .ld (.v 3) 3 true }, { o := .ld (.v 4) 4 true }, { o := .ca N.firing_Valid 0 [] [.l 1, .l 0] }, { o := .un .not (.l 0) }, { o := .mv (.l 0) }] [] 0 (.seq (.reg [{ o := .ld (.v 4) 4 true }, { o := .st (.v 5) (.l 0) 4 [] }, { o := .mv (.i 6), d := some 6 }] []) .ret) (.ite [{ o := .fa (.v 4) 0 }, { o := .ld (.l 0) 1 false }, { o := .bin .eql (.l 0) (.i 0) }, { o := .mv (.l 0) }] [] 0 (.seq (.reg [{ o := .ld (.v 4) 4 true }, { o := .st (.v 5) (.l 0) 4 [] }, { o := .mv (.i 10), d := some 6 }] []) .ret) (.ite [{ o := .ld (.v 4) 4 true }, { o := .mv (.v 2) }, { o := .ca N.firing_timely 0 [] [.l 1, .l 0] }, { o := .un .not (.l 0) }, { o := .mv (.l 0) }] [] 0 (.seq (.reg [{ o := .ld (.v 4) 4 true }, { o := .st (.v 5) (.l 0) 4 [] }, { o := .mv (.i 8), d := some 6 }] []) .ret) (.ite [{ o := .fa (.v 4) 0 }, { o := .ld (.l 0) 1 false }, { o := .bin .eql (.l 0) (.i 4) }, { o := .mv (.l 0) }, { o := .mv (.v 2), g := some (0, true) }, { o := .fa (.v 4) 3, g := some (1, true) }, { o := .ld (.l 0) 1 false, g := some (2, true) }, { o := .bin .sub (.l 2) (.l 0), g := some (3, true) }, { o := .fa (.v 3) 2, g := some (4, true) }, { o := .ld (.l 0) 1 false, g := some (5, true) }, { o := .bin .lss (.l 2) (.l 0), g := some (6, true) }, { o := .pk (.l 7) (.l 0) (.b false) }, { o := .mv (.l 0) }] [] 0 (.seq (.reg [{ o := .ld (.v 4) 4 true }, { o := .st (.v 5) (.l 0) 4 [] }, { o := .mv (.i 10), d := some 6 }] []) .ret) .skip))))) (.seq (.reg [{ o := .bd [.t (.int .i64 (0)), .t (.int .i64 (0)), .t (.int .i64 (0)), .t (.int .i64 (0))] [] }, { o := .st (.v 5) (.l 0) 4 [] }, { o := .mv (.i 0), d := some 6 }] []) .ret))), res := [(5, some (4, true)), (6, none)] }
/-- /firing.Valid -/
def firing_Valid : Fn := { nargs := 2, vars := [0, 1, 2, 3, 4, 34, 50], body := (.seq (.reg [{ o := .bx (.v 0) 3, d := some 2 }, { o := .bx (.v 1) 4, d := some 3 }, { o := .mv (.b false), d := some 4 }] []) (.seq (.ite [{ o := .fa (.v 2) 0 }, { o := .ld (.l 0) 1 false }, { o := .ln (.l 0) }, { o := .bin .eql (.l 0) (.i 0) }, { o := .mv (.l 0) }, { o := .fa (.v 2) 0, g := some (0, false) }, { o := .ld (.l 0) 1 false, g := some (1, false) }, { o := .ca N.lists_Rising 0 [] [.l 0, .i 0, .i 63], g := some (2, false) }, { o := .un .not (.l 0), g := some (3, false) }, { o := .pk (.l 4) (.b true) (.l 0) }, { o := .mv (.l 0) }, { o := .fa (.v 2) 1, g := some (0, false) }, { o := .ld (.l 0) 1 false, g := some (1, false) }, { o := .ca N.lists_In 0 [] [.l 0, .i 1, .i 100000], g := some (2, false) }, { o := .un .not (.l 0), g := some (3, false) }, { o := .pk (.l 4) (.b true) (.l 0) }, { o := .mv (.l 0) }, { o := .fa (.v 2) 2, g := some (0, false) }, { o := .ld (.l 0) 1 false, g := some (1, false) }, { o := .ca N.lists_In 0 [] [.l 0, .i 1, .i 100000], g := some (2, false) }, { o := .un .not (.l 0), g := some (3, false) }, { o := .pk (.l 4) (.b true) (.l 0) }, { o := .mv (.l 0) }, { o := .fa (.v 3) 3, g := some (0, false) }, { o := .ld (.l 0) 1 false, g := some (1, false) }, { o := .ca N.lists_In 0 [] [.l 0, .i 0, .i 2147483648], g := some (2, false) }, { o := .un .not (.l 0), g := some (3, false) }, { o := .pk (.l 4) (.b true) (.l 0) }] [] 0 (.seq (.reg [{ o := .mv (.b false), d := some 4 }] []) .ret) .skip) (.seq (.seq (.reg [{ o := .fa (.v 3) 0 }, { o := .ld (.l 0) 1 false, d := some 5 }] []) (.blk 0 (.ite [{ o := .bin .eql (.v 5) (.i 0) }, { o := .mv (.l 0) }] [] 0 (.seq (.reg [{ o := .ld (.v 3) 4 true }, { o := .bd [.t (.int .i64 (0)), .t (.int .i64 (0)), .t (.int .i64 (0)), .t (.int .i64 (0))] [] }, { o := .eqk (.ints 4) false (.l 1) (.l 0) }, { o := .mv (.l 0), d := some 4 }] []) .ret) (.ite [{ o := .bin .eql (.v 5) (.i 1) }, { o := .mv (.l 0) }] [] 0 (.seq (.reg [{ o := .fa (.v 3) 1 }, { o := .ld (.l 0) 1 false }, { o := .bin .gtr (.l 0) (.i 0) }, { o := .mv (.l 0) }, { o := .fa (.v 3) 2, g := some (0, true) }, { o := .ld (.l 0) 1 false, g := some (1, true) }, { o := .bin .eql (.l 0) (.i 0), g := some (2, true) }, { o := .pk (.l 3) (.l 0) (.b false) }, { o := .mv (.l 0), d := some 4 }] []) .ret) (.seq (.seq (.reg [{ o := .bin .eql (.v 5) (.i 2) }, { o := .mv (.l 0), d := some 6 }] []) (.itv 6 .skip (.seq (.reg [{ o := .bin .eql (.v 5) (.i 3) }, { o := .mv (.l 0), d := some 6 }] []) (.itv 6 .skip (.reg [{ o := .bin .eql (.v 5) (.i 4) }, { o := .mv (.l 0), d := some 6 }] []))))) (.itv 6 (.seq (.reg [{ o := .fa (.v 3) 1 }, { o := .ld (.l 0) 1 false }, { o := .bin .gtr (.l 0) (.i 0) }, { o := .mv (.l 0) }, { o := .fa (.v 3) 2, g := some (0, true) }, { o := .ld (.l 0) 1 false, g := some (1, true) }, { o := .bin .gtr (.l 0) (.i 0), g := some (2, true) }, { o := .pk (.l 3) (.l 0) (.b false) }, { o := .mv (.l 0) }, { o := .fa (.v 3) 1, g := some (0, true) }, { o := .ld (.l 0) 1 false, g := some (1, true) }, { o := .fa (.v 3) 2, g := some (2, true) }, { o := .ld (.l 0) 1 false, g := some (3, true) }, { o := .bin .neq (.l 2) (.l 0), g := some (4, true) }, { o := .pk (.l 5) (.l 0) (.b false) }, { o := .mv (.l 0), d := some 4 }] []) .ret) .skip)))))) (.seq (.reg [{ o := .mv (.b false), d := some 4 }] []) .ret)))), res := [(4, none)] }
/-- /firing.Due -/
def firing_Due : Fn := { nargs := 3, vars := [0, 1, 2, 3, 4, 6, 18, 19], body := (.seq (.reg [{ o := .bx (.v 0) 3, d := some 3 }, { o := .bx (.v 1) 4, d := some 4 }, { o := .mv (.i 0), d := some 5 }] []) (.seq (.ite [{ o := .ld (.v 3) 3 true }, { o := .ld (.v 4) 4 true }, { o := .ca N.firing_Valid 0 [] [.l 1, .l 0] }, { o := .un .not (.l 0) }, { o := .mv (.l 0) }, { o := .mv (.v 2), g := some (0, false) }, { o := .fa (.v 4) 3, g := some (1, false) }, { o := .ld (.l 0) 1 false, g := some (2, false) }, { o := .bin .lss (.l 2) (.l 0), g := some (3, false) }, { o := .pk (.l 4) (.b true) (.l 0) }] [] 0 (.seq (.reg [{ o := .mv (.i 0), d := some 5 }] []) .ret) .skip) (.seq (.seq (.reg [{ o := .fa (.v 4) 0 }, { o := .ld (.l 0) 1 false, d := some 6 }] []) (.blk 0 (.seq (.seq (.reg [{ o := .bin .eql (.v 6) (.i 1) }, { o := .mv (.l 0), d := some 7 }] []) (.itv 7 .skip (.reg [{ o := .bin .eql (.v 6) (.i 2) }, { o := .mv (.l 0), d := some 7 }] []))) (.itv 7 (.seq (.reg [{ o := .fa (.v 3) 1 }, { o := .ld (.l 0) 1 false }, { o := .mv (.v 2) }, { o := .fa (.v 4) 3 }, { o := .ld (.l 0) 1 false }, { o := .bin .sub (.l 2) (.l 0) }, { o := .bin .sub (.l 4) (.l 0) }, { o := .mx [.i 0, .l 0] }, { o := .mv (.l 0), d := some 5 }] []) .ret) (.ite [{ o := .bin .eql (.v 6) (.i 4) }, { o := .mv (.l 0) }] [] 0 (.seq (.reg [{ o := .fa (.v 3) 2 }, { o := .ld (.l 0) 1 false }, { o := .mv (.v 2) }, { o := .fa (.v 4) 3 }, { o := .ld (.l 0) 1 false }, { o := .bin .sub (.l 2) (.l 0) }, { o := .bin .sub (.l 4) (.l 0) }, { o := .mx [.i 0, .l 0] }, { o := .mv (.l 0), d := some 5 }] []) .ret) .skip))))) (.seq (.reg [{ o := .mv (.i 0), d := some 5 }] []) .ret)))), res := [(5, none)] }
def ref32_Border_l1b : C := (.seq (.ite [{ o := .mv (.v 5) }, { o := .fa (.v 2) 1 }, { o := .ld (.l 0) 1 false }, { o := .ln (.l 0) }, { o := .bin .lss (.l 3) (.l 0) }] [] 0 .skip (.exit 0)) (.seq (.blk 1 (.seq (.reg [{ o := .fa (.v 2) 1 }, { o := .ld (.l 0) 1 false }, { o := .mv (.v 5) }, { o := .ia (.l 1) (.l 0) 10 }, { o := .ld (.l 0) 10 true }, { o := .al [.t (.int .i64 (0)), .t (.int .i64 (0)), .t (.int .i64 (0)), .t (.int .i64 (0)), .t (.bool false), .t (.bool false), .t (.int .i64 (0)), .t (.int .i64 (0)), .t (.int .i64 (0)), .t (.int .i64 (0))] [], d := some 6 }, { o := .st (.l 0) (.l 1) 10 [] }] []) (.seq (.reg [{ o := .ld (.v 2) 2 true }, { o := .mv (.v 5) }, { o := .ca N.ref03_Time 0 [] [.l 1, .l 0, .b false] }, { o := .bin .geq (.l 0) (.i 0) }, { o := .mv (.l 0) }, { o := .ld (.v 2) 2 true, g := some (0, false) }, { o := .mv (.v 5), g := some (1, false) }, { o := .ca N.ref03_Time 0 [] [.l 1, .l 0, .b true], g := some (2, false) }, { o := .bin .geq (.l 0) (.i 0), g := some (3, false) }, { o := .pk (.l 4) (.b true) (.l 0) }, { o := .mv (.l 0), d := some 7 }] []) (.ite [{ o := .fa (.v 6) 5 }, { o := .ld (.l 0) 1 false }, { o := .un .not (.l 0) }, { o := .mv (.l 0) }, { o := .mv (.v 7), g := some (0, true) }, { o := .pk (.l 1) (.l 0) (.b false) }, { o := .mv (.l 0) }, { o := .mv (.v 1), g := some (0, true) }, { o := .fa (.v 6) 0, g := some (1, true) }, { o := .ld (.l 0) 1 false, g := some (2, true) }, { o := .ca N.ref23_Has 0 [] [.l 2, .l 0], g := some (3, true) }, { o := .mv (.v 1), g := some (4, true) }, { o := .fa (.v 6) 1, g := some (5, true) }, { o := .ld (.l 0) 1 false, g := some (6, true) }, { o := .ca N.ref23_Has 0 [] [.l 2, .l 0], g := some (7, true) }, { o := .eqk (.bool) true (.l 4) (.l 0), g := some (8, true) }, { o := .pk (.l 9) (.l 0) (.b false) }] [(13, 0)] 0 (.reg [{ o := .mv (.v 4) }, { o := .mv (.v 5) }, { o := .bs [.l 0] 1 }, { o := .app (.l 2) (.l 0) true 1 }, { o := .mv (.l 0), d := some 4 }] []) .skip)))) (.reg [{ o := .mv (.v 5) }, { o := .bin .add (.l 0) (.i 1) }, { o := .mv (.l 0), d := some 5 }] [])))
def ref32_Border_l1 : C := .loop true [0, 3, 6, 7] K.ref32_Border_l1b
/-- /ref32.Border -/
def ref32_Border : Fn := { nargs := 2, vars := [0, 1, 2, 4, 5, 6, 7, 8], body := (.seq (.reg [{ o := .bx (.v 0) 2, d := some 2 }, { o := .mv (.c (.nil)), d := some 3 }] []) (.seq (.reg [{ o := .nw 1, d := some 4 }] []) (.seq (.seq (.reg [{ o := .mv (.i 0), d := some 5 }] []) (.blk 0 K.ref32_Border_l1)) (.seq (.reg [{ o := .mv (.v 4) }, { o := .mv (.l 0), d := some 3 }] []) .ret)))), res := [(3, none)] }
def ref32_Seal_l2b : C := (.seq (.ite [{ o := .mv (.v 12) }, { o := .fa (.v 10) 0 }, { o := .ld (.l 0) 1 false }, { o := .mv (.v 11) }, { o := .ia (.l 1) (.l 0) 2 }, { o := .fa (.l 0) 1 }, { o := .ld (.l 0) 1 false }, { o := .ln (.l 0) }, { o := .bin .lss (.l 7) (.l 0) }] [] 0 .skip (.exit 2)) (.seq (.blk 3 (.seq (.reg [{ o := .fa (.v 10) 0 }, { o := .ld (.l 0) 1 false }, { o := .mv (.v 11) }, { o := .ia (.l 1) (.l 0) 2 }, { o := .fa (.l 0) 1 }, { o := .ld (.l 0) 1 false }, { o := .mv (.v 12) }, { o := .ia (.l 1) (.l 0) 2 }, { o := .ld (.l 0) 2 true }, { o := .al [.t (.int .i64 (0)), .nil] [], d := some 13 }, { o := .st (.l 0) (.l 1) 2 [] }] []) (.seq (.ite [{ o := .mv (.v 3) }, { o := .fa (.v 13) 0 }, { o := .ld (.l 0) 1 false }, { o := .bin .lss (.l 2) (.l 0) }, { o := .mv (.l 0) }, { o := .mv (.v 3), g := some (0, false) }, { o := .bin .gtr (.l 0) (.i 2147483648), g := some (1, false) }, { o := .pk (.l 2) (.b true) (.l 0) }] [] 0 (.seq (.reg [{ o := .ld (.v 5) 1 true }, { o := .st (.v 6) (.l 0) 1 [] }, { o := .mv (.i 8), d := some 7 }] []) .ret) .skip) (.reg [{ o := .fa (.v 10) 0 }, { o := .ld (.l 0) 1 false }, { o := .mv (.v 11) }, { o := .ia (.l 1) (.l 0) 2 }, { o := .fa (.l 0) 1 }, { o := .ld (.l 0) 1 false }, { o := .mv (.v 12) }, { o := .ld (.v 8) 2 true }, { o := .ld (.v 13) 2 true }, { o := .mv (.v 3) }, { o := .ca N.ref32_seal 0 [] [.l 2, .l 1, .l 0] }, { o := .ia (.l 5) (.l 4) 2 }, { o := .st (.l 0) (.l 1) 2 [] }] [(1, 11), (3, 11), (5, 11)])))) (.reg [{ o := .mv (.v 12) }, { o := .bin .add (.l 0) (.i 1) }, { o := .mv (.l 0), d := some 12 }] [])))
def ref32_Seal_l2 : C := .loop false [0, 1, 2, 4, 7, 9, 13] K.ref32_Seal_l2b
def ref32_Seal_l1b : C := (.seq (.ite [{ o := .mv (.v 11) }, { o := .fa (.v 10) 0 }, { o := .ld (.l 0) 1 false }, { o := .ln (.l 0) }, { o := .bin .lss (.l 3) (.l 0) }] [] 0 .skip (.exit 0)) (.seq (.blk 1 (.seq (.reg [{ o := .mv (.i 0), d := some 12 }] []) (.blk 2 K.ref32_Seal_l2))) (.reg [{ o := .mv (.v 11) }, { o := .bin .add (.l 0) (.i 1) }, { o := .mv (.l 0), d := some 11 }] [])))
def ref32_Seal_l1 : C := .loop false [0, 1, 2, 4, 7, 9, 12, 13] K.ref32_Seal_l1b
/-- /ref32.Seal -/
def ref32_Seal : Fn := { nargs := 4, vars := [0, 1, 2, 3, 4, 5, 8, 9, 10, 11, 12, 13, 14, 15], body := (.seq (.reg [{ o := .bx (.v 0) 2, d := some 4 }, { o := .bx (.v 1) 1, d := some 5 }, { o := .al [.nil] [], d := some 6 }, { o := .mv (.i 0), d := some 7 }] []) (.seq (.reg [{ o := .ld (.v 5) 1 true }, { o := .ca N.ref26_Copy_v1 2 [] [.l 0] }, { o := .st (.v 5) (.l 0) 1 [] }] []) (.seq (.ite [{ o := .ld (.v 4) 2 true }, { o := .ld (.v 5) 1 true }, { o := .ca N.ref26_Valid 0 [] [.l 1, .l 0] }, { o := .un .not (.l 0) }] [] 0 (.seq (.reg [{ o := .ld (.v 5) 1 true }, { o := .st (.v 6) (.l 0) 1 [] }, { o := .mv (.i 6), d := some 7 }] []) .ret) .skip) (.seq (.reg [{ o := .ld (.v 4) 2 true }, { o := .mv (.v 2) }, { o := .ca N.ref32_Barred 0 [] [.l 1, .l 0] }, { o := .mv (.l 0) }, { o := .ex (.l 0) 0 }, { o := .ex (.l 1) 1 }, { o := .al [.nil, .nil] [], d := some 8 }, { o := .st (.l 0) (.l 2) 2 [] }, { o := .mv (.l 2), d := some 9 }] []) (.seq (.ite [{ o := .mv (.v 9) }, { o := .bin .neq (.l 0) (.i 0) }] [] 0 (.seq (.reg [{ o := .ld (.v 5) 1 true }, { o := .mv (.v 9) }, { o := .st (.v 6) (.l 1) 1 [] }, { o := .mv (.l 1), d := some 7 }] []) .ret) .skip) (.seq (.reg [{ o := .ld (.v 5) 1 true }, { o := .ca N.ref26_Copy_v1 2 [] [.l 0] }, { o := .al [.nil] [], d := some 10 }, { o := .st (.l 0) (.l 1) 1 [] }] []) (.seq (.seq (.reg [{ o := .mv (.i 0), d := some 11 }] []) (.blk 0 K.ref32_Seal_l1)) (.seq (.reg [{ o := .fa (.v 10) 0 }, { o := .ld (.l 0) 1 false }, { o := .ca N.ref26_Tidy 0 [] [.l 0] }, { o := .fa (.v 10) 0 }, { o := .st (.l 0) (.l 1) 1 [] }] []) (.seq (.reg [{ o := .ld (.v 10) 1 true }, { o := .st (.v 6) (.l 0) 1 [] }, { o := .mv (.i 0), d := some 7 }] []) .ret))))))))), res := [(6, some (1, true)), (7, none)] }
def made_Last_l2b : C := (.seq (.ite [{ o := .mv (.v 5) }, { o := .fa (.v 1) 0 }, { o := .ld (.l 0) 1 false }, { o := .mv (.v 4) }, { o := .ia (.l 1) (.l 0) 2 }, { o := .fa (.l 0) 1 }, { o := .ld (.l 0) 1 false }, { o := .ln (.l 0) }, { o := .bin .lss (.l 7) (.l 0) }] [] 0 .skip (.exit 2)) (.seq (.blk 3 (.reg [{ o := .mv (.v 3) }, { o := .fa (.v 1) 0 }, { o := .ld (.l 0) 1 false }, { o := .mv (.v 4) }, { o := .ia (.l 1) (.l 0) 2 }, { o := .fa (.l 0) 1 }, { o := .ld (.l 0) 1 false }, { o := .mv (.v 5) }, { o := .ia (.l 1) (.l 0) 2 }, { o := .fa (.l 0) 0 }, { o := .ld (.l 0) 1 false }, { o := .mx [.l 10, .l 0] }, { o := .mv (.l 0), d := some 3 }] [])) (.reg [{ o := .mv (.v 5) }, { o := .bin .add (.l 0) (.i 1) }, { o := .mv (.l 0), d := some 5 }] [])))
def made_Last_l2 : C := .loop true [0, 2] K.made_Last_l2b
def made_Last_l1b : C := (.seq (.ite [{ o := .mv (.v 4) }, { o := .fa (.v 1) 0 }, { o := .ld (.l 0) 1 false }, { o := .ln (.l 0) }, { o := .bin .lss (.l 3) (.l 0) }] [] 0 .skip (.exit 0)) (.seq (.blk 1 (.seq (.reg [{ o := .mv (.i 0), d := some 5 }] []) (.blk 2 K.made_Last_l2))) (.reg [{ o := .mv (.v 4) }, { o := .bin .add (.l 0) (.i 1) }, { o := .mv (.l 0), d := some 4 }] [])))
def made_Last_l1 : C := .loop true [0, 2, 5] K.made_Last_l1b
/-- /made.Last -/
def made_Last : Fn := { nargs := 1, vars := [0, 1, 2, 3, 4, 5], body := (.seq (.reg [{ o := .bx (.v 0) 1, d := some 1 }, { o := .mv (.i 0), d := some 2 }] []) (.seq (.reg [{ o := .mv (.i 0), d := some 3 }] []) (.seq (.seq (.reg [{ o := .mv (.i 0), d := some 4 }] []) (.blk 0 K.made_Last_l1)) (.seq (.reg [{ o := .mv (.v 3) }, { o := .mv (.l 0), d := some 2 }] []) .ret)))), res := [(2, none)] }
/-- /ref34.Arm -/
def ref34_Arm : Fn := { nargs := 6, vars := [0, 1, 2, 3, 4, 5, 6, 7, 8, 9, 12, 13, 14], body := (.seq (.reg [{ o := .bx (.v 0) 3, d := some 6 }, { o := .bx (.v 1) 4, d := some 7 }, { o := .bx (.v 2) 3, d := some 8 }, { o := .bx (.v 3) 1, d := some 9 }, { o := .al [.t (.int .i64 (0)), .t (.int .i64 (0)), .t (.int .i64 (0)), .t (.int .i64 (0))] [], d := some 10 }, { o := .mv (.i 0), d := some 11 }] []) (.seq (.seq (.reg [{ o := .ld (.v 6) 3 true }, { o := .ld (.v 7) 4 true }, { o := .ld (.v 8) 3 true }, { o := .ld (.v 9) 1 true }, { o := .mv (.v 4) }, { o := .mv (.v 5) }, { o := .ca N.ref34_step 0 [] [.l 5, .l 4, .l 3, .l 2, .i 0, .l 1, .l 0] }, { o := .mv (.l 0), d := some 12 }] []) (.ite [{ o := .mv (.v 12) }, { o := .bin .neq (.l 0) (.i 0) }] [] 0 (.seq (.reg [{ o := .ld (.v 7) 4 true }, { o := .mv (.v 12) }, { o := .st (.v 10) (.l 1) 4 [] }, { o := .mv (.l 1), d := some 11 }] []) .ret) .skip)) (.seq (.reg [{ o := .mv (.v 4) }, { o := .mv (.v 5) }, { o := .bd [.t (.int .i64 (0)), .t (.int .i64 (0)), .t (.int .i64 (0)), .t (.int .i64 (0))] [(0, 1, .i 1), (1, 1, .l 1), (3, 1, .l 0)] }, { o := .st (.v 10) (.l 0) 4 [] }, { o := .mv (.i 0), d := some 11 }] []) .ret))), res := [(10, some (4, true)), (11, none)] }
/-- /ref34.Agree -/
def ref34_Agree : Fn := { nargs := 6, vars := [0, 1, 2, 3, 4, 5, 6, 7, 8, 9, 12, 13, 14], body := (.seq (.reg [{ o := .bx (.v 0) 3, d := some 6 }, { o := .bx (.v 1) 4, d := some 7 }, { o := .bx (.v 2) 3, d := some 8 }, { o := .bx (.v 3) 1, d := some 9 }, { o := .al [.t (.int .i64 (0)), .t (.int .i64 (0)), .t (.int .i64 (0)), .t (.int .i64 (0))] [], d := some 10 }, { o := .mv (.i 0), d := some 11 }] []) (.seq (.seq (.reg [{ o := .ld (.v 6) 3 true }, { o := .ld (.v 7) 4 true }, { o := .ld (.v 8) 3 true }, { o := .ld (.v 9) 1 true }, { o := .mv (.v 4) }, { o := .mv (.v 5) }, { o := .ca N.ref34_step 0 [] [.l 5, .l 4, .l 3, .l 2, .i 1, .l 1, .l 0] }, { o := .mv (.l 0), d := some 12 }] []) (.ite [{ o := .mv (.v 12) }, { o := .bin .neq (.l 0) (.i 0) }] [] 0 (.seq (.reg [{ o := .ld (.v 7) 4 true }, { o := .mv (.v 12) }, { o := .st (.v 10) (.l 1) 4 [] }, { o := .mv (.l 1), d := some 11 }] []) .ret) .skip)) (.seq (.reg [{ o := .fa (.v 7) 1 }, { o := .ld (.l 0) 1 false }, { o := .mv (.v 4) }, { o := .mv (.v 5) }, { o := .bd [.t (.int .i64 (0)), .t (.int .i64 (0)), .t (.int .i64 (0)), .t (.int .i64 (0))] [(0, 1, .i 2), (1, 1, .l 2), (2, 1, .l 1), (3, 1, .l 0)] }, { o := .st (.v 10) (.l 0) 4 [] }, { o := .mv (.i 0), d := some 11 }] []) .ret))), res := [(10, some (4, true)), (11, none)] }
/-- /ref34.Fire -/
def ref34_Fire : Fn := { nargs := 6, vars := [0, 1, 2, 3, 4, 5, 6, 7, 8, 9, 12, 13, 14], body := (.seq (.reg [{ o := .bx (.v 0) 3, d := some 6 }, { o := .bx (.v 1) 4, d := some 7 }, { o := .bx (.v 2) 3, d := some 8 }, { o := .bx (.v 3) 1, d := some 9 }, { o := .al [.t (.int .i64 (0)), .t (.int .i64 (0)), .t (.int .i64 (0)), .t (.int .i64 (0))] [], d := some 10 }, { o := .mv (.i 0), d := some 11 }] []) (.seq (.seq (.reg [{ o := .ld (.v 6) 3 true }, { o := .ld (.v 7) 4 true }, { o := .ld (.v 8) 3 true }, { o := .ld (.v 9) 1 true }, { o := .mv (.v 4) }, { o := .ca N.ref34_step 0 [] [.l 4, .l 3, .l 2, .l 1, .i 2, .i 1, .l 0] }, { o := .mv (.l 0), d := some 12 }] []) (.ite [{ o := .mv (.v 12) }, { o := .bin .neq (.l 0) (.i 0) }] [] 0 (.seq (.reg [{ o := .ld (.v 7) 4 true }, { o := .mv (.v 12) }, { o := .st (.v 10) (.l 1) 4 [] }, { o := .mv (.l 1), d := some 11 }] []) .ret) .skip)) (.seq (.reg [{ o := .mv (.v 4) }, { o := .fa (.v 7) 0 }, { o := .st (.l 0) (.i 3) 1 [] }, { o := .fa (.v 7) 3 }, { o := .st (.l 0) (.l 3) 1 [] }] []) (.seq (.ite [{ o := .mv (.v 5) }] [] 0 (.reg [{ o := .fa (.v 7) 0 }, { o := .st (.l 0) (.i 4) 1 [] }] []) .skip) (.seq (.reg [{ o := .ld (.v 7) 4 true }, { o := .st (.v 10) (.l 0) 4 [] }, { o := .mv (.i 0), d := some 11 }] []) .ret))))), res := [(10, some (4, true)), (11, none)] }
/-- /ref34.Abort -/
def ref34_Abort : Fn := { nargs := 3, vars := [0, 1, 2, 3, 4, 6, 7], body := (.seq (.reg [{ o := .bx (.v 0) 3, d := some 3 }, { o := .bx (.v 1) 4, d := some 4 }, { o := .al [.t (.int .i64 (0)), .t (.int .i64 (0)), .t (.int .i64 (0)), .t (.int .i64 (0))] [], d := some 5 }, { o := .mv (.i 0), d := some 6 }] []) (.seq (.blk 0 (.ite [{ o := .ld (.v 3) 3 true }, { o := .ld (.v 4) 4 true }, { o := .ca N.ref34_Valid 0 [] [.l 1, .l 0] }, { o := .un .not (.l 0) }, { o := .mv (.l 0) }] [] 0 (.seq (.reg [{ o := .ld (.v 4) 4 true }, { o := .st (.v 5) (.l 0) 4 [] }, { o := .mv (.i 6), d := some 6 }] []) .ret) (.ite [{ o := .fa (.v 4) 0 }, { o := .ld (.l 0) 1 false }, { o := .bin .eql (.l 0) (.i 0) }, { o := .mv (.l 0) }] [] 0 (.seq (.reg [{ o := .ld (.v 4) 4 true }, { o := .st (.v 5) (.l 0) 4 [] }, { o := .mv (.i 10), d := some 6 }] []) .ret) (.ite [{ o := .mv (.v 2) }, { o := .bin .lss (.l 0) (.i 0) }, { o := .mv (.l 0) }, { o := .mv (.v 2), g := some (0, false) }, { o := .bin .gtr (.l 0) (.i 2147483648), g := some (1, false) }, { o := .pk (.l 2) (.b true) (.l 0) }, { o := .mv (.l 0) }, { o := .mv (.v 2), g := some (0, false) }, { o := .fa (.v 4) 3, g := some (1, false) }, { o := .ld (.l 0) 1 false, g := some (2, false) }, { o := .bin .lss (.l 2) (.l 0), g := some (3, false) }, { o := .pk (.l 4) (.b true) (.l 0) }, { o := .mv (.l 0) }] [] 0 (.seq (.reg [{ o := .ld (.v 4) 4 true }, { o := .st (.v 5) (.l 0) 4 [] }, { o := .mv (.i 8), d := some 6 }] []) .ret) (.ite [{ o := .fa (.v 4) 0 }, { o := .ld (.l 0) 1 false }, { o := .bin .eql (.l 0) (.i 4) }, { o := .mv (.l 0) }, { o := .mv (.v 2), g := some (0, true) }, { o := .fa (.v 4) 3, g := some (1, true) }, { o := .ld (.l 0) 1 false, g := some (2, true) }, { o := .bin .sub (.l 2) (.l 0), g := some (3, true) }, { o := .fa (.v 3) 2, g := some (4, true) }, { o := .ld (.l 0) 1 false, g := some (5, true) }, { o := .bin .lss (.l 2) (.l 0), g := some (6, true) }, { o := .pk (.l 7) (.l 0) (.b false) }, { o := .mv (.l 0) }] [] 0 (.seq (.reg [{ o := .ld (.v 4) 4 true }, { o := .st (.v 5) (.l 0) 4 [] }, { o := .mv (.i 10), d := some 6 }] []) .ret) .skip))))) (.seq (.reg [{ o := .bd [.t (.int .i64 (0)), .t (.int .i64 (0)), .t (.int .i64 (0)), .t (.int .i64 (0))] [] }, { o := .st (.v 5) (.l 0) 4 [] }, { o := .mv (.i 0), d := some 6 }] []) .ret))), res := [(5, some (4, true)), (6, none)] }
end Go.Ev.K
namespace Go.Ev
class Has3 [Lib] : Prop where
  t_law34_FiringRaw : Lib.fs N.law34_FiringRaw = some K.law34_FiringRaw
  t_law34_FiringMade : Lib.fs N.law34_FiringMade = some K.law34_FiringMade
  t_law34_FiringNeeds : Lib.fs N.law34_FiringNeeds = some K.law34_FiringNeeds
  t_law34_awake : Lib.fs N.law34_awake = some K.law34_awake
  t_made_Dice_Ints : Lib.fs N.made_Dice_Ints = some K.made_Dice_Ints
  t_law34_scene : Lib.fs N.law34_scene = some K.law34_scene
  t_law34_agree : Lib.fs N.law34_agree = some K.law34_agree
  t_law34_ready : Lib.fs N.law34_ready = some K.law34_ready
  t_firing_Arm : Lib.fs N.firing_Arm = some K.firing_Arm
  t_firing_Agree : Lib.fs N.firing_Agree = some K.firing_Agree
  t_firing_Fire : Lib.fs N.firing_Fire = some K.firing_Fire
  t_firing_Abort : Lib.fs N.firing_Abort = some K.firing_Abort
  t_firing_Valid : Lib.fs N.firing_Valid = some K.firing_Valid
  t_firing_Due : Lib.fs N.firing_Due = some K.firing_Due
  t_ref32_Border : Lib.fs N.ref32_Border = some K.ref32_Border
  t_ref32_Seal : Lib.fs N.ref32_Seal = some K.ref32_Seal
  t_made_Last : Lib.fs N.made_Last = some K.made_Last
  t_ref34_Arm : Lib.fs N.ref34_Arm = some K.ref34_Arm
  t_ref34_Agree : Lib.fs N.ref34_Agree = some K.ref34_Agree
  t_ref34_Fire : Lib.fs N.ref34_Fire = some K.ref34_Fire
  t_ref34_Abort : Lib.fs N.ref34_Abort = some K.ref34_Abort
namespace K
variable [Lib] [Has3]
theorem t_law34_FiringRaw : Lib.fs N.law34_FiringRaw = some K.law34_FiringRaw := Has3.t_law34_FiringRaw
theorem t_law34_FiringMade : Lib.fs N.law34_FiringMade = some K.law34_FiringMade := Has3.t_law34_FiringMade
theorem t_law34_FiringNeeds : Lib.fs N.law34_FiringNeeds = some K.law34_FiringNeeds := Has3.t_law34_FiringNeeds
theorem t_law34_awake : Lib.fs N.law34_awake = some K.law34_awake := Has3.t_law34_awake
theorem t_made_Dice_Ints : Lib.fs N.made_Dice_Ints = some K.made_Dice_Ints := Has3.t_made_Dice_Ints
theorem t_law34_scene : Lib.fs N.law34_scene = some K.law34_scene := Has3.t_law34_scene
theorem t_law34_agree : Lib.fs N.law34_agree = some K.law34_agree := Has3.t_law34_agree
theorem t_law34_ready : Lib.fs N.law34_ready = some K.law34_ready := Has3.t_law34_ready
theorem t_firing_Arm : Lib.fs N.firing_Arm = some K.firing_Arm := Has3.t_firing_Arm
theorem t_firing_Agree : Lib.fs N.firing_Agree = some K.firing_Agree := Has3.t_firing_Agree
theorem t_firing_Fire : Lib.fs N.firing_Fire = some K.firing_Fire := Has3.t_firing_Fire
theorem t_firing_Abort : Lib.fs N.firing_Abort = some K.firing_Abort := Has3.t_firing_Abort
theorem t_firing_Valid : Lib.fs N.firing_Valid = some K.firing_Valid := Has3.t_firing_Valid
theorem t_firing_Due : Lib.fs N.firing_Due = some K.firing_Due := Has3.t_firing_Due
theorem t_ref32_Border : Lib.fs N.ref32_Border = some K.ref32_Border := Has3.t_ref32_Border
theorem t_ref32_Seal : Lib.fs N.ref32_Seal = some K.ref32_Seal := Has3.t_ref32_Seal
theorem t_made_Last : Lib.fs N.made_Last = some K.made_Last := Has3.t_made_Last
theorem t_ref34_Arm : Lib.fs N.ref34_Arm = some K.ref34_Arm := Has3.t_ref34_Arm
theorem t_ref34_Agree : Lib.fs N.ref34_Agree = some K.ref34_Agree := Has3.t_ref34_Agree
theorem t_ref34_Fire : Lib.fs N.ref34_Fire = some K.ref34_Fire := Has3.t_ref34_Fire
theorem t_ref34_Abort : Lib.fs N.ref34_Abort = some K.ref34_Abort := Has3.t_ref34_Abort
end K
end Go.Ev

/- MADE BY PROGRAM (lib.py): the compact code of functions. -/
namespace Go.Ev.K
open Go.Ev
/-- /ref34.Valid -/
def ref34_Valid : Fn := { nargs := 2, vars := [0, 1, 2, 3, 4], body := (.seq (.reg [{ o := .bx (.v 0) 3, d := some 2 }, { o := .bx (.v 1) 4, d := some 3 }, { o := .mv (.b false), d := some 4 }] []) (.seq (.ite [{ o := .ld (.v 2) 3 true }, { o := .ca N.ref34_blast 0 [] [.l 0] }, { o := .un .not (.l 0) }, { o := .mv (.l 0) }, { o := .fa (.v 3) 0, g := some (0, false) }, { o := .ld (.l 0) 1 false, g := some (1, false) }, { o := .bin .lss (.l 0) (.i 0), g := some (2, false) }, { o := .pk (.l 3) (.b true) (.l 0) }, { o := .mv (.l 0) }, { o := .fa (.v 3) 0, g := some (0, false) }, { o := .ld (.l 0) 1 false, g := some (1, false) }, { o := .bin .gtr (.l 0) (.i 4), g := some (2, false) }, { o := .pk (.l 3) (.b true) (.l 0) }, { o := .mv (.l 0) }, { o := .fa (.v 3) 3, g := some (0, false) }, { o := .ld (.l 0) 1 false, g := some (1, false) }, { o := .bin .lss (.l 0) (.i 0), g := some (2, false) }, { o := .pk (.l 3) (.b true) (.l 0) }, { o := .mv (.l 0) }, { o := .fa (.v 3) 3, g := some (0, false) }, { o := .ld (.l 0) 1 false, g := some (1, false) }, { o := .bin .gtr (.l 0) (.i 2147483648), g := some (2, false) }, { o := .pk (.l 3) (.b true) (.l 0) }] [] 0 (.seq (.reg [{ o := .mv (.b false), d := some 4 }] []) .ret) .skip) (.seq (.ite [{ o := .fa (.v 3) 0 }, { o := .ld (.l 0) 1 false }, { o := .bin .eql (.l 0) (.i 0) }] [] 0 (.seq (.reg [{ o := .ld (.v 3) 4 true }, { o := .bd [.t (.int .i64 (0)), .t (.int .i64 (0)), .t (.int .i64 (0)), .t (.int .i64 (0))] [] }, { o := .eqk (.ints 4) false (.l 1) (.l 0) }, { o := .mv (.l 0), d := some 4 }] []) .ret) .skip) (.seq (.ite [{ o := .fa (.v 3) 0 }, { o := .ld (.l 0) 1 false }, { o := .bin .eql (.l 0) (.i 1) }] [] 0 (.seq (.reg [{ o := .fa (.v 3) 1 }, { o := .ld (.l 0) 1 false }, { o := .bin .gtr (.l 0) (.i 0) }, { o := .mv (.l 0) }, { o := .fa (.v 3) 2, g := some (0, true) }, { o := .ld (.l 0) 1 false, g := some (1, true) }, { o := .bin .eql (.l 0) (.i 0), g := some (2, true) }, { o := .pk (.l 3) (.l 0) (.b false) }, { o := .mv (.l 0), d := some 4 }] []) .ret) .skip) (.seq (.reg [{ o := .fa (.v 3) 1 }, { o := .ld (.l 0) 1 false }, { o := .bin .gtr (.l 0) (.i 0) }, { o := .mv (.l 0) }, { o := .fa (.v 3) 2, g := some (0, true) }, { o := .ld (.l 0) 1 false, g := some (1, true) }, { o := .bin .gtr (.l 0) (.i 0), g := some (2, true) }, { o := .pk (.l 3) (.l 0) (.b false) }, { o := .mv (.l 0) }, { o := .fa (.v 3) 1, g := some (0, true) }, { o := .ld (.l 0) 1 false, g := some (1, true) }, { o := .fa (.v 3) 2, g := some (2, true) }, { o := .ld (.l 0) 1 false, g := some (3, true) }, { o := .bin .neq (.l 2) (.l 0), g := some (4, true) }, { o := .pk (.l 5) (.l 0) (.b false) }, { o := .mv (.l 0), d := some 4 }] []) .ret))))), res := [(4, none)] }
/-- /firing.Safe -/
def firing_Safe : Fn := { nargs := 3, vars := [0, 1, 2, 3, 4, 5, 6], body := (.seq (.reg [{ o := .bx (.v 0) 3, d := some 3 }, { o := .bx (.v 1) 3, d := some 4 }, { o := .bx (.v 2) 1, d := some 5 }, { o := .mv (.b false), d := some 6 }] []) (.seq (.reg [{ o := .ld (.v 3) 3 true }, { o := .bd [.t (.int .i64 (0)), .t (.int .i64 (0)), .t (.int .i64 (0)), .t (.int .i64 (0))] [] }, { o := .ca N.firing_Valid 0 [] [.l 1, .l 0] }, { o := .mv (.l 0) }, { o := .ld (.v 4) 3 true, g := some (0, true) }, { o := .ca N.keys_Valid 0 [] [.l 0], g := some (1, true) }, { o := .pk (.l 2) (.l 0) (.b false) }, { o := .mv (.l 0) }, { o := .fa (.v 4) 2, g := some (0, true) }, { o := .ld (.l 0) 1 false, g := some (1, true) }, { o := .pk (.l 2) (.l 0) (.b false) }, { o := .mv (.l 0) }, { o := .fa (.v 5) 0, g := some (0, true) }, { o := .ld (.l 0) 1 false, g := some (1, true) }, { o := .ln (.l 0), g := some (2, true) }, { o := .bin .gtr (.l 0) (.i 0), g := some (3, true) }, { o := .pk (.l 4) (.l 0) (.b false) }, { o := .mv (.l 0) }, { o := .ld (.v 5) 1 true, g := some (0, true) }, { o := .fa (.v 3) 0, g := some (1, true) }, { o := .ld (.l 0) 1 false, g := some (2, true) }, { o := .ca N.area_Clear 0 [] [.l 2, .l 0], g := some (3, true) }, { o := .pk (.l 4) (.l 0) (.b false) }, { o := .mv (.l 0), d := some 6 }] []) .ret)), res := [(6, none)] }
/-- /ref34.Safe -/
def ref34_Safe : Fn := { nargs := 3, vars := [0, 1, 2, 3, 4, 5, 6], body := (.seq (.reg [{ o := .bx (.v 0) 3, d := some 3 }, { o := .bx (.v 1) 3, d := some 4 }, { o := .bx (.v 2) 1, d := some 5 }, { o := .mv (.b false), d := some 6 }] []) (.seq (.reg [{ o := .ld (.v 3) 3 true }, { o := .ca N.ref34_blast 0 [] [.l 0] }, { o := .mv (.l 0) }, { o := .ld (.v 4) 3 true, g := some (0, true) }, { o := .ca N.ref33_Valid 0 [] [.l 0], g := some (1, true) }, { o := .pk (.l 2) (.l 0) (.b false) }, { o := .mv (.l 0) }, { o := .fa (.v 4) 2, g := some (0, true) }, { o := .ld (.l 0) 1 false, g := some (1, true) }, { o := .pk (.l 2) (.l 0) (.b false) }, { o := .mv (.l 0) }, { o := .fa (.v 5) 0, g := some (0, true) }, { o := .ld (.l 0) 1 false, g := some (1, true) }, { o := .ln (.l 0), g := some (2, true) }, { o := .bin .gtr (.l 0) (.i 0), g := some (3, true) }, { o := .pk (.l 4) (.l 0) (.b false) }, { o := .mv (.l 0) }, { o := .ld (.v 5) 1 true, g := some (0, true) }, { o := .fa (.v 3) 0, g := some (1, true) }, { o := .ld (.l 0) 1 false, g := some (2, true) }, { o := .ca N.ref32_Clear 0 [] [.l 2, .l 0], g := some (3, true) }, { o := .pk (.l 4) (.l 0) (.b false) }, { o := .mv (.l 0), d := some 6 }] []) .ret)), res := [(6, none)] }
/-- /ref34.Due -/
def ref34_Due : Fn := { nargs := 3, vars := [0, 1, 2, 3, 4, 6, 18, 19], body := (.seq (.reg [{ o := .bx (.v 0) 3, d := some 3 }, { o := .bx (.v 1) 4, d := some 4 }, { o := .mv (.i 0), d := some 5 }] []) (.seq (.ite [{ o := .ld (.v 3) 3 true }, { o := .ld (.v 4) 4 true }, { o := .ca N.ref34_Valid 0 [] [.l 1, .l 0] }, { o := .un .not (.l 0) }, { o := .mv (.l 0) }, { o := .mv (.v 2), g := some (0, false) }, { o := .fa (.v 4) 3, g := some (1, false) }, { o := .ld (.l 0) 1 false, g := some (2, false) }, { o := .bin .lss (.l 2) (.l 0), g := some (3, false) }, { o := .pk (.l 4) (.b true) (.l 0) }] [] 0 (.seq (.reg [{ o := .mv (.i 0), d := some 5 }] []) .ret) .skip) (.seq (.seq (.reg [{ o := .fa (.v 4) 0 }, { o := .ld (.l 0) 1 false, d := some 6 }] []) (.blk 0 (.seq (.seq (.reg [{ o := .bin .eql (.v 6) (.i 1) }, { o := .mv (.l 0), d := some 7 }] []) (.itv 7 .skip (.reg [{ o := .bin .eql (.v 6) (.i 2) }, { o := .mv (.l 0), d := some 7 }] []))) (.itv 7 (.seq (.reg [{ o := .fa (.v 3) 1 }, { o := .ld (.l 0) 1 false }, { o := .mv (.v 2) }, { o := .fa (.v 4) 3 }, { o := .ld (.l 0) 1 false }, { o := .bin .sub (.l 2) (.l 0) }, { o := .bin .sub (.l 4) (.l 0) }, { o := .mx [.i 0, .l 0] }, { o := .mv (.l 0), d := some 5 }] []) .ret) (.ite [{ o := .bin .eql (.v 6) (.i 4) }, { o := .mv (.l 0) }] [] 0 (.seq (.reg [{ o := .fa (.v 3) 2 }, { o := .ld (.l 0) 1 false }, { o := .mv (.v 2) }, { o := .fa (.v 4) 3 }, { o := .ld (.l 0) 1 false }, { o := .bin .sub (.l 2) (.l 0) }, { o := .bin .sub (.l 4) (.l 0) }, { o := .mx [.i 0, .l 0] }, { o := .mv (.l 0), d := some 5 }] []) .ret) .skip))))) (.seq (.reg [{ o := .mv (.i 0), d := some 5 }] []) .ret)))), res := [(5, none)] }
/-- (/firing.request).check -/
def firing_request_check : Fn := { nargs := 2, vars := [0, 1, 2, 4], body := (.seq (.reg [{ o := .bx (.v 0) 13, d := some 2 }, { o := .mv (.i 0), d := some 3 }] []) (.seq (.blk 0 (.ite [{ o := .fa (.v 2) 0 }, { o := .ld (.l 0) 3 true }, { o := .fa (.v 2) 3 }, { o := .ld (.l 0) 4 true }, { o := .ca N.firing_Valid 0 [] [.l 2, .l 0] }, { o := .un .not (.l 0) }, { o := .mv (.l 0) }] [] 0 (.seq (.reg [{ o := .mv (.i 6), d := some 3 }] []) .ret) (.ite [{ o := .fa (.v 2) 3 }, { o := .fa (.l 0) 0 }, { o := .ld (.l 0) 1 false }, { o := .fa (.v 2) 12 }, { o := .ld (.l 0) 1 false }, { o := .bin .neq (.l 2) (.l 0) }, { o := .mv (.l 0) }] [] 0 (.seq (.reg [{ o := .mv (.i 10), d := some 3 }] []) .ret) (.ite [{ o := .fa (.v 2) 11 }, { o := .ld (.l 0) 1 false }, { o := .bin .lss (.l 0) (.i 0) }, { o := .mv (.l 0) }, { o := .fa (.v 2) 3, g := some (0, false) }, { o := .ld (.l 0) 4 true, g := some (1, false) }, { o := .fa (.v 2) 11, g := some (2, false) }, { o := .ld (.l 0) 1 false, g := some (3, false) }, { o := .ca N.firing_timely 0 [] [.l 2, .l 0], g := some (4, false) }, { o := .un .not (.l 0), g := some (5, false) }, { o := .pk (.l 6) (.b true) (.l 0) }, { o := .mv (.l 0) }] [] 0 (.seq (.reg [{ o := .mv (.i 8), d := some 3 }] []) .ret) (.ite [{ o := .mv (.v 1) }, { o := .mv (.l 0) }] [] 0 (.seq (.reg [{ o := .mv (.i 19), d := some 3 }] []) .ret) (.ite [{ o := .fa (.v 2) 12 }, { o := .ld (.l 0) 1 false }, { o := .bin .neq (.l 0) (.i 0) }, { o := .mv (.l 0) }, { o := .fa (.v 2) 11, g := some (0, true) }, { o := .ld (.l 0) 1 false, g := some (1, true) }, { o := .fa (.v 2) 3, g := some (2, true) }, { o := .fa (.l 0) 3, g := some (3, true) }, { o := .ld (.l 0) 1 false, g := some (4, true) }, { o := .bin .sub (.l 3) (.l 0), g := some (5, true) }, { o := .fa (.v 2) 0, g := some (6, true) }, { o := .fa (.l 0) 1, g := some (7, true) }, { o := .ld (.l 0) 1 false, g := some (8, true) }, { o := .bin .gtr (.l 3) (.l 0), g := some (9, true) }, { o := .pk (.l 10) (.l 0) (.b false) }, { o := .mv (.l 0) }] [] 0 (.seq (.reg [{ o := .mv (.i 10), d := some 3 }] []) .ret) (.ite [{ o := .fa (.v 2) 7 }, { o := .ld (.l 0) 3 true }, { o := .ca N.keys_Valid 0 [] [.l 0] }, { o := .un .not (.l 0) }, { o := .mv (.l 0) }, { o := .fa (.v 2) 7, g := some (0, false) }, { o := .fa (.l 0) 2, g := some (1, false) }, { o := .ld (.l 0) 1 false, g := some (2, false) }, { o := .un .not (.l 0), g := some (3, false) }, { o := .pk (.l 4) (.b true) (.l 0) }, { o := .mv (.l 0) }] [] 0 (.seq (.reg [{ o := .mv (.i 48), d := some 3 }] []) .ret) (.ite [{ o := .fa (.v 2) 0 }, { o := .ld (.l 0) 3 true }, { o := .fa (.v 2) 7 }, { o := .ld (.l 0) 3 true }, { o := .fa (.v 2) 10 }, { o := .ld (.l 0) 1 true }, { o := .ca N.firing_Safe 0 [] [.l 4, .l 2, .l 0] }, { o := .un .not (.l 0) }, { o := .mv (.l 0) }] [] 0 (.seq (.reg [{ o := .mv (.i 49), d := some 3 }] []) .ret) .skip)))))))) (.seq (.reg [{ o := .mv (.i 0), d := some 3 }] []) .ret))), res := [(3, none)] }
/-- /firing.timely -/
def firing_timely : Fn := { nargs := 2, vars := [0, 1, 2, 4], body := (.seq (.reg [{ o := .bx (.v 0) 4, d := some 2 }, { o := .mv (.b false), d := some 3 }] []) (.seq (.reg [{ o := .mv (.v 1) }, { o := .fa (.v 2) 3 }, { o := .ld (.l 0) 1 false }, { o := .bin .geq (.l 2) (.l 0) }, { o := .mv (.l 0) }, { o := .mv (.v 1), g := some (0, true) }, { o := .bin .leq (.l 0) (.i 2147483648), g := some (1, true) }, { o := .pk (.l 2) (.l 0) (.b false) }, { o := .mv (.l 0), d := some 3 }] []) .ret)), res := [(3, none)] }
def lists_Rising_l1b : C := (.its  [{ o := .bin .lss (.v 8) (.v 7) }] [] 0 .skip (.exit 0) (.seq (.blk 1 (.seq (.reg [{ o := .mv (.v 8) }, { o := .ia (.v 6) (.v 8) 1 }, { o := .ld (.l 0) 1 false }, { o := .mv (.l 2), d := some 4 }, { o := .mv (.l 1), d := some 5 }] []) (.ite [{ o := .mv (.v 5) }, { o := .mv (.v 1) }, { o := .bin .lss (.l 1) (.l 0) }, { o := .mv (.l 0) }, { o := .mv (.v 5), g := some (0, false) }, { o := .mv (.v 2), g := some (1, false) }, { o := .bin .gtr (.l 1) (.l 0), g := some (2, false) }, { o := .pk (.l 3) (.b true) (.l 0) }, { o := .mv (.l 0) }, { o := .mv (.v 4), g := some (0, false) }, { o := .bin .gtr (.l 0) (.i 0), g := some (1, false) }, { o := .mv (.l 0), g := some (2, false) }, { o := .mv (.v 5), g := some (0, true) }, { o := .mv (.v 0), g := some (1, true) }, { o := .mv (.v 4), g := some (2, true) }, { o := .bin .sub (.l 0) (.i 1), g := some (3, true) }, { o := .ia (.l 2) (.l 0) 1, g := some (4, true) }, { o := .ld (.l 0) 1 false, g := some (5, true) }, { o := .bin .leq (.l 5) (.l 0), g := some (6, true) }, { o := .pk (.l 7) (.l 0) (.b false), g := some (10, false) }, { o := .pk (.l 11) (.b true) (.l 0) }] [] 0 (.seq (.reg [{ o := .mv (.b false), d := some 3 }] []) .ret) .skip))) (.reg [{ o := .bin .add (.v 8) (.i 1) }, { o := .mv (.l 0), d := some 8 }] [])))
def lists_Rising_l1 : C := .loop true [3, 4, 5] K.lists_Rising_l1b
/-- /lists.Rising -/
def lists_Rising : Fn := { nargs := 3, vars := [0, 1, 2, 6, 7, 8, 9, 10, 11], body := (.seq (.reg [{ o := .mv (.b false), d := some 3 }] []) (.seq (.seq (.reg [{ o := .mv (.v 0), d := some 6 }, { o := .ln (.l 0), d := some 7 }, { o := .mv (.i 0), d := some 8 }] []) (.blk 0 K.lists_Rising_l1)) (.seq (.reg [{ o := .mv (.b true), d := some 3 }] []) .ret))), res := [(3, none)] }
def ref32_Barred_l1b : C := (.seq (.ite [{ o := .mv (.v 5) }, { o := .mv (.v 1) }, { o := .ln (.l 0) }, { o := .bin .lss (.l 2) (.l 0) }] [] 0 .skip (.exit 0)) (.seq (.blk 1 (.reg [{ o := .fa (.v 2) 1 }, { o := .ld (.l 0) 1 false }, { o := .mv (.v 1) }, { o := .mv (.v 5) }, { o := .ia (.l 1) (.l 0) 1 }, { o := .ld (.l 0) 1 false }, { o := .ia (.l 4) (.l 0) 10 }, { o := .fa (.l 0) 4 }, { o := .st (.l 0) (.b false) 1 [] }] [])) (.reg [{ o := .mv (.v 5) }, { o := .bin .add (.l 0) (.i 1) }, { o := .mv (.l 0), d := some 5 }] [])))
def ref32_Barred_l1 : C := .loop true [0, 4] K.ref32_Barred_l1b
/-- /ref32.Barred -/
def ref32_Barred : Fn := { nargs := 2, vars := [0, 1, 2, 4, 5, 6], body := (.seq (.reg [{ o := .bx (.v 0) 2, d := some 2 }, { o := .al [.nil, .nil] [], d := some 3 }, { o := .mv (.i 0), d := some 4 }] []) (.seq (.ite [{ o := .ld (.v 2) 2 true }, { o := .ca N.ref01_Check 0 [] [.l 0] }, { o := .bin .neq (.l 0) (.i 0) }] [] 0 (.seq (.reg [{ o := .bd [.nil, .nil] [] }, { o := .st (.v 3) (.l 0) 2 [] }, { o := .mv (.i 6), d := some 4 }] []) .ret) .skip) (.seq (.ite [{ o := .mv (.v 1) }, { o := .fa (.v 2) 1 }, { o := .ld (.l 0) 1 false }, { o := .ln (.l 0) }, { o := .ca N.ref23_Set 0 [] [.l 3, .l 0] }, { o := .un .not (.l 0) }] [] 0 (.seq (.reg [{ o := .bd [.nil, .nil] [] }, { o := .st (.v 3) (.l 0) 2 [] }, { o := .mv (.i 4), d := some 4 }] []) .ret) .skip) (.seq (.reg [{ o := .ld (.v 2) 2 true }, { o := .ca N.ref31_Copy 1 [] [.l 0] }, { o := .st (.v 2) (.l 0) 2 [] }] []) (.seq (.seq (.reg [{ o := .mv (.i 0), d := some 5 }] []) (.blk 0 K.ref32_Barred_l1)) (.seq (.reg [{ o := .ld (.v 2) 2 true }, { o := .st (.v 3) (.l 0) 2 [] }, { o := .mv (.i 0), d := some 4 }] []) .ret)))))), res := [(3, some (2, true)), (4, none)] }
def ref32_seal_l1b : C := (.seq (.ite [{ o := .mv (.v 7) }, { o := .mv (.v 6) }, { o := .ln (.l 0) }, { o := .bin .lss (.l 2) (.l 0) }] [] 0 .skip (.exit 0)) (.seq (.blk 1 (.ite [{ o := .mv (.v 6) }, { o := .mv (.v 7) }, { o := .ia (.l 1) (.l 0) 1 }, { o := .ld (.l 0) 1 false }, { o := .mv (.v 2) }, { o := .bin .gtr (.l 1) (.l 0) }] [] 0 (.reg [{ o := .mv (.v 6) }, { o := .mv (.v 7) }, { o := .ia (.l 1) (.l 0) 1 }, { o := .st (.l 0) (.i 1099511627776) 1 [] }] []) .skip)) (.reg [{ o := .mv (.v 7) }, { o := .bin .add (.l 0) (.i 1) }, { o := .mv (.l 0), d := some 7 }] [])))
def ref32_seal_l1 : C := .loop true [0, 1, 4] K.ref32_seal_l1b
/-- /ref32.seal -/
def ref32_seal : Fn := { nargs := 3, vars := [0, 1, 2, 3, 4, 6, 7, 8], body := (.seq (.reg [{ o := .bx (.v 0) 2, d := some 3 }, { o := .bx (.v 1) 2, d := some 4 }, { o := .al [.t (.int .i64 (0)), .nil] [], d := some 5 }] []) (.seq (.reg [{ o := .fa (.v 4) 1 }, { o := .ld (.l 0) 1 false }, { o := .app (.c (.nil)) (.l 0) true 1 }, { o := .mv (.l 0), d := some 6 }] []) (.seq (.seq (.reg [{ o := .mv (.i 0), d := some 7 }] []) (.blk 0 K.ref32_seal_l1)) (.seq (.reg [{ o := .mv (.v 2) }, { o := .ld (.v 3) 2 true }, { o := .mv (.v 6) }, { o := .mv (.v 2) }, { o := .ca N.ref25_Close 0 [] [.l 2, .l 1, .l 0] }, { o := .bd [.t (.int .i64 (0)), .nil] [(0, 1, .l 4), (1, 1, .l 0)] }, { o := .st (.v 5) (.l 0) 2 [] }] []) .ret)))), res := [(5, some (2, true))] }
/-- /ref34.step -/
def ref34_step : Fn := { nargs := 7, vars := [0, 1, 2, 3, 4, 5, 6, 7, 8, 9, 10, 14], body := (.seq (.reg [{ o := .bx (.v 0) 3, d := some 7 }, { o := .bx (.v 1) 4, d := some 8 }, { o := .bx (.v 2) 3, d := some 9 }, { o := .bx (.v 3) 1, d := some 10 }, { o := .mv (.i 0), d := some 11 }] []) (.seq (.blk 0 (.ite [{ o := .ld (.v 7) 3 true }, { o := .ld (.v 8) 4 true }, { o := .ca N.ref34_Valid 0 [] [.l 1, .l 0] }, { o := .un .not (.l 0) }, { o := .mv (.l 0) }] [] 0 (.seq (.reg [{ o := .mv (.i 6), d := some 11 }] []) .ret) (.ite [{ o := .fa (.v 8) 0 }, { o := .ld (.l 0) 1 false }, { o := .mv (.v 4) }, { o := .bin .neq (.l 1) (.l 0) }, { o := .mv (.l 0) }] [] 0 (.seq (.reg [{ o := .mv (.i 10), d := some 11 }] []) .ret) (.ite [{ o := .mv (.v 6) }, { o := .bin .lss (.l 0) (.i 0) }, { o := .mv (.l 0) }, { o := .mv (.v 6), g := some (0, false) }, { o := .bin .gtr (.l 0) (.i 2147483648), g := some (1, false) }, { o := .pk (.l 2) (.b true) (.l 0) }, { o := .mv (.l 0) }, { o := .mv (.v 6), g := some (0, false) }, { o := .fa (.v 8) 3, g := some (1, false) }, { o := .ld (.l 0) 1 false, g := some (2, false) }, { o := .bin .lss (.l 2) (.l 0), g := some (3, false) }, { o := .pk (.l 4) (.b true) (.l 0) }, { o := .mv (.l 0) }] [] 0 (.seq (.reg [{ o := .mv (.i 8), d := some 11 }] []) .ret) (.ite [{ o := .mv (.v 5) }, { o := .bin .leq (.l 0) (.i 0) }, { o := .mv (.l 0) }, { o := .mv (.v 4), g := some (0, false) }, { o := .bin .eql (.l 0) (.i 1), g := some (1, false) }, { o := .mv (.l 0), g := some (2, false) }, { o := .mv (.v 5), g := some (0, true) }, { o := .fa (.v 8) 1, g := some (1, true) }, { o := .ld (.l 0) 1 false, g := some (2, true) }, { o := .bin .eql (.l 2) (.l 0), g := some (3, true) }, { o := .pk (.l 4) (.l 0) (.b false), g := some (7, false) }, { o := .pk (.l 8) (.b true) (.l 0) }, { o := .mv (.l 0) }] [] 0 (.seq (.reg [{ o := .mv (.i 19), d := some 11 }] []) .ret) (.ite [{ o := .mv (.v 4) }, { o := .bin .neq (.l 0) (.i 0) }, { o := .mv (.l 0) }, { o := .mv (.v 6), g := some (0, true) }, { o := .fa (.v 8) 3, g := some (1, true) }, { o := .ld (.l 0) 1 false, g := some (2, true) }, { o := .bin .sub (.l 2) (.l 0), g := some (3, true) }, { o := .fa (.v 7) 1, g := some (4, true) }, { o := .ld (.l 0) 1 false, g := some (5, true) }, { o := .bin .gtr (.l 2) (.l 0), g := some (6, true) }, { o := .pk (.l 7) (.l 0) (.b false) }, { o := .mv (.l 0) }] [] 0 (.seq (.reg [{ o := .mv (.i 10), d := some 11 }] []) .ret) (.ite [{ o := .ld (.v 9) 3 true }, { o := .ca N.ref33_Valid 0 [] [.l 0] }, { o := .un .not (.l 0) }, { o := .mv (.l 0) }, { o := .fa (.v 9) 2, g := some (0, false) }, { o := .ld (.l 0) 1 false, g := some (1, false) }, { o := .un .not (.l 0), g := some (2, false) }, { o := .pk (.l 3) (.b true) (.l 0) }, { o := .mv (.l 0) }] [] 0 (.seq (.reg [{ o := .mv (.i 48), d := some 11 }] []) .ret) (.ite [{ o := .ld (.v 7) 3 true }, { o := .ld (.v 9) 3 true }, { o := .ld (.v 10) 1 true }, { o := .ca N.ref34_Safe 0 [] [.l 2, .l 1, .l 0] }, { o := .un .not (.l 0) }, { o := .mv (.l 0) }] [] 0 (.seq (.reg [{ o := .mv (.i 49), d := some 11 }] []) .ret) .skip)))))))) (.seq (.reg [{ o := .mv (.i 0), d := some 11 }] []) .ret))), res := [(11, none)] }
/-- /ref34.blast -/
def ref34_blast : Fn := { nargs := 1, vars := [0, 1, 2], body := (.seq (.reg [{ o := .bx (.v 0) 3, d := some 1 }, { o := .mv (.b false), d := some 2 }] []) (.seq (.reg [{ o := .fa (.v 1) 0 }, { o := .ld (.l 0) 1 false }, { o := .ln (.l 0) }, { o := .bin .gtr (.l 0) (.i 0) }, { o := .mv (.l 0) }, { o := .fa (.v 1) 0, g := some (0, true) }, { o := .ld (.l 0) 1 false, g := some (1, true) }, { o := .ca N.ref23_Set 0 [] [.l 0, .i 64], g := some (2, true) }, { o := .pk (.l 3) (.l 0) (.b false) }, { o := .mv (.l 0) }, { o := .fa (.v 1) 1, g := some (0, true) }, { o := .ld (.l 0) 1 false, g := some (1, true) }, { o := .bin .geq (.l 0) (.i 1), g := some (2, true) }, { o := .pk (.l 3) (.l 0) (.b false) }, { o := .mv (.l 0) }, { o := .fa (.v 1) 1, g := some (0, true) }, { o := .ld (.l 0) 1 false, g := some (1, true) }, { o := .bin .leq (.l 0) (.i 100000), g := some (2, true) }, { o := .pk (.l 3) (.l 0) (.b false) }, { o := .mv (.l 0) }, { o := .fa (.v 1) 2, g := some (0, true) }, { o := .ld (.l 0) 1 false, g := some (1, true) }, { o := .bin .geq (.l 0) (.i 1), g := some (2, true) }, { o := .pk (.l 3) (.l 0) (.b false) }, { o := .mv (.l 0) }, { o := .fa (.v 1) 2, g := some (0, true) }, { o := .ld (.l 0) 1 false, g := some (1, true) }, { o := .bin .leq (.l 0) (.i 100000), g := some (2, true) }, { o := .pk (.l 3) (.l 0) (.b false) }, { o := .mv (.l 0), d := some 2 }] []) .ret)), res := [(2, none)] }
/-- /keys.Valid -/
def keys_Valid : Fn := { nargs := 1, vars := [0, 1, 2, 3], body := (.seq (.reg [{ o := .bx (.v 0) 3, d := some 1 }, { o := .mv (.b false), d := some 2 }] []) (.seq (.reg [{ o := .mv (.c (.fn N.keys_Valid_1 [])), d := some 3 }] []) (.seq (.reg [{ o := .fa (.v 1) 0 }, { o := .ld (.l 0) 1 false }, { o := .ca N.keys_roads 0 [] [.l 0] }, { o := .mv (.l 0) }, { o := .fa (.v 1) 1, g := some (0, true) }, { o := .ld (.l 0) 1 false, g := some (1, true) }, { o := .ln (.l 0), g := some (2, true) }, { o := .fa (.v 1) 0, g := some (3, true) }, { o := .ld (.l 0) 1 false, g := some (4, true) }, { o := .ln (.l 0), g := some (5, true) }, { o := .bin .eql (.l 3) (.l 0), g := some (6, true) }, { o := .pk (.l 7) (.l 0) (.b false) }, { o := .mv (.l 0) }, { o := .fa (.v 1) 1, g := some (0, true) }, { o := .ld (.l 0) 1 false, g := some (1, true) }, { o := .mv (.v 3), g := some (2, true) }, { o := .ca N.slices_ContainsFunc_int_int 0 [] [.l 1, .l 0], g := some (3, true) }, { o := .un .not (.l 0), g := some (4, true) }, { o := .pk (.l 5) (.l 0) (.b false) }, { o := .mv (.l 0) }, { o := .fa (.v 1) 2, g := some (0, true) }, { o := .ld (.l 0) 1 false, g := some (1, true) }, { o := .un .not (.l 0), g := some (2, true) }, { o := .mv (.l 0), g := some (3, true) }, { o := .ld (.v 1) 3 true, g := some (0, false) }, { o := .ca N.keys_boxed 0 [] [.l 0], g := some (1, false) }, { o := .pk (.l 2) (.b true) (.l 0), g := some (6, true) }, { o := .pk (.l 7) (.l 0) (.b false) }, { o := .mv (.l 0), d := some 2 }] []) .ret))), res := [(2, none)] }
def area_Clear_l2b : C := (.its  [{ o := .bin .lss (.v 11) (.v 10) }] [] 0 .skip (.exit 2) (.seq (.blk 3 (.seq (.reg [{ o := .ia (.v 9) (.v 11) 2 }, { o := .ld (.l 0) 2 true }, { o := .al [.t (.int .i64 (0)), .nil] [], d := some 5 }, { o := .st (.l 0) (.l 1) 2 [] }] []) (.ite [{ o := .mv (.v 1) }, { o := .mf N.area_Clear_1 [.v 5] }, { o := .ca N.slices_ContainsFunc_int_int 0 [] [.l 1, .l 0] }] [] 0 (.seq (.reg [{ o := .mv (.b false), d := some 3 }] []) .ret) .skip))) (.reg [{ o := .bin .add (.v 11) (.i 1) }, { o := .mv (.l 0), d := some 11 }] [])))
def area_Clear_l2 : C := .loop true [0, 2, 3, 4, 5] K.area_Clear_l2b
def area_Clear_l1b : C := (.its  [{ o := .bin .lss (.v 8) (.v 7) }] [] 0 .skip (.exit 0) (.seq (.blk 1 (.seq (.reg [{ o := .ia (.v 6) (.v 8) 2 }, { o := .ld (.l 0) 2 true }, { o := .al [.nil, .nil] [], d := some 4 }, { o := .st (.l 0) (.l 1) 2 [] }] []) (.seq (.reg [{ o := .fa (.v 4) 1 }, { o := .ld (.l 0) 1 false, d := some 9 }, { o := .ln (.l 0), d := some 10 }, { o := .mv (.i 0), d := some 11 }] []) (.blk 2 K.area_Clear_l2)))) (.reg [{ o := .bin .add (.v 8) (.i 1) }, { o := .mv (.l 0), d := some 8 }] [])))
def area_Clear_l1 : C := .loop true [0, 2, 3, 4, 5, 9, 10, 11] K.area_Clear_l1b
/-- /area.Clear -/
def area_Clear : Fn := { nargs := 2, vars := [0, 1, 2, 4, 6, 8, 10, 11, 12, 17, 18, 19], body := (.seq (.reg [{ o := .bx (.v 0) 1, d := some 2 }, { o := .mv (.b false), d := some 3 }] []) (.seq (.seq (.reg [{ o := .fa (.v 2) 0 }, { o := .ld (.l 0) 1 false, d := some 6 }, { o := .ln (.l 0), d := some 7 }, { o := .mv (.i 0), d := some 8 }] []) (.blk 0 K.area_Clear_l1)) (.seq (.reg [{ o := .mv (.b true), d := some 3 }] []) .ret))), res := [(3, none)] }
def ref33_Valid_l1b : C := (.seq (.ite [{ o := .mv (.v 3) }, { o := .fa (.v 1) 1 }, { o := .ld (.l 0) 1 false }, { o := .ln (.l 0) }, { o := .bin .lss (.l 3) (.l 0) }] [] 0 .skip (.exit 0)) (.seq (.blk 1 (.ite [{ o := .fa (.v 1) 1 }, { o := .ld (.l 0) 1 false }, { o := .mv (.v 3) }, { o := .ia (.l 1) (.l 0) 1 }, { o := .ld (.l 0) 1 false }, { o := .bin .lss (.l 0) (.i 0) }, { o := .mv (.l 0) }, { o := .fa (.v 1) 1, g := some (0, false) }, { o := .ld (.l 0) 1 false, g := some (1, false) }, { o := .mv (.v 3), g := some (2, false) }, { o := .ia (.l 1) (.l 0) 1, g := some (3, false) }, { o := .ld (.l 0) 1 false, g := some (4, false) }, { o := .bin .gtr (.l 0) (.i 2), g := some (5, false) }, { o := .pk (.l 6) (.b true) (.l 0) }, { o := .mv (.l 0) }, { o := .fa (.v 1) 2, g := some (0, false) }, { o := .ld (.l 0) 1 false, g := some (1, false) }, { o := .mv (.l 0), g := some (2, false) }, { o := .fa (.v 1) 1, g := some (0, true) }, { o := .ld (.l 0) 1 false, g := some (1, true) }, { o := .mv (.v 3), g := some (2, true) }, { o := .ia (.l 1) (.l 0) 1, g := some (3, true) }, { o := .ld (.l 0) 1 false, g := some (4, true) }, { o := .bin .neq (.l 0) (.i 2), g := some (5, true) }, { o := .pk (.l 6) (.l 0) (.b false), g := some (9, false) }, { o := .pk (.l 10) (.b true) (.l 0) }] [] 0 (.seq (.reg [{ o := .mv (.b false), d := some 2 }] []) .ret) .skip)) (.reg [{ o := .mv (.v 3) }, { o := .bin .add (.l 0) (.i 1) }, { o := .mv (.l 0), d := some 3 }] [])))
def ref33_Valid_l1 : C := .loop true [0, 2] K.ref33_Valid_l1b
/-- /ref33.Valid -/
def ref33_Valid : Fn := { nargs := 1, vars := [0, 1, 2, 3], body := (.seq (.reg [{ o := .bx (.v 0) 3, d := some 1 }, { o := .mv (.b false), d := some 2 }] []) (.seq (.ite [{ o := .fa (.v 1) 0 }, { o := .ld (.l 0) 1 false }, { o := .ln (.l 0) }, { o := .bin .lss (.l 0) (.i 1) }, { o := .mv (.l 0) }, { o := .fa (.v 1) 0, g := some (0, false) }, { o := .ld (.l 0) 1 false, g := some (1, false) }, { o := .ln (.l 0), g := some (2, false) }, { o := .bin .gtr (.l 0) (.i 12), g := some (3, false) }, { o := .pk (.l 4) (.b true) (.l 0) }, { o := .mv (.l 0) }, { o := .fa (.v 1) 0, g := some (0, false) }, { o := .ld (.l 0) 1 false, g := some (1, false) }, { o := .ca N.ref23_Set 0 [] [.l 0, .i 128], g := some (2, false) }, { o := .un .not (.l 0), g := some (3, false) }, { o := .pk (.l 4) (.b true) (.l 0) }, { o := .mv (.l 0) }, { o := .fa (.v 1) 1, g := some (0, false) }, { o := .ld (.l 0) 1 false, g := some (1, false) }, { o := .ln (.l 0), g := some (2, false) }, { o := .fa (.v 1) 0, g := some (3, false) }, { o := .ld (.l 0) 1 false, g := some (4, false) }, { o := .ln (.l 0), g := some (5, false) }, { o := .bin .neq (.l 3) (.l 0), g := some (6, false) }, { o := .pk (.l 7) (.b true) (.l 0) }] [] 0 (.seq (.reg [{ o := .mv (.b false), d := some 2 }] []) .ret) .skip) (.seq (.seq (.reg [{ o := .mv (.i 0), d := some 3 }] []) (.blk 0 K.ref33_Valid_l1)) (.seq (.reg [{ o := .mv (.b true), d := some 2 }] []) .ret)))), res := [(2, none)] }
def ref32_Clear_l3b : C := (.seq (.ite [{ o := .mv (.v 7) }, { o := .mv (.v 6) }, { o := .ln (.l 0) }, { o := .bin .lss (.l 2) (.l 0) }] [] 0 .skip (.exit 4)) (.seq (.blk 5 (.ite [{ o := .mv (.v 1) }, { o := .mv (.v 7) }, { o := .ca N.ref23_Has 0 [] [.l 1, .l 0] }, { o := .mv (.l 0) }, { o := .mv (.v 6), g := some (0, true) }, { o := .mv (.v 7), g := some (1, true) }, { o := .ia (.l 1) (.l 0) 1, g := some (2, true) }, { o := .ld (.l 0) 1 false, g := some (3, true) }, { o := .bin .neq (.l 0) (.i 1099511627776), g := some (4, true) }, { o := .pk (.l 5) (.l 0) (.b false) }] [] 0 (.seq (.reg [{ o := .mv (.b false), d := some 3 }] []) .ret) .skip)) (.reg [{ o := .mv (.v 7) }, { o := .bin .add (.l 0) (.i 1) }, { o := .mv (.l 0), d := some 7 }] [])))
def ref32_Clear_l3 : C := .loop true [0, 3] K.ref32_Clear_l3b
def ref32_Clear_l2b : C := (.seq (.ite [{ o := .mv (.v 5) }, { o := .fa (.v 2) 0 }, { o := .ld (.l 0) 1 false }, { o := .mv (.v 4) }, { o := .ia (.l 1) (.l 0) 2 }, { o := .fa (.l 0) 1 }, { o := .ld (.l 0) 1 false }, { o := .ln (.l 0) }, { o := .bin .lss (.l 7) (.l 0) }] [] 0 .skip (.exit 2)) (.seq (.blk 3 (.seq (.reg [{ o := .fa (.v 2) 0 }, { o := .ld (.l 0) 1 false }, { o := .mv (.v 4) }, { o := .ia (.l 1) (.l 0) 2 }, { o := .fa (.l 0) 1 }, { o := .ld (.l 0) 1 false }, { o := .mv (.v 5) }, { o := .ia (.l 1) (.l 0) 2 }, { o := .fa (.l 0) 1 }, { o := .ld (.l 0) 1 false }, { o := .mv (.l 0), d := some 6 }] []) (.seq (.reg [{ o := .mv (.i 0), d := some 7 }] []) (.blk 4 K.ref32_Clear_l3)))) (.reg [{ o := .mv (.v 5) }, { o := .bin .add (.l 0) (.i 1) }, { o := .mv (.l 0), d := some 5 }] [])))
def ref32_Clear_l2 : C := .loop true [0, 3, 6, 7] K.ref32_Clear_l2b
def ref32_Clear_l1b : C := (.seq (.ite [{ o := .mv (.v 4) }, { o := .fa (.v 2) 0 }, { o := .ld (.l 0) 1 false }, { o := .ln (.l 0) }, { o := .bin .lss (.l 3) (.l 0) }] [] 0 .skip (.exit 0)) (.seq (.blk 1 (.seq (.reg [{ o := .mv (.i 0), d := some 5 }] []) (.blk 2 K.ref32_Clear_l2))) (.reg [{ o := .mv (.v 4) }, { o := .bin .add (.l 0) (.i 1) }, { o := .mv (.l 0), d := some 4 }] [])))
def ref32_Clear_l1 : C := .loop true [0, 3, 5, 6, 7] K.ref32_Clear_l1b
/-- /ref32.Clear -/
def ref32_Clear : Fn := { nargs := 2, vars := [0, 1, 2, 4, 5, 6, 7, 8], body := (.seq (.reg [{ o := .bx (.v 0) 1, d := some 2 }, { o := .mv (.b false), d := some 3 }] []) (.seq (.seq (.reg [{ o := .mv (.i 0), d := some 4 }] []) (.blk 0 K.ref32_Clear_l1)) (.seq (.reg [{ o := .mv (.b true), d := some 3 }] []) .ret))), res := [(3, none)] }
/-- /ref31.Copy -/
def ref31_Copy : Fn := { nargs := 1, vars := [0, 1, 2], body := (.seq (.reg [{ o := .bx (.v 0) 2, d := some 1 }, { o := .al [.nil, .nil] [], d := some 2 }] []) (.seq (.reg [{ o := .fa (.v 1) 0 }, { o := .ld (.l 0) 1 false }, { o := .app (.c (.nil)) (.l 0) true 2 }, { o := .fa (.v 1) 1 }, { o := .ld (.l 0) 1 false }, { o := .app (.c (.nil)) (.l 0) true 10 }, { o := .bd [.nil, .nil] [(0, 1, .l 3), (1, 1, .l 0)] }, { o := .st (.v 2) (.l 0) 2 [] }] [(4, 0)]) .ret)), res := [(2, some (2, true))] }
/-- /keys.Valid.1 -/
def keys_Valid_1 : Fn := { nargs := 1, vars := [0, 2], body := (.seq (.reg [{ o := .mv (.b false), d := some 1 }] []) (.seq (.reg [{ o := .mv (.v 0) }, { o := .ca N.lists_In 0 [] [.l 0, .i 0, .i 2] }, { o := .un .not (.l 0) }, { o := .mv (.l 0), d := some 1 }] []) .ret)), res := [(1, none)] }
/-- /keys.roads -/
def keys_roads : Fn := { nargs := 1, vars := [0, 2], body := (.seq (.reg [{ o := .mv (.b false), d := some 1 }] []) (.seq (.reg [{ o := .mv (.v 0) }, { o := .ln (.l 0) }, { o := .ca N.lists_In 0 [] [.l 0, .i 1, .i 12] }, { o := .mv (.l 0) }, { o := .mv (.v 0), g := some (0, true) }, { o := .ca N.lists_Rising 0 [] [.l 0, .i 0, .i 127], g := some (1, true) }, { o := .pk (.l 2) (.l 0) (.b false) }, { o := .mv (.l 0), d := some 1 }] []) .ret)), res := [(1, none)] }
/-- /keys.boxed -/
def keys_boxed : Fn := { nargs := 1, vars := [0, 1, 2], body := (.seq (.reg [{ o := .bx (.v 0) 3, d := some 1 }, { o := .mv (.b false), d := some 2 }] []) (.seq (.reg [{ o := .fa (.v 1) 1 }, { o := .ld (.l 0) 1 false }, { o := .ca N.slices_ContainsFunc_int_int 0 [] [.l 0, .c (.fn N.keys_boxed_1 [])] }, { o := .un .not (.l 0) }, { o := .mv (.l 0), d := some 2 }] []) .ret)), res := [(2, none)] }
/-- /area.Clear.1 -/
def area_Clear_1 : Fn := { nargs := 2, vars := [0, 1, 3], body := (.seq (.reg [{ o := .mv (.b false), d := some 2 }] []) (.seq (.reg [{ o := .mv (.v 0) }, { o := .fa (.v 1) 1 }, { o := .ld (.l 0) 1 false }, { o := .ln (.l 0) }, { o := .bin .sub (.l 0) (.i 1) }, { o := .ca N.lists_In 0 [] [.l 4, .i 0, .l 0] }, { o := .mv (.l 0) }, { o := .fa (.v 1) 1, g := some (0, true) }, { o := .ld (.l 0) 1 false, g := some (1, true) }, { o := .mv (.v 0), g := some (2, true) }, { o := .ia (.l 1) (.l 0) 1, g := some (3, true) }, { o := .ld (.l 0) 1 false, g := some (4, true) }, { o := .bin .neq (.l 0) (.i 1099511627776), g := some (5, true) }, { o := .pk (.l 6) (.l 0) (.b false) }, { o := .mv (.l 0), d := some 2 }] []) .ret)), res := [(2, none)] }
/-- /keys.boxed.1 -/
def keys_boxed_1 : Fn := { nargs := 1, vars := [0, 2], body := (.seq (.reg [{ o := .mv (.b false), d := some 1 }] []) (.seq (.reg [{ o := .mv (.v 0) }, { o := .bin .neq (.l 0) (.i 2) }, { o := .mv (.l 0), d := some 1 }] []) .ret)), res := [(1, none)] }
def ref26_Copy_v1_l1b : C := (.seq (.ite [{ o := .mv (.v 4) }, { o := .fa (.v 1) 0 }, { o := .ld (.l 0) 1 false }, { o := .ln (.l 0) }, { o := .bin .lss (.l 3) (.l 0) }] [] 0 .skip (.exit 0)) (.seq (.blk 1 (.reg [{ o := .fa (.v 3) 0 }, { o := .ld (.l 0) 1 false }, { o := .fa (.v 1) 0 }, { o := .ld (.l 0) 1 false }, { o := .mv (.v 4) }, { o := .ia (.l 1) (.l 0) 2 }, { o := .ld (.l 0) 2 true }, { o := .ca N.ref26_CopyWorld 1 [] [.l 0] }, { o := .bsr [.l 0] 2 }, { o := .app (.l 7) (.l 0) false 2 }, { o := .fa (.v 3) 0 }, { o := .st (.l 0) (.l 1) 1 [] }] [(1, 8), (1, 9)])) (.reg [{ o := .mv (.v 4) }, { o := .bin .add (.l 0) (.i 1) }, { o := .mv (.l 0), d := some 4 }] [])))
def ref26_Copy_v1_l1 : C := .loop false [0] K.ref26_Copy_v1_l1b
/-- /ref26.Copy -/
def ref26_Copy_v1 : Fn := { nargs := 1, vars := [0, 1, 2, 3, 4], body := (.seq (.reg [{ o := .bx (.v 0) 1, d := some 1 }, { o := .al [.nil] [], d := some 2 }] []) (.seq (.reg [{ o := .al [.nil] [(0, 2)], d := some 3 }] []) (.seq (.seq (.reg [{ o := .mv (.i 0), d := some 4 }] []) (.blk 0 K.ref26_Copy_v1_l1)) (.seq (.reg [{ o := .ld (.v 3) 1 true }, { o := .st (.v 2) (.l 0) 1 [] }] []) .ret)))), res := [(2, some (1, true))] }
def ref26_Copy_v2_l1b : C := (.seq (.ite [{ o := .mv (.v 4) }, { o := .fa (.v 1) 0 }, { o := .ld (.l 0) 1 false }, { o := .ln (.l 0) }, { o := .bin .lss (.l 3) (.l 0) }] [] 0 .skip (.exit 0)) (.seq (.blk 1 (.reg [{ o := .fa (.v 3) 0 }, { o := .ld (.l 0) 1 false }, { o := .fa (.v 1) 0 }, { o := .ld (.l 0) 1 false }, { o := .mv (.v 4) }, { o := .ia (.l 1) (.l 0) 2 }, { o := .ld (.l 0) 2 true }, { o := .ca N.ref26_CopyWorld_v2 2 [] [.l 0] }, { o := .bsr [.l 0] 2 }, { o := .app (.l 7) (.l 0) false 2 }, { o := .fa (.v 3) 0 }, { o := .st (.l 0) (.l 1) 1 [] }] [(1, 8), (1, 9)])) (.reg [{ o := .mv (.v 4) }, { o := .bin .add (.l 0) (.i 1) }, { o := .mv (.l 0), d := some 4 }] [])))
def ref26_Copy_v2_l1 : C := .loop false [0] K.ref26_Copy_v2_l1b
/-- /ref26.Copy -/
def ref26_Copy_v2 : Fn := { nargs := 1, vars := [0, 1, 2, 3, 4], body := (.seq (.reg [{ o := .bx (.v 0) 1, d := some 1 }, { o := .al [.nil] [], d := some 2 }] []) (.seq (.reg [{ o := .al [.nil] [(0, 2)], d := some 3 }] []) (.seq (.seq (.reg [{ o := .mv (.i 0), d := some 4 }] []) (.blk 0 K.ref26_Copy_v2_l1)) (.seq (.reg [{ o := .ld (.v 3) 1 true }, { o := .st (.v 2) (.l 0) 1 [] }] []) .ret)))), res := [(2, some (1, true))] }
def ref26_CopyWorld_v2_l1b : C := (.seq (.ite [{ o := .mv (.v 4) }, { o := .fa (.v 1) 1 }, { o := .ld (.l 0) 1 false }, { o := .ln (.l 0) }, { o := .bin .lss (.l 3) (.l 0) }] [] 0 .skip (.exit 0)) (.seq (.blk 1 (.reg [{ o := .fa (.v 3) 1 }, { o := .ld (.l 0) 1 false }, { o := .fa (.v 1) 1 }, { o := .ld (.l 0) 1 false }, { o := .mv (.v 4) }, { o := .ia (.l 1) (.l 0) 2 }, { o := .ld (.l 0) 2 true }, { o := .ca N.ref25_Copy 1 [] [.l 0] }, { o := .bsr [.l 0] 2 }, { o := .app (.l 7) (.l 0) false 2 }, { o := .fa (.v 3) 1 }, { o := .st (.l 0) (.l 1) 1 [] }] [(1, 8), (1, 9)])) (.reg [{ o := .mv (.v 4) }, { o := .bin .add (.l 0) (.i 1) }, { o := .mv (.l 0), d := some 4 }] [])))
def ref26_CopyWorld_v2_l1 : C := .loop false [0] K.ref26_CopyWorld_v2_l1b
/-- /ref26.CopyWorld -/
def ref26_CopyWorld_v2 : Fn := { nargs := 1, vars := [0, 1, 2, 3, 4], body := (.seq (.reg [{ o := .bx (.v 0) 2, d := some 1 }, { o := .al [.nil, .nil] [], d := some 2 }] []) (.seq (.reg [{ o := .fa (.v 1) 0 }, { o := .ld (.l 0) 1 false }, { o := .app (.c (.nil)) (.l 0) false 1 }, { o := .bd [.nil, .nil] [(0, 1, .l 0)] }, { o := .al [.nil, .nil] [(1, 2)], d := some 3 }, { o := .st (.l 0) (.l 1) 2 [(1, 2)] }] []) (.seq (.seq (.reg [{ o := .mv (.i 0), d := some 4 }] []) (.blk 0 K.ref26_CopyWorld_v2_l1)) (.seq (.reg [{ o := .ld (.v 3) 2 true }, { o := .st (.v 2) (.l 0) 2 [] }] []) .ret)))), res := [(2, some (2, true))] }
end Go.Ev.K
namespace Go.Ev
class Has4 [Lib] : Prop where
  t_ref34_Valid : Lib.fs N.ref34_Valid = some K.ref34_Valid
  t_firing_Safe : Lib.fs N.firing_Safe = some K.firing_Safe
  t_ref34_Safe : Lib.fs N.ref34_Safe = some K.ref34_Safe
  t_ref34_Due : Lib.fs N.ref34_Due = some K.ref34_Due
  t_firing_request_check : Lib.fs N.firing_request_check = some K.firing_request_check
  t_firing_timely : Lib.fs N.firing_timely = some K.firing_timely
  t_lists_Rising : Lib.fs N.lists_Rising = some K.lists_Rising
  t_ref32_Barred : Lib.fs N.ref32_Barred = some K.ref32_Barred
  t_ref32_seal : Lib.fs N.ref32_seal = some K.ref32_seal
  t_ref34_step : Lib.fs N.ref34_step = some K.ref34_step
  t_ref34_blast : Lib.fs N.ref34_blast = some K.ref34_blast
  t_keys_Valid : Lib.fs N.keys_Valid = some K.keys_Valid
  t_area_Clear : Lib.fs N.area_Clear = some K.area_Clear
  t_ref33_Valid : Lib.fs N.ref33_Valid = some K.ref33_Valid
  t_ref32_Clear : Lib.fs N.ref32_Clear = some K.ref32_Clear
  t_ref31_Copy : Lib.fs N.ref31_Copy = some K.ref31_Copy
  t_keys_Valid_1 : Lib.fs N.keys_Valid_1 = some K.keys_Valid_1
  t_keys_roads : Lib.fs N.keys_roads = some K.keys_roads
  t_keys_boxed : Lib.fs N.keys_boxed = some K.keys_boxed
  t_area_Clear_1 : Lib.fs N.area_Clear_1 = some K.area_Clear_1
  t_keys_boxed_1 : Lib.fs N.keys_boxed_1 = some K.keys_boxed_1
  t_ref26_Copy_v1 : Lib.fs N.ref26_Copy_v1 = some K.ref26_Copy_v1
  t_ref26_Copy_v2 : Lib.fs N.ref26_Copy_v2 = some K.ref26_Copy_v2
  t_ref26_CopyWorld_v2 : Lib.fs N.ref26_CopyWorld_v2 = some K.ref26_CopyWorld_v2
namespace K
variable [Lib] [Has4]
theorem t_ref34_Valid : Lib.fs N.ref34_Valid = some K.ref34_Valid := Has4.t_ref34_Valid
theorem t_firing_Safe : Lib.fs N.firing_Safe = some K.firing_Safe := Has4.t_firing_Safe
theorem t_ref34_Safe : Lib.fs N.ref34_Safe = some K.ref34_Safe := Has4.t_ref34_Safe
theorem t_ref34_Due : Lib.fs N.ref34_Due = some K.ref34_Due := Has4.t_ref34_Due
theorem t_firing_request_check : Lib.fs N.firing_request_check = some K.firing_request_check := Has4.t_firing_request_check
theorem t_firing_timely : Lib.fs N.firing_timely = some K.firing_timely := Has4.t_firing_timely
theorem t_lists_Rising : Lib.fs N.lists_Rising = some K.lists_Rising := Has4.t_lists_Rising
theorem t_ref32_Barred : Lib.fs N.ref32_Barred = some K.ref32_Barred := Has4.t_ref32_Barred
theorem t_ref32_seal : Lib.fs N.ref32_seal = some K.ref32_seal := Has4.t_ref32_seal
theorem t_ref34_step : Lib.fs N.ref34_step = some K.ref34_step := Has4.t_ref34_step
theorem t_ref34_blast : Lib.fs N.ref34_blast = some K.ref34_blast := Has4.t_ref34_blast
theorem t_keys_Valid : Lib.fs N.keys_Valid = some K.keys_Valid := Has4.t_keys_Valid
theorem t_area_Clear : Lib.fs N.area_Clear = some K.area_Clear := Has4.t_area_Clear
theorem t_ref33_Valid : Lib.fs N.ref33_Valid = some K.ref33_Valid := Has4.t_ref33_Valid
theorem t_ref32_Clear : Lib.fs N.ref32_Clear = some K.ref32_Clear := Has4.t_ref32_Clear
theorem t_ref31_Copy : Lib.fs N.ref31_Copy = some K.ref31_Copy := Has4.t_ref31_Copy
theorem t_keys_Valid_1 : Lib.fs N.keys_Valid_1 = some K.keys_Valid_1 := Has4.t_keys_Valid_1
theorem t_keys_roads : Lib.fs N.keys_roads = some K.keys_roads := Has4.t_keys_roads
theorem t_keys_boxed : Lib.fs N.keys_boxed = some K.keys_boxed := Has4.t_keys_boxed
theorem t_area_Clear_1 : Lib.fs N.area_Clear_1 = some K.area_Clear_1 := Has4.t_area_Clear_1
theorem t_keys_boxed_1 : Lib.fs N.keys_boxed_1 = some K.keys_boxed_1 := Has4.t_keys_boxed_1
theorem t_ref26_Copy_v1 : Lib.fs N.ref26_Copy_v1 = some K.ref26_Copy_v1 := Has4.t_ref26_Copy_v1
theorem t_ref26_Copy_v2 : Lib.fs N.ref26_Copy_v2 = some K.ref26_Copy_v2 := Has4.t_ref26_Copy_v2
theorem t_ref26_CopyWorld_v2 : Lib.fs N.ref26_CopyWorld_v2 = some K.ref26_CopyWorld_v2 := Has4.t_ref26_CopyWorld_v2
end K
end Go.Ev

/- Shots: what the program and the reference say. -/
namespace Go.Ev
open Go
variable [Lib] [Has1] [Has2] [Has3] [Has4]

def risP (l : List Int) (lo hi : Int) (j : Nat) : Bool := !decide (lo ≤ nth l j ∧ nth l j ≤ hi ∧ (0 < j → nth l (j - 1) < nth l j))
def risB (l : List Int) (lo hi : Int) : Bool := !((List.range l.length).any (risP l lo hi))
theorem rising_ok (l : List Int) (lo hi : Int) (hl : l.length ≤ 4294967296) : CALL 0 N.lists_Rising [.t (tL l), I lo, I hi] [] = some (B (risB l lo hi), []) := by
  refine CALL_of K.t_lists_Rising rfl ?_
  have loop : ∀ a b c : D, exS CALL K.lists_Rising_l1 ⟨[.t (tL l), I lo, I hi, a, b, c, .t (tL l), I l.length, I 0], []⟩ =
      some (if (List.range l.length).any (risP l lo hi) = true
        then (.ret, ⟨[.t (tL l), I lo, I hi, B false, I (firstN l.length (risP l lo hi)), I (nth l (firstN l.length (risP l lo hi))), .t (tL l), I l.length, I (firstN l.length (risP l lo hi))], []⟩)
        else (.exit 0, ⟨[.t (tL l), I lo, I hi, .und, .und, .und, .t (tL l), I l.length, I l.length], []⟩)) := by
    intro a b c
    refine loop_srch (fun j => ⟨[.t (tL l), I lo, I hi, .und, .und, .und, .t (tL l), I l.length, I j], []⟩) l.length (risP l lo hi) (fun j => (.ret, ⟨[.t (tL l), I lo, I hi, B false, I j, I (nth l j), .t (tL l), I l.length, I j], []⟩)) _ rfl ?_ ?_ ?_ (by simp)
    · intro j hj hp
      simp only [risP, Bool.not_eq_false', decide_eq_true_eq] at hp
      obtain ⟨h1, h2, h3⟩ := hp
      cases j with
      | zero => simp (disch := omega) only [go_sem, K.lists_Rising_l1b, ↓reduceIte]
      | succ j =>
        have h3 := h3 (by omega)
        rw [Nat.add_sub_cancel] at h3
        simp (disch := omega) only [go_sem, K.lists_Rising_l1b, ↓reduceIte]
    · intro j hj hp
      simp only [risP, Bool.not_eq_true', decide_eq_false_iff_not] at hp
      refine ⟨?_, by simp⟩
      by_cases h1 : lo ≤ nth l j
      · by_cases h2 : nth l j ≤ hi
        · cases j with
          | zero => exact absurd ⟨h1, h2, fun h => absurd h (by omega)⟩ hp
          | succ j =>
            have h3 : ¬ nth l j < nth l (j + 1) := fun h => hp ⟨h1, h2, fun _ => by simpa using h⟩
            simp (disch := omega) only [go_sem, K.lists_Rising_l1b, ↓reduceIte]
        · simp (disch := omega) only [go_sem, K.lists_Rising_l1b, ↓reduceIte]
      · simp (disch := omega) only [go_sem, K.lists_Rising_l1b, ↓reduceIte]
    · simp (disch := omega) only [go_sem, K.lists_Rising_l1b, ↓reduceIte]
  unfold risB
  simp (disch := omega) only [go_sem, K.lists_Rising, ↓reduceIte, loop]
  cases hf : (List.range l.length).any (risP l lo hi) with
  | true => simp (disch := omega) only [go_sem, ↓reduceIte]
  | false => simp (disch := omega) only [go_sem, ↓reduceIte, Bool.false_eq_true]
theorem ris_set (l : List Int) (n : Int) : risB l 0 (n - 1) = setB l n := by
  unfold risB setB
  rw [all_rng]
  refine congrArg (!·) (congrArg _ (funext fun j => ?_))
  unfold risP
  refine congrArg (!·) (decide_eq_decide.2 ⟨fun h => ⟨h.1, by omega, h.2.2⟩, fun h => ⟨h.1, by omega, h.2.2⟩⟩)

structure Shot where
  st : Int
  fi : Int
  se : Int
  ti : Int
abbrev Shot.e (s : Shot) : T := .agg [tI s.st, tI s.fi, tI s.se, tI s.ti]
structure Blast where
  area : List Int
  hold : Int
  mis : Int
abbrev Blast.e (x : Blast) : T := .agg [tL x.area, tI x.hold, tI x.mis]
structure Keys where
  roads : List Int
  keys : List Int
  out : Bool
abbrev Keys.e (k : Keys) : T := .agg [tL k.roads, tL k.keys, .bool k.out]

/- keys -/
theorem kvalid1_ok (x : Int) : CALL 0 N.keys_Valid_1 [I x] [] = some (B (!decide (0 ≤ x ∧ x ≤ 2)), []) := by
  refine CALL_of K.t_keys_Valid_1 rfl ?_
  have i := in_ok x 0 2
  simp (disch := omega) only [go_sem, K.keys_Valid_1, ↓reduceIte, i]
theorem kboxed1_ok (x : Int) : CALL 0 N.keys_boxed_1 [I x] [] = some (B (!decide (x = 2)), []) := by
  refine CALL_of K.t_keys_boxed_1 rfl ?_
  simp (disch := omega) only [go_sem, K.keys_boxed_1, ↓reduceIte]
  simp
def boxedF (l : List Int) : Bool := !l.any fun x => !decide (x = 2)
theorem kboxed_ok (k : Keys) (hl : k.keys.length ≤ 4294967296) : CALL 0 N.keys_boxed [.t k.e] [] = some (B (boxedF k.keys), []) := by
  refine CALL_of K.t_keys_boxed rfl ?_
  have c : CALL 0 N.slices_ContainsFunc_int_int [.t (tL k.keys), .fn N.keys_boxed_1 []] [] = some (B (k.keys.any fun x => !decide (x = 2)), []) := containsFunc_ok k.keys hl N.keys_boxed_1 [] (fun x => !decide (x = 2)) (fun x _ => kboxed1_ok x)
  unfold boxedF
  generalize (k.keys.any fun x => !decide (x = 2)) = r at *
  obtain ⟨roads, keys, out⟩ := k
  simp only at *
  simp (disch := omega) only [go_sem, K.keys_boxed, ↓reduceIte, c]
def kroadsF (l : List Int) : Bool := decide (1 ≤ (l.length : Int) ∧ (l.length : Int) ≤ 12) && risB l 0 127
theorem kroads_ok (l : List Int) (hl : l.length ≤ 4294967296) : CALL 0 N.keys_roads [.t (tL l)] [] = some (B (kroadsF l), []) := by
  refine CALL_of K.t_keys_roads rfl ?_
  have i := in_ok l.length 1 12
  have r := rising_ok l 0 127 hl
  unfold kroadsF
  generalize risB l 0 127 = rr at *
  cases h : decide (1 ≤ (l.length : Int) ∧ (l.length : Int) ≤ 12) <;> rw [h] at i <;> simp (disch := omega) only [go_sem, K.keys_roads, ↓reduceIte, i, r]
def keysF (k : Keys) : Bool := kroadsF k.roads && decide (k.keys.length = k.roads.length) && !(k.keys.any fun x => !decide (0 ≤ x ∧ x ≤ 2)) && (!k.out || boxedF k.keys)
theorem kvalid_ok (k : Keys) (hl : k.keys.length ≤ 4294967296) (hr : k.roads.length ≤ 4294967296) : CALL 0 N.keys_Valid [.t k.e] [] = some (B (keysF k), []) := by
  refine CALL_of K.t_keys_Valid rfl ?_
  have a := kroads_ok k.roads hr
  have b := kboxed_ok k hl
  have c : CALL 0 N.slices_ContainsFunc_int_int [.t (tL k.keys), .fn N.keys_Valid_1 []] [] = some (B (k.keys.any fun x => !decide (0 ≤ x ∧ x ≤ 2)), []) := containsFunc_ok k.keys hl N.keys_Valid_1 [] (fun x => !decide (0 ≤ x ∧ x ≤ 2)) (fun x _ => kvalid1_ok x)
  unfold keysF
  generalize (k.keys.any fun x => !decide (0 ≤ x ∧ x ≤ 2)) = r at *
  obtain ⟨roads, keys, out⟩ := k
  simp only at *
  generalize kroadsF roads = r1 at *
  generalize boxedF keys = r2 at *
  by_cases e : keys.length = roads.length <;> cases r1 <;> cases r <;> cases out <;> simp (disch := omega) only [go_sem, K.keys_Valid, ↓reduceIte, a, b, c, e]

/- shots -/
def stateF (s : Shot) : Bool := if s.st = 0 then decide (s.fi = 0 ∧ s.se = 0 ∧ s.ti = 0) else if s.st = 1 then decide (0 < s.fi ∧ s.se = 0)
  else if s.st = 2 ∨ s.st = 3 ∨ s.st = 4 then decide (0 < s.fi ∧ 0 < s.se ∧ s.fi ≠ s.se) else false
def shotF (x : Blast) (s : Shot) : Bool := !decide (x.area.length = 0) && risB x.area 0 63 && decide (1 ≤ x.hold ∧ x.hold ≤ 100000) && decide (1 ≤ x.mis ∧ x.mis ≤ 100000) && decide (0 ≤ s.ti ∧ s.ti ≤ 2147483648) && stateF s

end Go.Ev

/- Shots: clear areas, and the steps. -/
namespace Go.Ev
open Go
variable [Lib] [Has1] [Has2] [Has3] [Has4]

abbrev never : Int := 1099511627776
abbrev Wh.box (w : Wh) : Obj := .box [I w.time, .t (tL w.frm)]
def clrP (w : Wh) (p : Int) : Bool := decide (0 ≤ p ∧ p ≤ (w.frm.length : Int) - 1) && !decide (nth w.frm p.toNat = never)
def clrW (area : List Int) (ws : List Wh) (k : Nat) : Bool := area.any (clrP (nth ws k))
def clrB (area : List Int) (xs : List World) (i : Nat) : Bool := (List.range (nth xs i).whr.length).any (clrW area (nth xs i).whr)
def clearF (b : Bel) (area : List Int) : Bool := !(List.range b.worlds.length).any (clrB area b.worlds)

abbrev tW (ws : List Wh) : T := .sl (ws.map Wh.e)
abbrev tX (xs : List World) : T := .sl (xs.map World.e)
end Go.Ev

/- Shots: the steps. -/
namespace Go.Ev
open Go
variable [Lib] [Has1] [Has2] [Has3] [Has4]

def safeF (x : Blast) (k : Keys) (b : Bel) : Bool := shotF x ⟨0, 0, 0, 0⟩ && keysF k && k.out && decide (0 < b.worlds.length) && clearF b x.area
structure Req where
  x : Blast
  s : Shot
  k : Keys
  b : Bel
  t : Int
  from_ : Int
abbrev Req.e (r : Req) : T := .agg [tL r.x.area, tI r.x.hold, tI r.x.mis, tI r.s.st, tI r.s.fi, tI r.s.se, tI r.s.ti, tL r.k.roads, tL r.k.keys, .bool r.k.out, .sl (r.b.worlds.map World.e), tI r.t, tI r.from_]
def checkF (r : Req) (odd : Bool) : Int :=
  if shotF r.x r.s = false then 6 else if r.s.st ≠ r.from_ then 10 else if r.t < 0 ∨ ¬ (r.s.ti ≤ r.t ∧ r.t ≤ 2147483648) then 8 else if odd = true then 19 else
  if r.from_ ≠ 0 ∧ r.x.hold < r.t - r.s.ti then 10 else if keysF r.k = false ∨ r.k.out = false then 48 else if safeF r.x r.k r.b = false then 49 else 0
structure Req.sz (r : Req) : Prop where
  hx : r.x.area.length ≤ 1000000
  hk : r.k.roads.length ≤ 1000000
  hk2 : r.k.keys.length ≤ 1000000
  hb : r.b.sz
def armF (x : Blast) (s : Shot) (k : Keys) (b : Bel) (role t : Int) : Shot × Int :=
  if checkF ⟨x, s, k, b, t, 0⟩ (decide (role ≤ 0)) ≠ 0 then (s, checkF ⟨x, s, k, b, t, 0⟩ (decide (role ≤ 0))) else (⟨1, role, 0, t⟩, 0)
def agreeF (x : Blast) (s : Shot) (k : Keys) (b : Bel) (role t : Int) : Shot × Int :=
  if checkF ⟨x, s, k, b, t, 1⟩ (decide (role ≤ 0) || decide (role = s.fi)) ≠ 0 then (s, checkF ⟨x, s, k, b, t, 1⟩ (decide (role ≤ 0) || decide (role = s.fi))) else (⟨2, s.fi, role, t⟩, 0)
def fireF (x : Blast) (s : Shot) (k : Keys) (b : Bel) (t : Int) (fails : Bool) : Shot × Int :=
  if checkF ⟨x, s, k, b, t, 2⟩ false ≠ 0 then (s, checkF ⟨x, s, k, b, t, 2⟩ false) else (⟨if fails = true then 4 else 3, s.fi, s.se, t⟩, 0)
def abortF (x : Blast) (s : Shot) (t : Int) : Shot × Int :=
  if shotF x s = false then (s, 6) else if s.st = 0 then (s, 10) else if ¬ (s.ti ≤ t ∧ t ≤ 2147483648) then (s, 8) else if s.st = 4 ∧ t - s.ti < x.mis then (s, 10) else (⟨0, 0, 0, 0⟩, 0)
def dueF (x : Blast) (s : Shot) (t : Int) : Int :=
  if shotF x s = false ∨ t < s.ti then 0 else if s.st = 1 ∨ s.st = 2 then max 0 (x.hold - (t - s.ti)) else if s.st = 4 then max 0 (x.mis - (t - s.ti)) else 0

section
variable (x : Blast) (s : Shot) (k : Keys) (b : Bel) (hx : x.area.length ≤ 1000000) (hk : k.roads.length ≤ 1000000) (hk2 : k.keys.length ≤ 1000000) (hb : b.sz)
include hx hk hk2 hb
end
end Go.Ev

/- Shots: the reference, and both agree. -/
namespace Go.Ev
open Go
variable [Lib] [Has1] [Has2] [Has3] [Has4]

def blastF (x : Blast) : Bool := decide (0 < x.area.length) && setB x.area 64 && decide (1 ≤ x.hold ∧ x.hold ≤ 100000) && decide (1 ≤ x.mis ∧ x.mis ≤ 100000)
/- keys -/
def rkP (k : Keys) (j : Nat) : Bool := decide (nth k.keys j < 0) || decide (2 < nth k.keys j) || (k.out && !decide (nth k.keys j = 2))
theorem rkP_any (k : Keys) : (!(List.range k.keys.length).any (rkP k)) = (!(k.keys.any fun x => !decide (0 ≤ x ∧ x ≤ 2)) && (!k.out || boxedF k.keys)) := by
  have ea : (List.range k.keys.length).any (rkP k) = k.keys.any (fun x => decide (x < 0) || decide (2 < x) || (k.out && !decide (x = 2))) := any_rng k.keys (fun x => decide (x < 0) || decide (2 < x) || (k.out && !decide (x = 2)))
  rw [ea]
  unfold boxedF
  rw [Bool.eq_iff_iff]
  cases k.out <;> simp
  constructor
  · intro h
    exact ⟨fun x hx => (h x hx).1, fun x hx => (h x hx).2⟩
  · rintro ⟨h1, h2⟩ x hx
    exact ⟨h1 x hx, h2 x hx⟩
theorem rkeys_ok (k : Keys) (hl : k.keys.length ≤ 1000000) (hr : k.roads.length ≤ 1000000) : CALL 0 N.ref33_Valid [.t k.e] [] = some (B (keysF k), []) := by
  refine CALL_of K.t_ref33_Valid rfl ?_
  have s := set_ok k.roads 128 (by omega)
  have e := rkP_any k
  have e2 : risB k.roads 0 127 = setB k.roads 128 := ris_set k.roads 128
  have e3 : keysF k = (kroadsF k.roads && decide (k.keys.length = k.roads.length) && !(List.range k.keys.length).any (rkP k)) := by rw [e]; unfold keysF; simp only [Bool.and_assoc]
  rw [e3]
  unfold kroadsF
  rw [e2]
  have loop : ∀ a : D, exS CALL K.ref33_Valid_l1 ⟨[a, .bp 0 0, B false, I 0], [.box [.t (tL k.roads), .t (tL k.keys), B k.out]]⟩ =
      some (if (List.range k.keys.length).any (rkP k) = true
        then (.ret, ⟨[.und, .bp 0 0, B false, I (firstN k.keys.length (rkP k))], [.box [.t (tL k.roads), .t (tL k.keys), B k.out]]⟩)
        else (.exit 0, ⟨[.und, .bp 0 0, .und, I k.keys.length], [.box [.t (tL k.roads), .t (tL k.keys), B k.out]]⟩)) := by
    intro a
    refine loop_srch (fun j => ⟨[.und, .bp 0 0, .und, I j], [.box [.t (tL k.roads), .t (tL k.keys), B k.out]]⟩) k.keys.length (rkP k) (fun j => (.ret, ⟨[.und, .bp 0 0, B false, I j], [.box [.t (tL k.roads), .t (tL k.keys), B k.out]]⟩)) _ rfl ?_ ?_ ?_ (by simp)
    · intro j hj hp
      simp only [rkP, Bool.or_eq_false_iff, decide_eq_false_iff_not, Bool.and_eq_false_imp] at hp
      obtain ⟨⟨h1, h2⟩, h3⟩ := hp
      cases ho : k.out with
      | false => simp (disch := omega) only [go_sem, K.ref33_Valid_l1b, ↓reduceIte]
      | true =>
        have h3 := h3 ho
        simp only [Bool.not_eq_false', decide_eq_true_eq] at h3
        simp (disch := omega) only [go_sem, K.ref33_Valid_l1b, ↓reduceIte]
    · intro j hj hp
      refine ⟨?_, by simp⟩
      unfold rkP at hp
      by_cases h1 : nth k.keys j < 0
      · simp (disch := omega) only [go_sem, K.ref33_Valid_l1b, ↓reduceIte]
      by_cases h2 : 2 < nth k.keys j
      · simp (disch := omega) only [go_sem, K.ref33_Valid_l1b, ↓reduceIte]
      simp only [h1, h2, decide_false, Bool.false_or, Bool.and_eq_true, Bool.not_eq_true', decide_eq_false_iff_not] at hp
      obtain ⟨h3, h4⟩ := hp
      simp (disch := omega) only [go_sem, K.ref33_Valid_l1b, ↓reduceIte, h3]
    · simp (disch := omega) only [go_sem, K.ref33_Valid_l1b, ↓reduceIte]
  generalize setB k.roads 128 = r at *
  generalize (List.range k.keys.length).any (rkP k) = r2 at *
  generalize firstN k.keys.length (rkP k) = r3 at *
  obtain ⟨roads, keys, out⟩ := k
  simp only at *
  clear e e2 e3
  by_cases c1 : 1 ≤ roads.length
  rotate_left
  · simp (disch := omega) only [go_sem, K.ref33_Valid, ↓reduceIte]
  by_cases c2 : roads.length ≤ 12
  rotate_left
  · simp (disch := omega) only [go_sem, K.ref33_Valid, ↓reduceIte]
  cases r
  · simp (disch := omega) only [go_sem, K.ref33_Valid, ↓reduceIte, s]
  have c3 : decide (1 ≤ (roads.length : Int) ∧ (roads.length : Int) ≤ 12) = true := by simp; omega
  rw [c3]
  by_cases c4 : keys.length = roads.length
  rotate_left
  · simp (disch := omega) only [go_sem, K.ref33_Valid, ↓reduceIte, s, c4]
  cases r2
  · simp only [Bool.false_eq_true, if_false] at loop
    simp (disch := omega) only [go_sem, K.ref33_Valid, ↓reduceIte, s, c4, loop]
  · simp only [if_true] at loop
    simp (disch := omega) only [go_sem, K.ref33_Valid, ↓reduceIte, s, c4, loop]

/- clear areas -/
def rcP (area : List Int) (w : Wh) (p : Nat) : Bool := decide ((p : Int) ∈ area) && !decide (nth w.frm p = never)
section
variable (area : List Int) (ha : area.length ≤ 1000000) (xs : List World) (hx : xs.length ≤ 1000000)
include ha hx
end
end Go.Ev

/- More laws of the laid-out evaluator: slices of live arrays; appending live elements; heaps that are not known cell by cell. -/
namespace Go.Ev
open Go

section
variable (H : Heap) (sz id ep n lo hi : Nat) (i j : Int) (fz : Bool)

def scO (r : D) : Option Obj → Option (D × Heap)
  | some (.arr sz' _ ep' es) => if ep = ep' ∧ n = es.length then (if sz' = sz then some (r, H) else none) else none
  | _ => none
@[go_sem] theorem scO_arr (r : D) (sz' : Nat) (pin : Bool) (es : List D) : scO H sz ep n r (some (.arr sz' pin ep es)) = if n = es.length then (if sz' = sz then some (r, H) else none) else none := by simp [scO]
theorem scR {l h : Nat} : ((arrAt H id ep n).bind fun a => if l ≤ h ∧ h ≤ n ∧ a.1 = sz then some (D.sub id ep n l h) else none).map (fun d => (d, H)) = if l ≤ h then (if h ≤ n then scO H sz ep n (.sub id ep n l h) H[id]? else none) else none := by
  simp only [arrAt]
  generalize H[id]? = o
  by_cases h1 : l ≤ h
  · by_cases h2 : h ≤ n
    · rw [if_pos h1, if_pos h2]
      rcases o with _ | (_ | ⟨sz', pin, ep', es⟩)
      · rfl
      · rfl
      · simp only [scO]
        by_cases h3 : ep = ep' ∧ n = es.length
        · rw [if_pos h3, if_pos h3, Option.bind_some]
          by_cases h4 : sz' = sz
          · rw [if_pos h4, if_pos ⟨h1, h2, h4⟩]; rfl
          · rw [if_neg h4, if_neg fun h => h4 h.2.2]; rfl
        · rw [if_neg h3, if_neg h3]; rfl
    · rw [if_pos h1, if_neg h2]
      rcases o with _ | (_ | ⟨sz', pin, ep', es⟩)
      · rfl
      · rfl
      · by_cases h3 : ep = ep' ∧ n = es.length
        · simp only [if_pos h3, Option.bind_some]; rw [if_neg fun h => h2 h.2.1]; rfl
        · simp only [if_neg h3]; rfl
  · rw [if_neg h1]
    rcases o with _ | (_ | ⟨sz', pin, ep', es⟩)
    · rfl
    · rfl
    · by_cases h3 : ep = ep' ∧ n = es.length
      · simp only [if_pos h3, Option.bind_some]; rw [if_neg fun h => h1 h.1]; rfl
      · simp only [if_neg h3]; rfl
@[go_sem] theorem opSc_ref_hi : opSc H sz (some (.ref id ep n)) (some none) (some (some i)) = if 0 ≤ i then (if i ≤ n then scO H sz ep n (.sub id ep n 0 i.toNat) H[id]? else none) else none := by
  simp only [opSc, Option.bind_some, sliceD, bound, idx]
  by_cases h1 : 0 ≤ i
  · rw [if_pos h1, if_pos h1, Option.bind_some, scR, if_pos (Nat.zero_le _)]
    by_cases h2 : i ≤ n
    · rw [if_pos h2, if_pos (by omega)]
    · rw [if_neg h2, if_neg (by omega)]
  · rw [if_neg h1, if_neg h1]; rfl
@[go_sem] theorem opSc_ref_lo : opSc H sz (some (.ref id ep n)) (some (some i)) (some none) = if 0 ≤ i then (if i ≤ n then scO H sz ep n (.sub id ep n i.toNat n) H[id]? else none) else none := by
  simp only [opSc, Option.bind_some, sliceD, bound, idx]
  by_cases h1 : 0 ≤ i
  · rw [if_pos h1, if_pos h1, Option.bind_some, scR]
    by_cases h2 : i ≤ n
    · rw [if_pos h2, if_pos (by omega), if_pos (by omega)]
    · rw [if_neg h2, if_neg (by omega)]
  · rw [if_neg h1, if_neg h1]; rfl
@[go_sem] theorem opSc_ref_lohi : opSc H sz (some (.ref id ep n)) (some (some i)) (some (some j)) = if 0 ≤ i then (if i ≤ j then (if j ≤ n then scO H sz ep n (.sub id ep n i.toNat j.toNat) H[id]? else none) else none) else none := by
  simp only [opSc, Option.bind_some, sliceD, bound, idx]
  by_cases h1 : 0 ≤ i
  · rw [if_pos h1, if_pos h1, Option.bind_some]
    by_cases h0 : i ≤ j
    · rw [if_pos h0, if_pos (by omega), Option.bind_some, scR, if_pos (by omega)]
      by_cases h2 : j ≤ n
      · rw [if_pos h2, if_pos (by omega)]
      · rw [if_neg h2, if_neg (by omega)]
    · rw [if_neg h0]
      by_cases h2 : 0 ≤ j
      · rw [if_pos h2, Option.bind_some, scR, if_neg (by omega)]
      · rw [if_neg h2]; rfl
  · rw [if_neg h1, if_neg h1]; rfl
@[go_sem] theorem opSc_nil_hi : opSc H sz (some .nil) (some none) (some (some i)) = if i = 0 then some (.nil, H) else none := by
  simp only [opSc, Option.bind_some, sliceD, bound, idx]
  by_cases h1 : 0 ≤ i
  · rw [if_pos h1, Option.bind_some]
    by_cases h2 : i = 0
    · rw [if_pos h2, if_pos (by omega)]; rfl
    · rw [if_neg h2, if_neg (by omega)]; rfl
  · rw [if_neg h1, if_neg (by omega)]; rfl
@[go_sem] theorem opSc_nil_lo : opSc H sz (some .nil) (some (some i)) (some none) = if i = 0 then some (.nil, H) else none := by
  simp only [opSc, Option.bind_some, sliceD, bound, idx]
  by_cases h1 : 0 ≤ i
  · rw [if_pos h1, Option.bind_some]
    by_cases h2 : i = 0
    · rw [if_pos h2, if_pos (by omega)]; rfl
    · rw [if_neg h2, if_neg (by omega)]; rfl
  · rw [if_neg h1, if_neg (by omega)]; rfl

/- appending elements that stay live -/
def appD (x : D) (ys : List D) : Option (D × Heap) := if headSize sz ys = true then (match x with
    | .nil => if ys.length ≤ 4294967296 then some (.ref H.length 0 ys.length, H ++ [.arr sz false 0 ys]) else none
    | .ref id ep n => appRef H sz id ep n ys H[id]?
    | _ => none) else none
@[go_sem] theorem appD_nil (ys : List D) : appD H sz .nil ys = if headSize sz ys = true then (if ys.length ≤ 4294967296 then some (.ref H.length 0 ys.length, H ++ [.arr sz false 0 ys]) else none) else none := (rfl)
@[go_sem] theorem appD_ref (ys : List D) : appD H sz (.ref id ep n) ys = if headSize sz ys = true then appRef H sz id ep n ys H[id]? else none := (rfl)
@[go_sem] theorem headSize_nil : headSize sz [] = true := (rfl)
@[go_sem] theorem headSize_cons (d : D) (r : List D) : headSize sz (d :: r) = lenIs sz d.cells := by
  rw [Bool.eq_iff_iff, lenIs_iff]; simp [headSize]

def elsO (x : D) : Option Obj → Option (D × Heap)
  | some (.arr _ _ ep' es) => if ep = ep' ∧ n = es.length then appD H sz x ((es.drop lo).take (hi - lo)) else none
  | _ => none
def elsR (x : D) : Option Obj → Option (D × Heap)
  | some (.arr _ _ ep' es) => if ep = ep' ∧ n = es.length then appD H sz x es else none
  | _ => none
@[go_sem] theorem elsO_arr (x : D) (sz' : Nat) (pin : Bool) (es : List D) : elsO H sz ep n lo hi x (some (.arr sz' pin ep es)) = if n = es.length then appD H sz x ((es.drop lo).take (hi - lo)) else none := by simp [elsO]
@[go_sem] theorem elsR_arr (x : D) (sz' : Nat) (pin : Bool) (es : List D) : elsR H sz ep n x (some (.arr sz' pin ep es)) = if n = es.length then appD H sz x es else none := by simp [elsR]

theorem appD_is (x : D) (ys : List D) : (if headSize sz ys = true then (match x with
    | .nil => if ys.length ≤ lim then some (D.ref H.length 0 ys.length, H ++ [.arr sz false 0 ys]) else none
    | .ref id ep n => (arrAt H id ep n).bind fun a => if a.1 = sz ∧ n + ys.length ≤ lim then some (.ref id ep (n + ys.length), H.set id (.arr sz a.2.1 ep (a.2.2 ++ ys))) else none
    | _ => none) else none) = appD H sz x ys := by
  unfold appD
  split
  · cases x with
    | ref id ep n =>
      simp only [arrAt]
      generalize H[id]? = o
      rcases o with _ | (_ | ⟨sz', pin, ep', es⟩)
      · rfl
      · rfl
      · simp only [appRef]
        by_cases h1 : ep = ep' ∧ n = es.length
        · rw [if_pos h1, Option.bind_some]
          by_cases h2 : sz' = sz ∧ n + ys.length ≤ lim
          · rw [if_pos h2, if_pos ⟨h1.1, h1.2, h2⟩]
          · rw [if_neg h2, if_neg fun h => h2 h.2.2]
        · rw [if_neg h1, if_neg fun h => h1 ⟨h.1, h.2.1⟩]; rfl
    | _ => rfl
  · rfl

theorem opApp_live (x y : D) (ys : List D) (h : elems H y = some ys) : opApp H sz false (some x) (some y) = appD H sz x ys := by
  simp only [opApp, Option.bind_some, appendD, h, Bool.false_eq_true, if_false]
  exact appD_is H sz x ys
@[go_sem] theorem opApp_live_nil (x : D) : opApp H sz false (some x) (some .nil) = appD H sz x [] := opApp_live H sz x .nil [] rfl
@[go_sem] theorem opApp_live_ref (x : D) : opApp H sz false (some x) (some (.ref id ep n)) = elsR H sz ep n x H[id]? := by
  cases he : elems H (.ref id ep n) with
  | some ys =>
    rw [opApp_live H sz x _ ys he]
    simp only [elems, arrAt] at he
    generalize H[id]? = o at he
    rcases o with _ | (_ | ⟨sz', pin, ep', es⟩)
    · cases he
    · cases he
    · simp only [elsR]
      by_cases h1 : ep = ep' ∧ n = es.length
      · simp only [if_pos h1] at he ⊢; cases he; rfl
      · simp only [if_neg h1] at he; cases he
  | none =>
    have : opApp H sz false (some x) (some (.ref id ep n)) = none := by simp only [opApp, Option.bind_some, appendD, he]; rfl
    rw [this]
    simp only [elems, arrAt] at he
    generalize H[id]? = o at he
    rcases o with _ | (_ | ⟨sz', pin, ep', es⟩)
    · rfl
    · rfl
    · simp only [elsR]
      by_cases h1 : ep = ep' ∧ n = es.length
      · simp only [if_pos h1] at he; cases he
      · simp only [if_neg h1]
@[go_sem] theorem opApp_live_sub (x : D) : opApp H sz false (some x) (some (.sub id ep n lo hi)) = elsO H sz ep n lo hi x H[id]? := by
  cases he : elems H (.sub id ep n lo hi) with
  | some ys =>
    rw [opApp_live H sz x _ ys he]
    simp only [elems, arrAt] at he
    generalize H[id]? = o at he
    rcases o with _ | (_ | ⟨sz', pin, ep', es⟩)
    · cases he
    · cases he
    · simp only [elsO]
      by_cases h1 : ep = ep' ∧ n = es.length
      · simp only [if_pos h1] at he ⊢; cases he; rfl
      · simp only [if_neg h1] at he; cases he
  | none =>
    have : opApp H sz false (some x) (some (.sub id ep n lo hi)) = none := by simp only [opApp, Option.bind_some, appendD, he]; rfl
    rw [this]
    simp only [elems, arrAt] at he
    generalize H[id]? = o at he
    rcases o with _ | (_ | ⟨sz', pin, ep', es⟩)
    · rfl
    · rfl
    · simp only [elsO]
      by_cases h1 : ep = ep' ∧ n = es.length
      · simp only [if_pos h1] at he; cases he
      · simp only [if_neg h1]

/- appended and frozen: a part of a live array whose elements are frozen -/
def subE (ep n lo hi : Nat) : Option Obj → Option (List D)
  | some (.arr _ _ ep' es) => if ep = ep' ∧ n = es.length then some ((es.drop lo).take (hi - lo)) else none
  | _ => none
def appF (x : D) : Option (List D) → Option (D × Heap)
  | some ys0 => (mapO (fun d => (frz H depth d).map .t) ys0).bind fun ys => if headSize sz ys then appD (pins H (ys0.flatMap (arrs H depth))) sz x ys else none
  | none => none
@[go_sem] theorem appF_t (x : D) (ts : List T) : appF H sz x (some (ts.map .t)) = appD H sz x (ts.map .t) := by
  simp only [appF, mapO_frz, Option.bind_some, arrs_t, pins]
  by_cases h : headSize sz (ts.map D.t) = true
  · rw [if_pos h]
  · rw [if_neg h]; unfold appD; rw [if_neg h]
@[go_sem] theorem opApp_frz_sub (x : D) : opApp H sz true (some x) (some (.sub id ep n lo hi)) = appF H sz x (subE ep n lo hi H[id]?) := by
  have e : elems H (.sub id ep n lo hi) = subE ep n lo hi H[id]? := by
    simp only [elems, arrAt]
    generalize H[id]? = o
    rcases o with _ | (_ | ⟨sz', pin, ep', es⟩)
    · rfl
    · rfl
    · simp only [subE]
      by_cases h1 : ep = ep' ∧ n = es.length
      · simp only [if_pos h1]; rfl
      · simp only [if_neg h1]; rfl
  simp only [opApp, Option.bind_some, appendD, e]
  cases subE ep n lo hi H[id]? with
  | none => rfl
  | some ys0 =>
    simp only [Option.bind_some, appF, if_true]
    cases hm : mapO (fun d => (frz H depth d).map D.t) ys0 with
    | none => rfl
    | some ys =>
      simp only [Option.bind_some]
      refine (appD_is _ _ _ _).trans ?_
      by_cases h : headSize sz ys = true
      · rw [if_pos h]
      · rw [if_neg h]; unfold appD; rw [if_neg h]
@[go_sem] theorem subE_map (ep n lo hi sz : Nat) (pin : Bool) (ts : List T) : subE ep n lo hi (some (.arr sz pin ep (ts.map .t))) = if n = ts.length then some (((ts.drop lo).take (hi - lo)).map .t) else none := by
  simp only [subE, true_and, List.length_map, List.map_take, List.map_drop]
def opBsr (ds : List D) : Option (D × Heap) := if ds.all (fun d => d.cells.length == sz && d.solid) then some (.ref H.length 0 ds.length, H ++ [.arr sz false 0 ds]) else none
@[go_sem] theorem ev_bsr (call : Oracle) (get : X → Option D) (xs : List X) : evO call get H (.bsr xs sz) = (mapO get xs).bind (opBsr H sz) := (rfl)
@[go_sem] theorem opBsr_nil : opBsr H sz [] = some (.ref H.length 0 0, H ++ [.arr sz false 0 []]) := (rfl)
@[go_sem] theorem opBsr_int (k : IntKind) (n : Int) : opBsr H 1 [.t (.int k n)] = some (.ref H.length 0 1, H ++ [.arr 1 false 0 [.t (.int k n)]]) := (rfl)
@[go_sem] theorem opBsr_agg (cs : List D) : opBsr H sz [.agg cs] = if lenIs sz cs = true then some (.ref H.length 0 1, H ++ [.arr sz false 0 [.agg cs]]) else none := by
  simp only [opBsr, List.all_cons, List.all_nil, Bool.and_true, D.cells, D.solid]
  by_cases h : lenIs sz cs = true
  · rw [if_pos h, if_pos (by simpa using lenIs_iff.1 h)]; rfl
  · rw [if_neg h, if_neg (by intro e; exact h (lenIs_iff.2 (by simpa using e)))]
end

@[go_sem] theorem q_toNat_one' : (1 : Int).toNat = 1 := (rfl)
@[go_sem] theorem q_toNat_two : (2 : Int).toNat = 2 := (rfl)
@[go_sem] theorem q_toNat_three : (3 : Int).toNat = 3 := (rfl)

/- heaps that are not known cell by cell -/
section
variable {H t : Heap} {i j k : Nat} {o o' : Obj}
end

end Go.Ev

/- MADE BY PROGRAM (lib.py): the numbers of functions. -/
namespace Go.Ev.N
def law27_HeadsMore : Nat := 123
def law27_HeadsSplit : Nat := 124
def law27_HeadsAll : Nat := 125
def law27_HeadsTrue : Nat := 126
def law27_awake : Nat := 127
def heads_Count : Nat := 128
def ref27_Count : Nat := 129
def heads_Sure : Nat := 130
def ref27_Sure : Nat := 131
def heads_Maybe : Nat := 132
def ref27_Maybe : Nat := 133
def heads_Missing : Nat := 134
def ref27_Missing : Nat := 135
def heads_look : Nat := 136
def ref27_state : Nat := 137
def heads_persons : Nat := 138
def heads_Sure_1 : Nat := 139
def heads_Sure_1_1 : Nat := 140
def ref27_people : Nat := 141
def heads_Maybe_1 : Nat := 142
def heads_Maybe_1_1 : Nat := 143
def heads_Missing_1 : Nat := 144
def places_Possible : Nat := 145
def heads_look_1 : Nat := 146
def heads_look_2 : Nat := 147
def places_Possible_1 : Nat := 148
end Go.Ev.N

/- MADE BY PROGRAM (lib.py): the numbers of functions. -/
namespace Go.Ev.N
def law28_SmokeSources : Nat := 149
def law28_SmokeRuns : Nat := 150
def law28_SmokeMade : Nat := 151
def law28_SmokeGrows : Nat := 152
def law28_awake : Nat := 153
def smoke_Start : Nat := 154
def smoke_Travel : Nat := 155
def smoke_Change : Nat := 156
def law28_agree : Nat := 157
def smoke_Free : Nat := 158
def smoke_given : Nat := 159
def slices_Repeat_int_int : Nat := 160
def smoke_times_spread : Nat := 161
def smoke_Valid : Nat := 162
def ref28_Same : Nat := 163
def ref28_Filled : Nat := 164
def ref28_Free : Nat := 165
def smoke_Free_1 : Nat := 166
def plan_Valid : Nat := 167
def slices_ContainsFunc_api_Span_api_Span : Nat := 168
def smoke_given_1 : Nat := 169
def math_bits_Mul : Nat := 170
def smoke_times_reach : Nat := 171
def smoke_Valid_1 : Nat := 172
def plan_Check : Nat := 173
def slices_IndexFunc_api_Span_api_Span : Nat := 174
def math_bits_Mul32 : Nat := 175
def math_bits_Mul64 : Nat := 176
def plan_spanIn : Nat := 177
end Go.Ev.N

/- MADE BY PROGRAM (lib.py): the compact code of functions. -/
namespace Go.Ev.K
open Go.Ev
def law28_SmokeSources_l1b : C := (.seq (.ite [{ o := .mv (.v 14) }, { o := .fa (.v 12) 1 }, { o := .ld (.l 0) 1 false }, { o := .ln (.l 0) }, { o := .bin .lss (.l 3) (.l 0) }] [] 0 .skip (.exit 0)) (.seq (.blk 1 (.ite [{ o := .fa (.v 12) 1 }, { o := .ld (.l 0) 1 false }, { o := .mv (.v 14) }, { o := .ia (.l 1) (.l 0) 1 }, { o := .ld (.l 0) 1 false }, { o := .fa (.v 8) 1 }, { o := .ld (.l 0) 1 false }, { o := .mv (.v 14) }, { o := .ia (.l 1) (.l 0) 1 }, { o := .ld (.l 0) 1 false }, { o := .fa (.v 10) 1 }, { o := .ld (.l 0) 1 false }, { o := .mv (.v 14) }, { o := .ia (.l 1) (.l 0) 1 }, { o := .ld (.l 0) 1 false }, { o := .mn [.l 5, .l 0] }, { o := .bin .neq (.l 11) (.l 0) }] [] 0 (.seq (.reg [{ o := .mv (.b false), d := some 1 }] []) .ret) .skip)) (.reg [{ o := .mv (.v 14) }, { o := .bin .add (.l 0) (.i 1) }, { o := .mv (.l 0), d := some 14 }] [])))
def law28_SmokeSources_l1 : C := .loop true [0, 1, 2, 3, 4, 5, 6, 7, 9, 11, 13] K.law28_SmokeSources_l1b
/-- /law28.SmokeSources -/
def law28_SmokeSources : Fn := { nargs := 1, vars := [0, 2, 3, 4, 5, 6, 7, 8, 9, 10, 11, 12, 13, 14, 15], body := (.seq (.reg [{ o := .mv (.b false), d := some 1 }] []) (.seq (.ite [{ o := .mv (.v 0) }, { o := .ca N.made_Light 0 [] [.l 0] }, { o := .un .not (.l 0) }] [] 0 (.seq (.reg [{ o := .ca N.law28_awake 0 [] [] }, { o := .mv (.l 0), d := some 1 }] []) .ret) .skip) (.seq (.reg [{ o := .mv (.v 0) }, { o := .ca N.made_Roll 0 [] [.l 0] }, { o := .mv (.l 0), d := some 2 }] []) (.seq (.reg [{ o := .mv (.v 2) }, { o := .ca N.made_Dice_Mine 0 [] [.l 0] }, { o := .al [.nil, .nil] [], d := some 3 }, { o := .st (.l 0) (.l 1) 2 [] }] []) (.seq (.reg [{ o := .mv (.v 2) }, { o := .ld (.v 3) 2 true }, { o := .ca N.made_Dice_Flows 0 [] [.l 1, .l 0] }, { o := .mv (.l 0), d := some 4 }] []) (.seq (.reg [{ o := .mv (.v 2) }, { o := .fa (.v 3) 0 }, { o := .ld (.l 0) 1 false }, { o := .ln (.l 0) }, { o := .ca N.made_Dice_Next 0 [] [.l 3, .l 0] }, { o := .mv (.v 2) }, { o := .fa (.v 3) 0 }, { o := .ld (.l 0) 1 false }, { o := .ln (.l 0) }, { o := .ca N.made_Dice_Next 0 [] [.l 3, .l 0] }, { o := .mv (.l 5), d := some 5 }, { o := .mv (.l 1), d := some 6 }] [(7, 0)]) (.seq (.reg [{ o := .mv (.v 5) }, { o := .mv (.v 6) }, { o := .mn [.l 1, .l 0] }, { o := .mv (.v 5) }, { o := .mv (.v 6) }, { o := .mx [.l 1, .l 0] }, { o := .bs [.l 3, .l 0] 1 }, { o := .mv (.l 0), d := some 7 }] []) (.seq (.ite [{ o := .mv (.v 5) }, { o := .mv (.v 6) }, { o := .bin .eql (.l 1) (.l 0) }] [] 0 (.reg [{ o := .mv (.v 5) }, { o := .bs [.l 0] 1 }, { o := .mv (.l 0), d := some 7 }] []) .skip) (.seq (.reg [{ o := .ld (.v 3) 2 true }, { o := .mv (.v 4) }, { o := .mv (.v 5) }, { o := .bs [.l 0] 1 }, { o := .ca N.smoke_Start 0 [] [.l 3, .l 2, .l 0, .i 30] }, { o := .mv (.l 0) }, { o := .ex (.l 0) 0 }, { o := .ex (.l 1) 1 }, { o := .al [.t (.int .i64 (0)), .nil] [], d := some 8 }, { o := .st (.l 0) (.l 2) 2 [] }, { o := .mv (.l 2), d := some 9 }] []) (.seq (.reg [{ o := .ld (.v 3) 2 true }, { o := .mv (.v 4) }, { o := .mv (.v 6) }, { o := .bs [.l 0] 1 }, { o := .ca N.smoke_Start 0 [] [.l 3, .l 2, .l 0, .i 30] }, { o := .mv (.l 0) }, { o := .ex (.l 0) 0 }, { o := .ex (.l 1) 1 }, { o := .al [.t (.int .i64 (0)), .nil] [], d := some 10 }, { o := .st (.l 0) (.l 2) 2 [] }, { o := .mv (.l 2), d := some 11 }] []) (.seq (.reg [{ o := .ld (.v 3) 2 true }, { o := .mv (.v 4) }, { o := .mv (.v 7) }, { o := .ca N.smoke_Start 0 [] [.l 2, .l 1, .l 0, .i 30] }, { o := .mv (.l 0) }, { o := .ex (.l 0) 0 }, { o := .ex (.l 1) 1 }, { o := .al [.t (.int .i64 (0)), .nil] [], d := some 12 }, { o := .st (.l 0) (.l 2) 2 [] }, { o := .mv (.l 2), d := some 13 }] []) (.seq (.ite [{ o := .mv (.v 9) }, { o := .bin .neq (.l 0) (.i 0) }, { o := .mv (.l 0) }, { o := .mv (.v 11), g := some (0, false) }, { o := .bin .neq (.l 0) (.i 0), g := some (1, false) }, { o := .pk (.l 2) (.b true) (.l 0) }, { o := .mv (.l 0) }, { o := .mv (.v 13), g := some (0, false) }, { o := .bin .neq (.l 0) (.i 0), g := some (1, false) }, { o := .pk (.l 2) (.b true) (.l 0) }, { o := .mv (.l 0) }, { o := .fa (.v 8) 1, g := some (0, false) }, { o := .ld (.l 0) 1 false, g := some (1, false) }, { o := .ln (.l 0), g := some (2, false) }, { o := .fa (.v 3) 0, g := some (3, false) }, { o := .ld (.l 0) 1 false, g := some (4, false) }, { o := .ln (.l 0), g := some (5, false) }, { o := .bin .neq (.l 3) (.l 0), g := some (6, false) }, { o := .pk (.l 7) (.b true) (.l 0) }, { o := .mv (.l 0) }, { o := .fa (.v 10) 1, g := some (0, false) }, { o := .ld (.l 0) 1 false, g := some (1, false) }, { o := .ln (.l 0), g := some (2, false) }, { o := .fa (.v 3) 0, g := some (3, false) }, { o := .ld (.l 0) 1 false, g := some (4, false) }, { o := .ln (.l 0), g := some (5, false) }, { o := .bin .neq (.l 3) (.l 0), g := some (6, false) }, { o := .pk (.l 7) (.b true) (.l 0) }, { o := .mv (.l 0) }, { o := .fa (.v 12) 1, g := some (0, false) }, { o := .ld (.l 0) 1 false, g := some (1, false) }, { o := .ln (.l 0), g := some (2, false) }, { o := .fa (.v 3) 0, g := some (3, false) }, { o := .ld (.l 0) 1 false, g := some (4, false) }, { o := .ln (.l 0), g := some (5, false) }, { o := .bin .neq (.l 3) (.l 0), g := some (6, false) }, { o := .pk (.l 7) (.b true) (.l 0) }] [] 0 (.seq (.reg [{ o := .mv (.b false), d := some 1 }] []) .ret) .skip) (.seq (.seq (.reg [{ o := .mv (.i 0), d := some 14 }] []) (.blk 0 K.law28_SmokeSources_l1)) (.seq (.reg [{ o := .ca N.law28_awake 0 [] [] }, { o := .mv (.l 0), d := some 1 }] []) .ret)))))))))))))), res := [(1, none)] }
def law28_SmokeRuns_l1b : C := (.seq (.ite [{ o := .mv (.v 9) }, { o := .bin .gtr (.l 0) (.i 0) }, { o := .mv (.l 0) }, { o := .mv (.v 7), g := some (0, true) }, { o := .bin .eql (.l 0) (.i 0), g := some (1, true) }, { o := .pk (.l 2) (.l 0) (.b false) }] [] 0 .skip (.exit 0)) (.seq (.blk 1 (.seq (.ite [{ o := .ld (.v 6) 2 true }, { o := .mv (.v 8) }, { o := .ca N.smoke_Filled 0 [] [.l 1, .l 0] }, { o := .mv (.v 5) }, { o := .ca N.ref23_Has 0 [] [.l 1, .l 0] }, { o := .un .not (.l 0) }] [] 0 (.seq (.reg [{ o := .mv (.b false), d := some 1 }] []) .ret) .skip) (.seq (.reg [{ o := .mv (.v 2) }, { o := .fa (.v 3) 1 }, { o := .ld (.l 0) 1 false }, { o := .ln (.l 0) }, { o := .ca N.made_Dice_Next 0 [] [.l 3, .l 0] }, { o := .mv (.v 2) }, { o := .ca N.made_Dice_One 0 [] [.l 0, .i 2] }, { o := .mv (.l 2), d := some 10 }, { o := .mv (.l 1), d := some 11 }] []) (.seq (.reg [{ o := .fa (.v 3) 1 }, { o := .ld (.l 0) 1 false }, { o := .mv (.v 10) }, { o := .ia (.l 1) (.l 0) 10 }, { o := .fa (.l 0) 0 }, { o := .ld (.l 0) 1 false }, { o := .fa (.v 3) 1 }, { o := .ld (.l 0) 1 false }, { o := .mv (.v 10) }, { o := .ia (.l 1) (.l 0) 10 }, { o := .fa (.l 0) 1 }, { o := .ld (.l 0) 1 false }, { o := .mv (.l 6), d := some 12 }, { o := .mv (.l 1), d := some 13 }] []) (.seq (.ite [{ o := .mv (.v 11) }] [] 0 (.reg [{ o := .mv (.v 13) }, { o := .mv (.v 12) }, { o := .mv (.l 1), d := some 12 }, { o := .mv (.l 1), d := some 13 }] []) .skip) (.seq (.reg [{ o := .ld (.v 3) 2 true }, { o := .mv (.v 10) }, { o := .mv (.v 4) }, { o := .mv (.v 10) }, { o := .ia (.l 1) (.l 0) 2 }, { o := .ld (.l 0) 2 true }, { o := .mv (.v 11) }, { o := .ca N.smoke_Travel 0 [] [.l 6, .l 5, .l 1, .l 0] }, { o := .mv (.l 0), d := some 14 }] []) (.seq (.ite [{ o := .mv (.v 12) }, { o := .mv (.v 5) }, { o := .bin .neq (.l 1) (.l 0) }, { o := .mv (.l 0) }, { o := .mv (.v 14), g := some (0, false) }, { o := .bin .lss (.l 0) (.i 0), g := some (1, false) }, { o := .pk (.l 2) (.b true) (.l 0) }] [] 0 (.seq (.reg [{ o := .mv (.v 8) }, { o := .mv (.v 2) }, { o := .ca N.made_Dice_Next 0 [] [.l 0, .i 30] }, { o := .bin .add (.l 2) (.l 0) }, { o := .mv (.l 0), d := some 8 }] []) (.exit 1)) .skip) (.seq (.ite [{ o := .mv (.v 2) }, { o := .ca N.made_Dice_One 0 [] [.l 0, .i 3] }] [] 0 (.seq (.reg [{ o := .mv (.v 8) }, { o := .mv (.v 2) }, { o := .mv (.v 14) }, { o := .bin .add (.l 0) (.i 1) }, { o := .ca N.made_Dice_Next 0 [] [.l 2, .l 0] }, { o := .bin .add (.l 4) (.l 0) }, { o := .mv (.l 0), d := some 8 }] []) (.seq (.reg [{ o := .mv (.v 2) }, { o := .ld (.v 3) 2 true }, { o := .ca N.made_Dice_Flows 0 [] [.l 1, .l 0] }, { o := .mv (.l 0), d := some 15 }] []) (.seq (.reg [{ o := .ld (.v 3) 2 true }, { o := .mv (.v 4) }, { o := .ld (.v 3) 2 true }, { o := .mv (.v 15) }, { o := .ld (.v 6) 2 true }, { o := .mv (.v 8) }, { o := .ca N.smoke_Change 0 [] [.l 5, .l 4, .l 3, .l 2, .l 1, .l 0] }, { o := .mv (.l 0) }, { o := .ex (.l 0) 0 }, { o := .ex (.l 1) 1 }, { o := .st (.v 6) (.l 1) 2 [] }, { o := .mv (.l 1), d := some 7 }] []) (.seq (.reg [{ o := .mv (.v 15) }, { o := .mv (.v 13) }, { o := .mv (.l 1), d := some 4 }, { o := .mv (.l 1), d := some 5 }] []) (.exit 1))))) .skip) (.reg [{ o := .mv (.v 8) }, { o := .mv (.v 14) }, { o := .bin .add (.l 1) (.l 0) }, { o := .mv (.v 2) }, { o := .ca N.made_Dice_Next 0 [] [.l 0, .i 20] }, { o := .bin .add (.l 2) (.l 0) }, { o := .mv (.v 13) }, { o := .mv (.l 1), d := some 8 }, { o := .mv (.l 1), d := some 5 }] []))))))))) (.reg [{ o := .mv (.v 9) }, { o := .bin .sub (.l 0) (.i 1) }, { o := .mv (.l 0), d := some 9 }] [])))
def law28_SmokeRuns_l1 : C := .loop true [0, 1, 10, 11, 12, 13, 14, 15] K.law28_SmokeRuns_l1b
/-- /law28.SmokeRuns -/
def law28_SmokeRuns : Fn := { nargs := 1, vars := [0, 2, 3, 4, 5, 6, 7, 8, 9, 10, 11, 12, 13, 14, 15, 16], body := (.seq (.reg [{ o := .mv (.b false), d := some 1 }] []) (.seq (.ite [{ o := .mv (.v 0) }, { o := .ca N.made_Light 0 [] [.l 0] }, { o := .un .not (.l 0) }] [] 0 (.seq (.reg [{ o := .ca N.law28_awake 0 [] [] }, { o := .mv (.l 0), d := some 1 }] []) .ret) .skip) (.seq (.reg [{ o := .mv (.v 0) }, { o := .ca N.made_Roll 0 [] [.l 0] }, { o := .mv (.l 0), d := some 2 }] []) (.seq (.reg [{ o := .mv (.v 2) }, { o := .ca N.made_Dice_Mine 0 [] [.l 0] }, { o := .al [.nil, .nil] [], d := some 3 }, { o := .st (.l 0) (.l 1) 2 [] }] []) (.seq (.reg [{ o := .mv (.v 2) }, { o := .ld (.v 3) 2 true }, { o := .ca N.made_Dice_Flows 0 [] [.l 1, .l 0] }, { o := .mv (.l 0), d := some 4 }] []) (.seq (.reg [{ o := .mv (.v 2) }, { o := .fa (.v 3) 0 }, { o := .ld (.l 0) 1 false }, { o := .ln (.l 0) }, { o := .ca N.made_Dice_Next 0 [] [.l 3, .l 0] }, { o := .mv (.l 0), d := some 5 }] []) (.seq (.reg [{ o := .ld (.v 3) 2 true }, { o := .mv (.v 4) }, { o := .mv (.v 5) }, { o := .bs [.l 0] 1 }, { o := .ca N.smoke_Start 0 [] [.l 3, .l 2, .l 0, .i 0] }, { o := .mv (.l 0) }, { o := .ex (.l 0) 0 }, { o := .ex (.l 1) 1 }, { o := .al [.t (.int .i64 (0)), .nil] [], d := some 6 }, { o := .st (.l 0) (.l 2) 2 [] }, { o := .mv (.l 2), d := some 7 }] []) (.seq (.reg [{ o := .mv (.i 0), d := some 8 }] []) (.seq (.seq (.reg [{ o := .mv (.v 2) }, { o := .ca N.made_Dice_Next 0 [] [.l 0, .i 25] }, { o := .mv (.l 0), d := some 9 }] []) (.blk 0 K.law28_SmokeRuns_l1)) (.seq (.reg [{ o := .ca N.law28_awake 0 [] [] }, { o := .mv (.l 0) }, { o := .mv (.v 7), g := some (0, true) }, { o := .bin .eql (.l 0) (.i 0), g := some (1, true) }, { o := .pk (.l 2) (.l 0) (.b false) }, { o := .mv (.l 0) }, { o := .ld (.v 6) 2 true, g := some (0, true) }, { o := .mv (.v 8), g := some (1, true) }, { o := .ca N.smoke_Filled 0 [] [.l 1, .l 0], g := some (2, true) }, { o := .mv (.v 5), g := some (3, true) }, { o := .ca N.ref23_Has 0 [] [.l 1, .l 0], g := some (4, true) }, { o := .pk (.l 5) (.l 0) (.b false) }, { o := .mv (.l 0), d := some 1 }] []) .ret)))))))))), res := [(1, none)] }
def law28_SmokeMade_l2b : C := (.its  [{ o := .bin .lss (.v 17) (.v 16) }] [] 0 .skip (.exit 2) (.seq (.blk 3 (.seq (.reg [{ o := .ia (.v 15) (.v 17) 1 }, { o := .ld (.l 0) 1 false }, { o := .mv (.l 0), d := some 12 }] []) (.seq (.reg [{ o := .mv (.v 7) }, { o := .mv (.v 11) }, { o := .mv (.v 7) }, { o := .ln (.l 0) }, { o := .ca N.made_Mod 0 [] [.l 2, .l 0] }, { o := .ia (.l 4) (.l 0) 2 }, { o := .ld (.l 0) 2 true }, { o := .al [.t (.int .i64 (0)), .t (.int .i64 (0))] [], d := some 13 }, { o := .st (.l 0) (.l 1) 2 [] }] []) (.seq (.ite [{ o := .ld (.v 6) 2 true }, { o := .mv (.v 11) }, { o := .ld (.v 13) 2 true }, { o := .mv (.v 12) }, { o := .ca N.smoke_Travel 0 [] [.l 3, .l 2, .l 1, .l 0] }, { o := .ld (.v 6) 2 true }, { o := .mv (.v 11) }, { o := .ld (.v 13) 2 true }, { o := .mv (.v 12) }, { o := .ca N.ref28_Travel 0 [] [.l 3, .l 2, .l 1, .l 0] }, { o := .bin .neq (.l 5) (.l 0) }] [(5, 0), (7, 0)] 0 (.seq (.reg [{ o := .mv (.b false), d := some 4 }] []) .ret) .skip) (.ite [{ o := .ld (.v 3) 2 true }, { o := .ca N.ref28_Span 0 [] [.l 0] }, { o := .mv (.l 0) }, { o := .ld (.v 6) 2 true, g := some (0, true) }, { o := .mv (.v 1), g := some (1, true) }, { o := .ld (.v 3) 2 true, g := some (2, true) }, { o := .mv (.v 12), g := some (3, true) }, { o := .ca N.smoke_Travel 0 [] [.l 3, .l 2, .l 1, .l 0], g := some (4, true) }, { o := .ld (.v 6) 2 true, g := some (5, true) }, { o := .mv (.v 1), g := some (6, true) }, { o := .ld (.v 3) 2 true, g := some (7, true) }, { o := .mv (.v 12), g := some (8, true) }, { o := .ca N.ref28_Travel 0 [] [.l 3, .l 2, .l 1, .l 0], g := some (9, true) }, { o := .bin .neq (.l 5) (.l 0), g := some (10, true) }, { o := .mv (.l 0), g := some (11, true) }, { o := .ld (.v 6) 2 true, g := some (0, false) }, { o := .mv (.v 11), g := some (1, false) }, { o := .ld (.v 3) 2 true, g := some (2, false) }, { o := .mv (.v 12), g := some (3, false) }, { o := .ca N.smoke_Travel 0 [] [.l 3, .l 2, .l 1, .l 0], g := some (4, false) }, { o := .ld (.v 6) 2 true, g := some (5, false) }, { o := .mv (.v 11), g := some (6, false) }, { o := .ld (.v 3) 2 true, g := some (7, false) }, { o := .mv (.v 12), g := some (8, false) }, { o := .ca N.ref28_Travel 0 [] [.l 3, .l 2, .l 1, .l 0], g := some (9, false) }, { o := .bin .neq (.l 5) (.l 0), g := some (10, false) }, { o := .pk (.l 11) (.b true) (.l 0), g := some (23, true) }, { o := .pk (.l 24) (.l 0) (.b false) }] [(8, 2), (10, 2), (20, 13), (22, 13)] 0 (.seq (.reg [{ o := .mv (.b false), d := some 4 }] []) .ret) .skip))))) (.reg [{ o := .bin .add (.v 17) (.i 1) }, { o := .mv (.l 0), d := some 17 }] [])))
def law28_SmokeMade_l2 : C := .loop true [0, 2, 4, 12, 13, 14] K.law28_SmokeMade_l2b
def law28_SmokeMade_l1b : C := (.seq (.ite [{ o := .mv (.v 11) }, { o := .fa (.v 6) 1 }, { o := .ld (.l 0) 1 false }, { o := .ln (.l 0) }, { o := .bin .leq (.l 3) (.l 0) }] [] 0 .skip (.exit 0)) (.seq (.blk 1 (.seq (.reg [{ o := .bs [.b false, .b true] 1, d := some 15 }, { o := .ln (.l 0), d := some 16 }, { o := .mv (.i 0), d := some 17 }] []) (.blk 2 K.law28_SmokeMade_l2))) (.reg [{ o := .mv (.v 11) }, { o := .bin .add (.l 0) (.i 1) }, { o := .mv (.l 0), d := some 11 }] [])))
def law28_SmokeMade_l1 : C := .loop true [0, 2, 4, 12, 13, 14, 15, 16, 17] K.law28_SmokeMade_l1b
/-- /law28.SmokeMade -/
def law28_SmokeMade : Fn := { nargs := 3, vars := [0, 1, 2, 5, 6, 7, 8, 9, 10, 11, 12, 13, 15, 16, 17, 59, 60, 61], body := (.seq (.reg [{ o := .bx (.v 2) 2, d := some 3 }, { o := .mv (.b false), d := some 4 }] []) (.seq (.ite [{ o := .mv (.v 0) }, { o := .ca N.made_Light 0 [] [.l 0] }, { o := .un .not (.l 0) }] [] 0 (.seq (.reg [{ o := .ca N.law28_awake 0 [] [] }, { o := .mv (.l 0), d := some 4 }] []) .ret) .skip) (.seq (.reg [{ o := .mv (.v 0) }, { o := .ca N.made_Roll 0 [] [.l 0] }, { o := .mv (.l 0), d := some 5 }] []) (.seq (.reg [{ o := .mv (.v 5) }, { o := .ca N.made_Dice_Mine 0 [] [.l 0] }, { o := .al [.nil, .nil] [], d := some 6 }, { o := .st (.l 0) (.l 1) 2 [] }] []) (.seq (.reg [{ o := .mv (.v 5) }, { o := .ld (.v 6) 2 true }, { o := .ca N.made_Dice_Flows 0 [] [.l 1, .l 0] }, { o := .mv (.v 5) }, { o := .ld (.v 6) 2 true }, { o := .ca N.made_Dice_Flows 0 [] [.l 1, .l 0] }, { o := .mv (.l 3), d := some 7 }, { o := .mv (.l 1), d := some 8 }] [(4, 0)]) (.seq (.reg [{ o := .mv (.v 5) }, { o := .ld (.v 6) 2 true }, { o := .mv (.v 7) }, { o := .ca N.made_Dice_Spread 0 [] [.l 2, .l 1, .l 0] }, { o := .al [.t (.int .i64 (0)), .nil] [], d := some 9 }, { o := .st (.l 0) (.l 1) 2 [] }] []) (.seq (.reg [{ o := .ld (.v 6) 2 true }, { o := .al [.nil, .nil] [], d := some 10 }, { o := .st (.l 0) (.l 1) 2 [] }] []) (.seq (.reg [{ o := .fa (.v 6) 1 }, { o := .ld (.l 0) 1 false }, { o := .app (.c (.nil)) (.l 0) true 10 }, { o := .fa (.v 10) 1 }, { o := .st (.l 0) (.l 1) 1 [] }] []) (.seq (.reg [{ o := .fa (.v 10) 1 }, { o := .ld (.l 0) 1 false }, { o := .mv (.v 5) }, { o := .fa (.v 10) 1 }, { o := .ld (.l 0) 1 false }, { o := .ln (.l 0) }, { o := .ca N.made_Dice_Next 0 [] [.l 3, .l 0] }, { o := .mv (.v 5) }, { o := .ca N.made_Dice_One 0 [] [.l 0, .i 2] }, { o := .ia (.l 7) (.l 2) 10 }, { o := .fa (.l 0) 5 }, { o := .st (.l 0) (.l 2) 1 [] }] [(1, 7), (1, 9)]) (.seq (.seq (.reg [{ o := .mv (.i (-1)), d := some 11 }] []) (.blk 0 K.law28_SmokeMade_l1)) (.seq (.reg [{ o := .mv (.v 8) }, { o := .app (.c (.nil)) (.l 0) true 2 }, { o := .mv (.l 0), d := some 14 }] []) (.seq (.reg [{ o := .mv (.v 14) }, { o := .mv (.v 5) }, { o := .mv (.v 14) }, { o := .ln (.l 0) }, { o := .ca N.made_Dice_Next 0 [] [.l 2, .l 0] }, { o := .ld (.v 3) 2 true }, { o := .ia (.l 5) (.l 1) 2 }, { o := .st (.l 0) (.l 1) 2 [] }] [(5, 0)]) (.seq (.reg [{ o := .ca N.law28_awake 0 [] [] }, { o := .mv (.l 0) }, { o := .ld (.v 6) 2 true, g := some (0, true) }, { o := .mv (.v 7), g := some (1, true) }, { o := .ld (.v 10) 2 true, g := some (2, true) }, { o := .mv (.v 8), g := some (3, true) }, { o := .ld (.v 9) 2 true, g := some (4, true) }, { o := .mv (.v 5), g := some (5, true) }, { o := .fa (.v 6) 0, g := some (6, true) }, { o := .ld (.l 0) 1 false, g := some (7, true) }, { o := .ln (.l 0), g := some (8, true) }, { o := .ca N.made_Dice_Some 0 [] [.l 3, .l 0], g := some (9, true) }, { o := .fa (.v 9) 0, g := some (10, true) }, { o := .ld (.l 0) 1 false, g := some (11, true) }, { o := .mv (.v 5), g := some (12, true) }, { o := .bs [.i 0, .i 30, .i 200, .i (-1)] 1, g := some (13, true) }, { o := .ca N.made_Dice_Of 0 [] [.l 1, .l 0], g := some (14, true) }, { o := .bin .add (.l 3) (.l 0), g := some (15, true) }, { o := .ca N.law28_agree 0 [] [.l 15, .l 14, .l 13, .l 12, .l 11, .l 6, .l 0], g := some (16, true) }, { o := .pk (.l 17) (.l 0) (.b false) }, { o := .mv (.l 0) }, { o := .ld (.v 6) 2 true, g := some (0, true) }, { o := .mv (.v 14), g := some (1, true) }, { o := .ld (.v 10) 2 true, g := some (2, true) }, { o := .mv (.v 14), g := some (3, true) }, { o := .ld (.v 9) 2 true, g := some (4, true) }, { o := .bs [.i 0] 1, g := some (5, true) }, { o := .fa (.v 9) 0, g := some (6, true) }, { o := .ld (.l 0) 1 false, g := some (7, true) }, { o := .bin .add (.l 0) (.i 9), g := some (8, true) }, { o := .ca N.law28_agree 0 [] [.l 8, .l 7, .l 6, .l 5, .l 4, .l 3, .l 0], g := some (9, true) }, { o := .pk (.l 10) (.l 0) (.b false) }, { o := .mv (.l 0), d := some 4 }] [(2, 12), (2, 17), (4, 12), (4, 17), (6, 12), (6, 17), (13, 1), (13, 17), (15, 1), (21, 27), (23, 27), (25, 27), (28, 19)]) .ret))))))))))))), res := [(4, none)] }
def law28_SmokeGrows_l1b : C := (.seq (.ite [{ o := .mv (.v 15) }, { o := .fa (.v 6) 1 }, { o := .ld (.l 0) 1 false }, { o := .ln (.l 0) }, { o := .bin .lss (.l 3) (.l 0) }] [] 0 .skip (.exit 0)) (.seq (.blk 1 (.ite [{ o := .fa (.v 13) 1 }, { o := .ld (.l 0) 1 false }, { o := .mv (.v 15) }, { o := .ia (.l 1) (.l 0) 1 }, { o := .ld (.l 0) 1 false }, { o := .fa (.v 6) 1 }, { o := .ld (.l 0) 1 false }, { o := .mv (.v 15) }, { o := .ia (.l 1) (.l 0) 1 }, { o := .ld (.l 0) 1 false }, { o := .bin .gtr (.l 5) (.l 0) }] [] 0 (.seq (.reg [{ o := .mv (.b false), d := some 1 }] []) .ret) .skip)) (.reg [{ o := .mv (.v 15) }, { o := .bin .add (.l 0) (.i 1) }, { o := .mv (.l 0), d := some 15 }] [])))
def law28_SmokeGrows_l1 : C := .loop true [0, 1, 2, 4, 5, 7, 10, 11, 12, 14, 16, 17] K.law28_SmokeGrows_l1b
def law28_SmokeGrows_l2b : C := (.seq (.ite [{ o := .mv (.v 17) }, { o := .mv (.v 16) }, { o := .ln (.l 0) }, { o := .bin .lss (.l 2) (.l 0) }] [] 0 .skip (.exit 2)) (.seq (.blk 3 (.ite [{ o := .ld (.v 9) 2 true }, { o := .mv (.v 8) }, { o := .ca N.smoke_Filled 0 [] [.l 1, .l 0] }, { o := .mv (.v 16) }, { o := .mv (.v 17) }, { o := .ia (.l 1) (.l 0) 1 }, { o := .ld (.l 0) 1 false }, { o := .ca N.ref23_Has 0 [] [.l 4, .l 0] }, { o := .un .not (.l 0) }, { o := .mv (.l 0) }, { o := .ld (.v 9) 2 true, g := some (0, false) }, { o := .mv (.v 8), g := some (1, false) }, { o := .bin .add (.l 0) (.i 50), g := some (2, false) }, { o := .ca N.smoke_Free 0 [] [.l 2, .l 0], g := some (3, false) }, { o := .mv (.v 16), g := some (4, false) }, { o := .mv (.v 17), g := some (5, false) }, { o := .ia (.l 1) (.l 0) 1, g := some (6, false) }, { o := .ld (.l 0) 1 false, g := some (7, false) }, { o := .ca N.ref23_Has 0 [] [.l 4, .l 0], g := some (8, false) }, { o := .pk (.l 9) (.b true) (.l 0) }] [(5, 0), (6, 0), (16, 8), (17, 8)] 0 (.seq (.reg [{ o := .mv (.b false), d := some 1 }] []) .ret) .skip)) (.reg [{ o := .mv (.v 17) }, { o := .bin .add (.l 0) (.i 1) }, { o := .mv (.l 0), d := some 17 }] [])))
def law28_SmokeGrows_l2 : C := .loop true [0, 1, 2, 4, 5, 7, 10, 11, 12, 13, 14, 15] K.law28_SmokeGrows_l2b
/-- /law28.SmokeGrows -/
def law28_SmokeGrows : Fn := { nargs := 1, vars := [0, 2, 3, 4, 5, 6, 7, 8, 9, 10, 11, 12, 13, 14, 15, 16, 17, 18], body := (.seq (.reg [{ o := .mv (.b false), d := some 1 }] []) (.seq (.ite [{ o := .mv (.v 0) }, { o := .ca N.made_Light 0 [] [.l 0] }, { o := .un .not (.l 0) }] [] 0 (.seq (.reg [{ o := .ca N.law28_awake 0 [] [] }, { o := .mv (.l 0), d := some 1 }] []) .ret) .skip) (.seq (.reg [{ o := .mv (.v 0) }, { o := .ca N.made_Roll 0 [] [.l 0] }, { o := .mv (.l 0), d := some 2 }] []) (.seq (.reg [{ o := .mv (.v 2) }, { o := .ca N.made_Dice_Mine 0 [] [.l 0] }, { o := .al [.nil, .nil] [], d := some 3 }, { o := .st (.l 0) (.l 1) 2 [] }] []) (.seq (.reg [{ o := .mv (.v 2) }, { o := .ld (.v 3) 2 true }, { o := .ca N.made_Dice_Flows 0 [] [.l 1, .l 0] }, { o := .mv (.l 0), d := some 4 }] []) (.seq (.reg [{ o := .mv (.v 2) }, { o := .fa (.v 3) 0 }, { o := .ld (.l 0) 1 false }, { o := .ln (.l 0) }, { o := .ca N.made_Dice_Next 0 [] [.l 3, .l 0] }, { o := .bs [.l 0] 1 }, { o := .mv (.l 0), d := some 5 }] []) (.seq (.reg [{ o := .ld (.v 3) 2 true }, { o := .mv (.v 4) }, { o := .mv (.v 5) }, { o := .ca N.smoke_Start 0 [] [.l 2, .l 1, .l 0, .i 100] }, { o := .mv (.l 0) }, { o := .ex (.l 0) 0 }, { o := .ex (.l 1) 1 }, { o := .al [.t (.int .i64 (0)), .nil] [], d := some 6 }, { o := .st (.l 0) (.l 2) 2 [] }, { o := .mv (.l 2), d := some 7 }] []) (.seq (.reg [{ o := .mv (.v 2) }, { o := .ca N.made_Dice_Next 0 [] [.l 0, .i 200] }, { o := .bin .add (.i 100) (.l 0) }, { o := .mv (.l 0), d := some 8 }] []) (.seq (.reg [{ o := .al [.t (.int .i64 (0)), .nil] [], d := some 9 }, { o := .ld (.v 3) 2 true }, { o := .mv (.v 4) }, { o := .ld (.v 3) 2 true }, { o := .mv (.v 2) }, { o := .ld (.v 3) 2 true }, { o := .ca N.made_Dice_Flows 0 [] [.l 1, .l 0] }, { o := .ld (.v 6) 2 true }, { o := .mv (.v 8) }, { o := .ca N.smoke_Change 0 [] [.l 7, .l 6, .l 5, .l 2, .l 1, .l 0] }, { o := .mv (.l 0) }, { o := .ex (.l 0) 0 }, { o := .ex (.l 1) 1 }, { o := .st (.l 12) (.l 1) 2 [] }, { o := .mv (.l 1), d := some 10 }] [(0, 7), (0, 10), (1, 7), (3, 7), (7, 1)]) (.seq (.reg [{ o := .mv (.v 4) }, { o := .app (.c (.nil)) (.l 0) true 2 }, { o := .mv (.l 0), d := some 11 }] []) (.seq (.reg [{ o := .mv (.v 2) }, { o := .mv (.v 11) }, { o := .ln (.l 0) }, { o := .ca N.made_Dice_Next 0 [] [.l 2, .l 0] }, { o := .mv (.l 0), d := some 12 }] []) (.seq (.reg [{ o := .mv (.v 11) }, { o := .mv (.v 12) }, { o := .mv (.v 11) }, { o := .mv (.v 12) }, { o := .mv (.v 11) }, { o := .mv (.v 12) }, { o := .ia (.l 1) (.l 0) 2 }, { o := .fa (.l 0) 0 }, { o := .ld (.l 0) 1 false }, { o := .mv (.v 2) }, { o := .ca N.made_Dice_Next 0 [] [.l 0, .i 3000] }, { o := .bin .sub (.l 2) (.l 0) }, { o := .mx [.i (-1125899906842624), .l 0] }, { o := .mv (.v 11) }, { o := .mv (.v 12) }, { o := .ia (.l 1) (.l 0) 2 }, { o := .fa (.l 0) 1 }, { o := .ld (.l 0) 1 false }, { o := .mv (.v 2) }, { o := .ca N.made_Dice_Next 0 [] [.l 0, .i 3000] }, { o := .bin .add (.l 2) (.l 0) }, { o := .mn [.i 1125899906842624, .l 0] }, { o := .ia (.l 21) (.l 20) 2 }, { o := .fa (.l 0) 0 }, { o := .st (.l 0) (.l 11) 1 [] }, { o := .ia (.l 22) (.l 21) 2 }, { o := .fa (.l 0) 1 }, { o := .st (.l 0) (.l 5) 1 [] }] [(6, 11), (6, 20), (8, 11), (8, 20), (15, 0), (15, 20), (17, 0), (17, 20)]) (.seq (.reg [{ o := .ld (.v 3) 2 true }, { o := .mv (.v 11) }, { o := .mv (.v 5) }, { o := .ca N.smoke_Start 0 [] [.l 2, .l 1, .l 0, .i 100] }, { o := .mv (.l 0) }, { o := .ex (.l 0) 0 }, { o := .ex (.l 1) 1 }, { o := .al [.t (.int .i64 (0)), .nil] [], d := some 13 }, { o := .st (.l 0) (.l 2) 2 [] }, { o := .mv (.l 2), d := some 14 }] []) (.seq (.ite [{ o := .mv (.v 7) }, { o := .bin .neq (.l 0) (.i 0) }, { o := .mv (.l 0) }, { o := .mv (.v 10), g := some (0, false) }, { o := .bin .neq (.l 0) (.i 0), g := some (1, false) }, { o := .pk (.l 2) (.b true) (.l 0) }, { o := .mv (.l 0) }, { o := .mv (.v 14), g := some (0, false) }, { o := .bin .neq (.l 0) (.i 0), g := some (1, false) }, { o := .pk (.l 2) (.b true) (.l 0) }, { o := .mv (.l 0) }, { o := .fa (.v 6) 1, g := some (0, false) }, { o := .ld (.l 0) 1 false, g := some (1, false) }, { o := .ln (.l 0), g := some (2, false) }, { o := .fa (.v 3) 0, g := some (3, false) }, { o := .ld (.l 0) 1 false, g := some (4, false) }, { o := .ln (.l 0), g := some (5, false) }, { o := .bin .neq (.l 3) (.l 0), g := some (6, false) }, { o := .pk (.l 7) (.b true) (.l 0) }, { o := .mv (.l 0) }, { o := .fa (.v 13) 1, g := some (0, false) }, { o := .ld (.l 0) 1 false, g := some (1, false) }, { o := .ln (.l 0), g := some (2, false) }, { o := .fa (.v 6) 1, g := some (3, false) }, { o := .ld (.l 0) 1 false, g := some (4, false) }, { o := .ln (.l 0), g := some (5, false) }, { o := .bin .neq (.l 3) (.l 0), g := some (6, false) }, { o := .pk (.l 7) (.b true) (.l 0) }] [] 0 (.seq (.reg [{ o := .mv (.b false), d := some 1 }] []) .ret) .skip) (.seq (.seq (.reg [{ o := .mv (.i 0), d := some 15 }] []) (.blk 0 K.law28_SmokeGrows_l1)) (.seq (.reg [{ o := .ld (.v 6) 2 true }, { o := .mv (.v 8) }, { o := .ca N.smoke_Filled 0 [] [.l 1, .l 0] }, { o := .mv (.l 0), d := some 16 }] []) (.seq (.seq (.reg [{ o := .mv (.i 0), d := some 17 }] []) (.blk 2 K.law28_SmokeGrows_l2)) (.seq (.reg [{ o := .ca N.law28_awake 0 [] [] }, { o := .mv (.l 0) }, { o := .ld (.v 6) 2 true, g := some (0, true) }, { o := .mv (.v 8), g := some (1, true) }, { o := .ca N.smoke_Filled 0 [] [.l 1, .l 0], g := some (2, true) }, { o := .ln (.l 0), g := some (3, true) }, { o := .ld (.v 6) 2 true, g := some (4, true) }, { o := .mv (.v 8), g := some (5, true) }, { o := .ca N.smoke_Free 0 [] [.l 1, .l 0], g := some (6, true) }, { o := .ln (.l 0), g := some (7, true) }, { o := .bin .add (.l 4) (.l 0), g := some (8, true) }, { o := .fa (.v 3) 0, g := some (9, true) }, { o := .ld (.l 0) 1 false, g := some (10, true) }, { o := .ln (.l 0), g := some (11, true) }, { o := .bin .eql (.l 3) (.l 0), g := some (12, true) }, { o := .pk (.l 13) (.l 0) (.b false) }, { o := .mv (.l 0), d := some 1 }] [(6, 1), (12, 1), (12, 5)]) .ret)))))))))))))))))), res := [(1, none)] }
/-- /law28.awake -/
def law28_awake : Fn := { nargs := 0, vars := [0, 1, 2, 3, 4], body := (.seq (.reg [{ o := .mv (.b false), d := some 0 }] []) (.seq (.reg [{ o := .bd [.t (.int .i64 (0)), .t (.bool false)] [(1, 1, .b true)] }, { o := .bd [.t (.int .i64 (0)), .t (.bool false)] [] }, { o := .bs [.l 1, .l 0] 2 }, { o := .bd [.t (.int .i64 (0)), .t (.int .i64 (0))] [(0, 1, .i 1), (1, 1, .i 1)] }, { o := .bd [.t (.int .i64 (0)), .t (.int .i64 (0)), .t (.int .i64 (0)), .t (.int .i64 (0)), .t (.bool false), .t (.bool false), .t (.int .i64 (0)), .t (.int .i64 (0)), .t (.int .i64 (0)), .t (.int .i64 (0))] [(1, 1, .i 1), (2, 1, .i 100), (3, 1, .i 10), (4, 1, .b true), (6, 2, .l 0)] }, { o := .bs [.l 0] 10 }, { o := .bd [.nil, .nil] [(0, 1, .l 3), (1, 1, .l 0)] }, { o := .al [.nil, .nil] [], d := some 1 }, { o := .st (.l 0) (.l 1) 2 [] }] []) (.seq (.reg [{ o := .bd [.t (.int .i64 (0)), .t (.int .i64 (0))] [(0, 1, .i 5000), (1, 1, .i 5000)] }, { o := .bs [.l 0] 2 }, { o := .mv (.l 0), d := some 2 }] []) (.seq (.reg [{ o := .ld (.v 1) 2 true }, { o := .mv (.v 2) }, { o := .bs [.i 0] 1 }, { o := .ca N.smoke_Start 0 [] [.l 2, .l 1, .l 0, .i 50] }, { o := .mv (.l 0) }, { o := .ex (.l 0) 0 }, { o := .ex (.l 1) 1 }, { o := .al [.t (.int .i64 (0)), .nil] [], d := some 3 }, { o := .st (.l 0) (.l 2) 2 [] }, { o := .mv (.l 2), d := some 4 }] []) (.seq (.reg [{ o := .ld (.v 1) 2 true }, { o := .mv (.v 2) }, { o := .ia (.l 0) (.i 0) 2 }, { o := .ld (.l 0) 2 true }, { o := .ca N.smoke_Travel 0 [] [.l 3, .i 0, .l 0, .b false] }, { o := .bin .eql (.l 0) (.i 100) }, { o := .mv (.l 0) }, { o := .ld (.v 1) 2 true, g := some (0, true) }, { o := .mv (.v 2), g := some (1, true) }, { o := .ia (.l 0) (.i 0) 2, g := some (2, true) }, { o := .ld (.l 0) 2 true, g := some (3, true) }, { o := .ca N.smoke_Travel 0 [] [.l 3, .i 0, .l 0, .b true], g := some (4, true) }, { o := .bin .eql (.l 0) (.i (-1)), g := some (5, true) }, { o := .pk (.l 6) (.l 0) (.b false) }, { o := .mv (.l 0) }, { o := .ld (.v 1) 2 true, g := some (0, true) }, { o := .bd [.t (.int .i64 (0)), .t (.int .i64 (0))] [(0, 1, .i 4999), (1, 1, .i 5000)], g := some (1, true) }, { o := .ca N.smoke_Travel 0 [] [.l 1, .i 0, .l 0, .b true], g := some (2, true) }, { o := .bin .eql (.l 0) (.i 100), g := some (3, true) }, { o := .pk (.l 4) (.l 0) (.b false) }, { o := .mv (.l 0) }, { o := .mv (.v 4), g := some (0, true) }, { o := .bin .eql (.l 0) (.i 0), g := some (1, true) }, { o := .pk (.l 2) (.l 0) (.b false) }, { o := .mv (.l 0) }, { o := .fa (.v 3) 1, g := some (0, true) }, { o := .ld (.l 0) 1 false, g := some (1, true) }, { o := .ln (.l 0), g := some (2, true) }, { o := .bin .eql (.l 0) (.i 2), g := some (3, true) }, { o := .pk (.l 4) (.l 0) (.b false) }, { o := .mv (.l 0) }, { o := .fa (.v 3) 1, g := some (0, true) }, { o := .ld (.l 0) 1 false, g := some (1, true) }, { o := .ia (.l 0) (.i 1) 1, g := some (2, true) }, { o := .ld (.l 0) 1 false, g := some (3, true) }, { o := .bin .eql (.l 0) (.i 150), g := some (4, true) }, { o := .pk (.l 5) (.l 0) (.b false) }, { o := .mv (.l 0) }, { o := .ld (.v 3) 2 true, g := some (0, true) }, { o := .ca N.smoke_Filled 0 [] [.l 0, .i 149], g := some (1, true) }, { o := .ln (.l 0), g := some (2, true) }, { o := .bin .eql (.l 0) (.i 1), g := some (3, true) }, { o := .pk (.l 4) (.l 0) (.b false) }, { o := .mv (.l 0), d := some 0 }] []) .ret))))), res := [(0, none)] }
def smoke_Start_l1b : C := (.its  [{ o := .bin .lss (.v 11) (.v 10) }] [] 0 .skip (.exit 1) (.seq (.blk 2 (.seq (.reg [{ o := .ia (.v 9) (.v 11) 1 }, { o := .ld (.l 0) 1 false }, { o := .mv (.l 0), d := some 8 }] []) (.reg [{ o := .mv (.v 7) }, { o := .mv (.v 8) }, { o := .mv (.v 3) }, { o := .ia (.l 2) (.l 1) 1 }, { o := .st (.l 0) (.l 1) 1 [] }] []))) (.reg [{ o := .bin .add (.v 11) (.i 1) }, { o := .mv (.l 0), d := some 11 }] [])))
def smoke_Start_l1 : C := .loop true [0, 2, 6, 8] K.smoke_Start_l1b
/-- /smoke.Start -/
def smoke_Start : Fn := { nargs := 4, vars := [0, 1, 2, 3, 4, 8, 9, 10, 12, 38, 39, 40], body := (.seq (.reg [{ o := .bx (.v 0) 2, d := some 4 }, { o := .al [.t (.int .i64 (0)), .nil] [], d := some 5 }, { o := .mv (.i 0), d := some 6 }] []) (.seq (.blk 0 (.ite [{ o := .ld (.v 4) 2 true }, { o := .mv (.v 1) }, { o := .ca N.smoke_given 0 [] [.l 1, .l 0] }, { o := .un .not (.l 0) }, { o := .mv (.l 0) }] [] 0 (.seq (.reg [{ o := .bd [.t (.int .i64 (0)), .nil] [] }, { o := .st (.v 5) (.l 0) 2 [] }, { o := .mv (.i 6), d := some 6 }] []) .ret) (.ite [{ o := .mv (.v 2) }, { o := .fa (.v 4) 0 }, { o := .ld (.l 0) 1 false }, { o := .ln (.l 0) }, { o := .bin .sub (.l 0) (.i 1) }, { o := .ca N.lists_Rising 0 [] [.l 4, .i 0, .l 0] }, { o := .un .not (.l 0) }, { o := .mv (.l 0) }] [] 0 (.seq (.reg [{ o := .bd [.t (.int .i64 (0)), .nil] [] }, { o := .st (.v 5) (.l 0) 2 [] }, { o := .mv (.i 3), d := some 6 }] []) .ret) (.ite [{ o := .mv (.v 3) }, { o := .ca N.lists_In 0 [] [.l 0, .i 0, .i 2147483648] }, { o := .un .not (.l 0) }, { o := .mv (.l 0) }] [] 0 (.seq (.reg [{ o := .bd [.t (.int .i64 (0)), .nil] [] }, { o := .st (.v 5) (.l 0) 2 [] }, { o := .mv (.i 8), d := some 6 }] []) .ret) .skip)))) (.seq (.reg [{ o := .bs [.i 1099511627776] 1 }, { o := .fa (.v 4) 0 }, { o := .ld (.l 0) 1 false }, { o := .ln (.l 0) }, { o := .ca N.slices_Repeat_int_int 1 [] [.l 3, .l 0] }, { o := .mv (.l 0), d := some 7 }] []) (.seq (.seq (.reg [{ o := .mv (.v 2), d := some 9 }, { o := .ln (.l 0), d := some 10 }, { o := .mv (.i 0), d := some 11 }] []) (.blk 1 K.smoke_Start_l1)) (.seq (.reg [{ o := .ld (.v 4) 2 true }, { o := .mv (.v 1) }, { o := .mv (.v 7) }, { o := .bd [.nil, .nil, .nil, .nil] [(0, 2, .l 2), (2, 1, .l 1), (3, 1, .l 0)] }, { o := .ca N.smoke_times_spread 0 [0] [.l 0] }] []) (.seq (.reg [{ o := .mv (.v 3) }, { o := .mv (.v 7) }, { o := .bd [.t (.int .i64 (0)), .nil] [(0, 1, .l 1), (1, 1, .l 0)] }, { o := .st (.v 5) (.l 0) 2 [] }, { o := .mv (.i 0), d := some 6 }] []) .ret)))))), res := [(5, some (2, true)), (6, none)] }
/-- /smoke.Travel -/
def smoke_Travel : Fn := { nargs := 4, vars := [0, 1, 2, 3, 4, 6, 8, 9, 10, 11, 12], body := (.seq (.reg [{ o := .bx (.v 0) 2, d := some 4 }, { o := .bx (.v 2) 2, d := some 5 }, { o := .mv (.i 0), d := some 6 }] []) (.seq (.ite [{ o := .mv (.v 1) }, { o := .bin .lss (.l 0) (.i 0) }, { o := .mv (.l 0) }, { o := .mv (.v 1), g := some (0, false) }, { o := .fa (.v 4) 1, g := some (1, false) }, { o := .ld (.l 0) 1 false, g := some (2, false) }, { o := .ln (.l 0), g := some (3, false) }, { o := .bin .geq (.l 3) (.l 0), g := some (4, false) }, { o := .pk (.l 5) (.b true) (.l 0) }, { o := .mv (.l 0) }, { o := .fa (.v 4) 1, g := some (0, false) }, { o := .ld (.l 0) 1 false, g := some (1, false) }, { o := .mv (.v 1), g := some (2, false) }, { o := .ia (.l 1) (.l 0) 10, g := some (3, false) }, { o := .fa (.l 0) 5, g := some (4, false) }, { o := .ld (.l 0) 1 false, g := some (5, false) }, { o := .pk (.l 6) (.b true) (.l 0) }] [] 0 (.seq (.reg [{ o := .mv (.i (-1)), d := some 6 }] []) .ret) .skip) (.seq (.reg [{ o := .fa (.v 4) 1 }, { o := .ld (.l 0) 1 false }, { o := .mv (.v 1) }, { o := .ia (.l 1) (.l 0) 10 }, { o := .ld (.l 0) 10 true }, { o := .al [.t (.int .i64 (0)), .t (.int .i64 (0)), .t (.int .i64 (0)), .t (.int .i64 (0)), .t (.bool false), .t (.bool false), .t (.int .i64 (0)), .t (.int .i64 (0)), .t (.int .i64 (0)), .t (.int .i64 (0))] [], d := some 7 }, { o := .st (.l 0) (.l 1) 10 [] }] []) (.seq (.reg [{ o := .ld (.v 5) 2 true }, { o := .al [.t (.int .i64 (0)), .t (.int .i64 (0))] [], d := some 8 }, { o := .st (.l 0) (.l 1) 2 [] }] []) (.seq (.ite [{ o := .mv (.v 3) }] [] 0 (.reg [{ o := .fa (.v 5) 1 }, { o := .ld (.l 0) 1 false }, { o := .un .neg (.l 0) }, { o := .fa (.v 5) 0 }, { o := .ld (.l 0) 1 false }, { o := .un .neg (.l 0) }, { o := .bd [.t (.int .i64 (0)), .t (.int .i64 (0))] [(0, 1, .l 3), (1, 1, .l 0)] }, { o := .st (.v 8) (.l 0) 2 [] }] []) .skip) (.seq (.reg [{ o := .mv (.i (-1)), d := some 9 }] []) (.seq (.ite [{ o := .fa (.v 8) 1 }, { o := .ld (.l 0) 1 false }, { o := .fa (.v 7) 3 }, { o := .ld (.l 0) 1 false }, { o := .bin .mul (.i (-500)) (.l 0) }, { o := .bin .gtr (.l 3) (.l 0) }] [] 0 (.reg [{ o := .fa (.v 7) 2 }, { o := .ld (.l 0) 1 false }, { o := .mv (.l 0), d := some 9 }] []) .skip) (.seq (.ite [{ o := .fa (.v 8) 1 }, { o := .ld (.l 0) 1 false }, { o := .bin .gtr (.l 0) (.i 0) }] [] 0 (.seq (.reg [{ o := .fa (.v 7) 2 }, { o := .ld (.l 0) 1 false }, { o := .fa (.v 7) 3 }, { o := .ld (.l 0) 1 false }, { o := .bin .mul (.l 2) (.l 0) }, { o := .bin .mul (.l 0) (.i 1000) }, { o := .fa (.v 8) 1 }, { o := .ld (.l 0) 1 false }, { o := .bin .quo (.l 2) (.l 0) }, { o := .mv (.l 0), d := some 10 }] []) (.ite [{ o := .mv (.v 9) }, { o := .bin .lss (.l 0) (.i 0) }, { o := .mv (.l 0) }, { o := .mv (.v 10), g := some (0, false) }, { o := .mv (.v 9), g := some (1, false) }, { o := .bin .lss (.l 1) (.l 0), g := some (2, false) }, { o := .pk (.l 3) (.b true) (.l 0) }] [] 0 (.reg [{ o := .mv (.v 10) }, { o := .mv (.l 0), d := some 9 }] []) .skip)) .skip) (.seq (.reg [{ o := .mv (.v 9) }, { o := .mv (.l 0), d := some 6 }] []) .ret))))))))), res := [(6, none)] }
def smoke_Change_l1b : C := (.its  [{ o := .bin .lss (.v 18) (.v 17) }] [] 0 .skip (.exit 0) (.seq (.blk 1 (.seq (.reg [{ o := .mv (.v 18) }, { o := .ia (.v 16) (.v 18) 1 }, { o := .ld (.l 0) 1 false }, { o := .mv (.l 2), d := some 12 }, { o := .mv (.l 1), d := some 13 }] []) (.reg [{ o := .mv (.v 11) }, { o := .mv (.v 12) }, { o := .mv (.v 13) }, { o := .mv (.v 5) }, { o := .mx [.l 1, .l 0] }, { o := .ia (.l 4) (.l 3) 1 }, { o := .st (.l 0) (.l 1) 1 [] }] []))) (.reg [{ o := .bin .add (.v 18) (.i 1) }, { o := .mv (.l 0), d := some 18 }] [])))
def smoke_Change_l1 : C := .loop true [0, 2, 4, 10, 12, 13, 14, 15, 19, 20, 21] K.smoke_Change_l1b
def smoke_Change_l2b : C := (.its  [{ o := .bin .lss (.v 21) (.v 20) }] [] 0 .skip (.exit 2) (.seq (.blk 3 (.seq (.reg [{ o := .mv (.v 21) }, { o := .ia (.v 19) (.v 21) 10 }, { o := .ld (.l 0) 10 true }, { o := .al [.t (.int .i64 (0)), .t (.int .i64 (0)), .t (.int .i64 (0)), .t (.int .i64 (0)), .t (.bool false), .t (.bool false), .t (.int .i64 (0)), .t (.int .i64 (0)), .t (.int .i64 (0)), .t (.int .i64 (0))] [], d := some 15 }, { o := .mv (.l 3), d := some 14 }, { o := .st (.l 1) (.l 2) 10 [] }] []) (.seq (.ite [{ o := .fa (.v 8) 1 }, { o := .ld (.l 0) 1 false }, { o := .fa (.v 15) 0 }, { o := .ld (.l 0) 1 false }, { o := .ia (.l 2) (.l 0) 1 }, { o := .ld (.l 0) 1 false }, { o := .mv (.v 5) }, { o := .bin .leq (.l 1) (.l 0) }, { o := .mv (.l 0) }, { o := .ld (.v 6) 2 true, g := some (0, true) }, { o := .mv (.v 14), g := some (1, true) }, { o := .mv (.v 1), g := some (2, true) }, { o := .mv (.v 14), g := some (3, true) }, { o := .ia (.l 1) (.l 0) 2, g := some (4, true) }, { o := .ld (.l 0) 2 true, g := some (5, true) }, { o := .ca N.smoke_Travel 0 [] [.l 5, .l 4, .l 0, .b false], g := some (6, true) }, { o := .bin .geq (.l 0) (.i 0), g := some (7, true) }, { o := .pk (.l 8) (.l 0) (.b false) }] [] 0 (.reg [{ o := .mv (.v 11) }, { o := .fa (.v 15) 1 }, { o := .ld (.l 0) 1 false }, { o := .mv (.v 5) }, { o := .ia (.l 3) (.l 1) 1 }, { o := .st (.l 0) (.l 1) 1 [] }] []) .skip) (.ite [{ o := .fa (.v 8) 1 }, { o := .ld (.l 0) 1 false }, { o := .fa (.v 15) 1 }, { o := .ld (.l 0) 1 false }, { o := .ia (.l 2) (.l 0) 1 }, { o := .ld (.l 0) 1 false }, { o := .mv (.v 5) }, { o := .bin .leq (.l 1) (.l 0) }, { o := .mv (.l 0) }, { o := .ld (.v 6) 2 true, g := some (0, true) }, { o := .mv (.v 14), g := some (1, true) }, { o := .mv (.v 1), g := some (2, true) }, { o := .mv (.v 14), g := some (3, true) }, { o := .ia (.l 1) (.l 0) 2, g := some (4, true) }, { o := .ld (.l 0) 2 true, g := some (5, true) }, { o := .ca N.smoke_Travel 0 [] [.l 5, .l 4, .l 0, .b true], g := some (6, true) }, { o := .bin .geq (.l 0) (.i 0), g := some (7, true) }, { o := .pk (.l 8) (.l 0) (.b false) }] [] 0 (.reg [{ o := .mv (.v 11) }, { o := .fa (.v 15) 0 }, { o := .ld (.l 0) 1 false }, { o := .mv (.v 5) }, { o := .ia (.l 3) (.l 1) 1 }, { o := .st (.l 0) (.l 1) 1 [] }] []) .skip)))) (.reg [{ o := .bin .add (.v 21) (.i 1) }, { o := .mv (.l 0), d := some 21 }] [])))
def smoke_Change_l2 : C := .loop true [0, 2, 4, 10, 12, 13, 14, 15, 16, 17, 18] K.smoke_Change_l2b
/-- /smoke.Change -/
def smoke_Change : Fn := { nargs := 6, vars := [0, 1, 2, 3, 4, 5, 6, 8, 10, 12, 13, 14, 15, 16, 17, 18, 59, 60, 61, 74, 75, 76], body := (.seq (.reg [{ o := .bx (.v 0) 2, d := some 6 }, { o := .bx (.v 2) 2, d := some 7 }, { o := .bx (.v 4) 2, d := some 8 }, { o := .al [.t (.int .i64 (0)), .nil] [], d := some 9 }, { o := .mv (.i 0), d := some 10 }] []) (.seq (.ite [{ o := .ld (.v 6) 2 true }, { o := .mv (.v 1) }, { o := .ca N.smoke_given 0 [] [.l 1, .l 0] }, { o := .un .not (.l 0) }, { o := .mv (.l 0) }, { o := .ld (.v 6) 2 true, g := some (0, false) }, { o := .ld (.v 8) 2 true, g := some (1, false) }, { o := .ca N.smoke_Valid 0 [] [.l 1, .l 0], g := some (2, false) }, { o := .un .not (.l 0), g := some (3, false) }, { o := .pk (.l 4) (.b true) (.l 0) }, { o := .mv (.l 0) }, { o := .ld (.v 7) 2 true, g := some (0, false) }, { o := .mv (.v 3), g := some (1, false) }, { o := .ca N.smoke_given 0 [] [.l 1, .l 0], g := some (2, false) }, { o := .un .not (.l 0), g := some (3, false) }, { o := .pk (.l 4) (.b true) (.l 0) }, { o := .mv (.l 0) }, { o := .fa (.v 7) 0, g := some (0, false) }, { o := .ld (.l 0) 1 false, g := some (1, false) }, { o := .ln (.l 0), g := some (2, false) }, { o := .fa (.v 6) 0, g := some (3, false) }, { o := .ld (.l 0) 1 false, g := some (4, false) }, { o := .ln (.l 0), g := some (5, false) }, { o := .bin .neq (.l 3) (.l 0), g := some (6, false) }, { o := .pk (.l 7) (.b true) (.l 0) }] [] 0 (.seq (.reg [{ o := .ld (.v 8) 2 true }, { o := .st (.v 9) (.l 0) 2 [] }, { o := .mv (.i 6), d := some 10 }] []) .ret) .skip) (.seq (.ite [{ o := .mv (.v 5) }, { o := .fa (.v 8) 0 }, { o := .ld (.l 0) 1 false }, { o := .bin .lss (.l 2) (.l 0) }, { o := .mv (.l 0) }, { o := .mv (.v 5), g := some (0, false) }, { o := .bin .gtr (.l 0) (.i 2147483648), g := some (1, false) }, { o := .pk (.l 2) (.b true) (.l 0) }] [] 0 (.seq (.reg [{ o := .ld (.v 8) 2 true }, { o := .st (.v 9) (.l 0) 2 [] }, { o := .mv (.i 8), d := some 10 }] []) .ret) .skip) (.seq (.reg [{ o := .fa (.v 8) 1 }, { o := .ld (.l 0) 1 false }, { o := .ln (.l 0) }, { o := .mk (.l 0) (.t (.int .i64 (0))) 1 }, { o := .mv (.l 0), d := some 11 }] []) (.seq (.seq (.reg [{ o := .fa (.v 8) 1 }, { o := .ld (.l 0) 1 false, d := some 16 }, { o := .ln (.l 0), d := some 17 }, { o := .mv (.i 0), d := some 18 }] []) (.blk 0 K.smoke_Change_l1)) (.seq (.seq (.reg [{ o := .fa (.v 6) 1 }, { o := .ld (.l 0) 1 false, d := some 19 }, { o := .ln (.l 0), d := some 20 }, { o := .mv (.i 0), d := some 21 }] []) (.blk 2 K.smoke_Change_l2)) (.seq (.reg [{ o := .ld (.v 7) 2 true }, { o := .mv (.v 3) }, { o := .mv (.v 11) }, { o := .bd [.nil, .nil, .nil, .nil] [(0, 2, .l 2), (2, 1, .l 1), (3, 1, .l 0)] }, { o := .ca N.smoke_times_spread 0 [0] [.l 0] }] []) (.seq (.reg [{ o := .mv (.v 5) }, { o := .mv (.v 11) }, { o := .bd [.t (.int .i64 (0)), .nil] [(0, 1, .l 1), (1, 1, .l 0)] }, { o := .st (.v 9) (.l 0) 2 [] }, { o := .mv (.i 0), d := some 10 }] []) .ret)))))))), res := [(9, some (2, true)), (10, none)] }
/-- /law28.agree -/
def law28_agree : Fn := { nargs := 7, vars := [0, 1, 2, 3, 4, 5, 6, 7, 9, 11, 14, 15, 16, 17, 18, 19, 20, 21, 22], body := (.seq (.reg [{ o := .bx (.v 0) 2, d := some 7 }, { o := .bx (.v 2) 2, d := some 8 }, { o := .bx (.v 4) 2, d := some 9 }, { o := .mv (.b false), d := some 10 }] []) (.seq (.reg [{ o := .ld (.v 7) 2 true }, { o := .mv (.v 1) }, { o := .mv (.v 5) }, { o := .mv (.v 6) }, { o := .ca N.smoke_Start 0 [] [.l 3, .l 2, .l 1, .l 0] }, { o := .mv (.l 0) }, { o := .ex (.l 0) 0 }, { o := .ex (.l 1) 1 }, { o := .al [.t (.int .i64 (0)), .nil] [], d := some 11 }, { o := .st (.l 0) (.l 2) 2 [] }, { o := .mv (.l 2), d := some 12 }] []) (.seq (.reg [{ o := .ld (.v 7) 2 true }, { o := .mv (.v 1) }, { o := .mv (.v 5) }, { o := .mv (.v 6) }, { o := .ca N.ref28_Start 0 [] [.l 3, .l 2, .l 1, .l 0] }, { o := .mv (.l 0) }, { o := .ex (.l 0) 0 }, { o := .ex (.l 1) 1 }, { o := .al [.t (.int .i64 (0)), .nil] [], d := some 13 }, { o := .st (.l 0) (.l 2) 2 [] }, { o := .mv (.l 2), d := some 14 }] []) (.seq (.reg [{ o := .ld (.v 7) 2 true }, { o := .mv (.v 1) }, { o := .ld (.v 8) 2 true }, { o := .mv (.v 3) }, { o := .ld (.v 9) 2 true }, { o := .mv (.v 6) }, { o := .ca N.smoke_Change 0 [] [.l 5, .l 4, .l 3, .l 2, .l 1, .l 0] }, { o := .mv (.l 0) }, { o := .ex (.l 0) 0 }, { o := .ex (.l 1) 1 }, { o := .al [.t (.int .i64 (0)), .nil] [], d := some 15 }, { o := .st (.l 0) (.l 2) 2 [] }, { o := .mv (.l 2), d := some 16 }] []) (.seq (.reg [{ o := .ld (.v 7) 2 true }, { o := .mv (.v 1) }, { o := .ld (.v 8) 2 true }, { o := .mv (.v 3) }, { o := .ld (.v 9) 2 true }, { o := .mv (.v 6) }, { o := .ca N.ref28_Change 0 [] [.l 5, .l 4, .l 3, .l 2, .l 1, .l 0] }, { o := .mv (.l 0) }, { o := .ex (.l 0) 0 }, { o := .ex (.l 1) 1 }, { o := .al [.t (.int .i64 (0)), .nil] [], d := some 17 }, { o := .st (.l 0) (.l 2) 2 [] }, { o := .mv (.l 2), d := some 18 }] []) (.seq (.reg [{ o := .ld (.v 7) 2 true }, { o := .ld (.v 9) 2 true }, { o := .ca N.smoke_Valid 0 [] [.l 1, .l 0] }, { o := .ld (.v 7) 2 true }, { o := .ld (.v 9) 2 true }, { o := .ca N.ref28_Valid 0 [] [.l 1, .l 0] }, { o := .eqk (.bool) false (.l 3) (.l 0) }, { o := .mv (.l 0) }, { o := .mv (.v 12), g := some (0, true) }, { o := .mv (.v 14), g := some (1, true) }, { o := .bin .eql (.l 1) (.l 0), g := some (2, true) }, { o := .pk (.l 3) (.l 0) (.b false) }, { o := .mv (.l 0) }, { o := .ld (.v 11) 2 true, g := some (0, true) }, { o := .ld (.v 13) 2 true, g := some (1, true) }, { o := .ca N.ref28_Same 0 [] [.l 1, .l 0], g := some (2, true) }, { o := .pk (.l 3) (.l 0) (.b false) }, { o := .mv (.l 0) }, { o := .mv (.v 16), g := some (0, true) }, { o := .mv (.v 18), g := some (1, true) }, { o := .bin .eql (.l 1) (.l 0), g := some (2, true) }, { o := .pk (.l 3) (.l 0) (.b false) }, { o := .mv (.l 0) }, { o := .ld (.v 15) 2 true, g := some (0, true) }, { o := .ld (.v 17) 2 true, g := some (1, true) }, { o := .ca N.ref28_Same 0 [] [.l 1, .l 0], g := some (2, true) }, { o := .pk (.l 3) (.l 0) (.b false) }, { o := .mv (.l 0) }, { o := .ld (.v 9) 2 true, g := some (0, true) }, { o := .mv (.v 6), g := some (1, true) }, { o := .ca N.smoke_Filled 0 [] [.l 1, .l 0], g := some (2, true) }, { o := .ld (.v 9) 2 true, g := some (3, true) }, { o := .mv (.v 6), g := some (4, true) }, { o := .ca N.ref28_Filled 0 [] [.l 1, .l 0], g := some (5, true) }, { o := .ca N.ref23_SameInts 0 [] [.l 3, .l 0], g := some (6, true) }, { o := .pk (.l 7) (.l 0) (.b false) }, { o := .mv (.l 0) }, { o := .ld (.v 9) 2 true, g := some (0, true) }, { o := .mv (.v 6), g := some (1, true) }, { o := .ca N.smoke_Free 0 [] [.l 1, .l 0], g := some (2, true) }, { o := .ld (.v 9) 2 true, g := some (3, true) }, { o := .mv (.v 6), g := some (4, true) }, { o := .ca N.ref28_Free 0 [] [.l 1, .l 0], g := some (5, true) }, { o := .ca N.ref23_SameInts 0 [] [.l 3, .l 0], g := some (6, true) }, { o := .pk (.l 7) (.l 0) (.b false) }, { o := .mv (.l 0), d := some 10 }] [(3, 0), (4, 0), (31, 26), (40, 35)]) .ret)))))), res := [(10, none)] }
/-- /smoke.Free -/
def smoke_Free : Fn := { nargs := 2, vars := [0, 1, 2, 3, 4], body := (.seq (.reg [{ o := .bx (.v 0) 2, d := some 2 }, { o := .bx (.v 1) 1, d := some 3 }, { o := .mv (.c (.nil)), d := some 4 }] []) (.seq (.reg [{ o := .fa (.v 2) 1 }, { o := .ld (.l 0) 1 false }, { o := .ln (.l 0) }, { o := .mf N.smoke_Free_1 [.v 2, .v 3] }, { o := .ca N.lists_Where 0 [] [.l 1, .l 0] }, { o := .mv (.l 0), d := some 4 }] []) .ret)), res := [(4, none)] }
/-- /smoke.given -/
def smoke_given : Fn := { nargs := 2, vars := [0, 1, 2, 4], body := (.seq (.reg [{ o := .bx (.v 0) 2, d := some 2 }, { o := .mv (.b false), d := some 3 }] []) (.seq (.reg [{ o := .ld (.v 2) 2 true }, { o := .ca N.plan_Valid 0 [] [.l 0] }, { o := .mv (.l 0) }, { o := .mv (.v 1), g := some (0, true) }, { o := .ln (.l 0), g := some (1, true) }, { o := .fa (.v 2) 1, g := some (2, true) }, { o := .ld (.l 0) 1 false, g := some (3, true) }, { o := .ln (.l 0), g := some (4, true) }, { o := .bin .eql (.l 3) (.l 0), g := some (5, true) }, { o := .pk (.l 6) (.l 0) (.b false) }, { o := .mv (.l 0) }, { o := .mv (.v 1), g := some (0, true) }, { o := .ca N.slices_ContainsFunc_api_Span_api_Span 0 [] [.l 0, .c (.fn N.smoke_given_1 [])], g := some (1, true) }, { o := .un .not (.l 0), g := some (2, true) }, { o := .pk (.l 3) (.l 0) (.b false) }, { o := .mv (.l 0), d := some 3 }] []) .ret)), res := [(3, none)] }
def slices_Repeat_int_int_l1b : C := (.seq (.ite [{ o := .mv (.v 6) }, { o := .mv (.v 5) }, { o := .ln (.l 0) }, { o := .bin .lss (.l 2) (.l 0) }] [] 0 .skip (.exit 0)) (.blk 1 (.reg [{ o := .mv (.v 6) }, { o := .mv (.v 5) }, { o := .mv (.v 6) }, { o := .sc (.l 1) (some (.l 0)) none 1 }, { o := .mv (.v 5) }, { o := .mv (.v 6) }, { o := .sc (.l 1) none (some (.l 0)) 1 }, { o := .cp (.l 3) (.l 0) 1 }, { o := .bin .add (.l 7) (.l 0) }, { o := .mv (.l 0), d := some 6 }] [])))
def slices_Repeat_int_int_l1 : C := .loop true [0, 1, 2, 3, 4] K.slices_Repeat_int_int_l1b
/-- slices.Repeat[[]int,int] -/
def slices_Repeat_int_int : Fn := { nargs := 2, vars := [0, 1, 4, 5, 6, 7, 8], body := (.seq (.reg [{ o := .mv (.c (.nil)), d := some 2 }] []) (.seq (.ite [{ o := .mv (.v 1) }, { o := .bin .lss (.l 0) (.i 0) }] [] 0 .fail .skip) (.seq (.reg [{ o := .mv (.v 0) }, { o := .ln (.l 0) }, { o := .cv .u64 (.l 0) }, { o := .mv (.v 1) }, { o := .cv .u64 (.l 0) }, { o := .ca N.math_bits_Mul 0 [] [.l 2, .l 0] }, { o := .mv (.l 0) }, { o := .ex (.l 0) 0 }, { o := .ex (.l 1) 1 }, { o := .mv (.l 1), d := some 3 }, { o := .mv (.l 1), d := some 4 }] []) (.seq (.ite [{ o := .mv (.v 3) }, { o := .bin .gtr (.l 0) (.c (.t (.int .u64 (0)))) }, { o := .mv (.l 0) }, { o := .mv (.v 4), g := some (0, false) }, { o := .bin .gtr (.l 0) (.c (.t (.int .u64 (9223372036854775807)))), g := some (1, false) }, { o := .pk (.l 2) (.b true) (.l 0) }] [] 0 .fail .skip) (.seq (.reg [{ o := .mv (.v 4) }, { o := .cv .i64 (.l 0) }, { o := .mk (.l 0) (.t (.int .i64 (0))) 1 }, { o := .mv (.l 0), d := some 5 }] []) (.seq (.reg [{ o := .mv (.v 5) }, { o := .mv (.v 0) }, { o := .cp (.l 1) (.l 0) 1 }, { o := .mv (.l 0), d := some 6 }] []) (.seq (.blk 0 K.slices_Repeat_int_int_l1) (.seq (.reg [{ o := .mv (.v 5) }, { o := .mv (.l 0), d := some 2 }] []) .ret)))))))), res := [(2, none)] }
def smoke_times_spread_l2b : C := (.its  [{ o := .bin .lss (.v 9) (.v 8) }] [] 0 .skip (.exit 2) (.seq (.blk 3 (.seq (.reg [{ o := .mv (.v 9) }, { o := .ia (.v 7) (.v 9) 10 }, { o := .ld (.l 0) 10 true }, { o := .al [.t (.int .i64 (0)), .t (.int .i64 (0)), .t (.int .i64 (0)), .t (.int .i64 (0)), .t (.bool false), .t (.bool false), .t (.int .i64 (0)), .t (.int .i64 (0)), .t (.int .i64 (0)), .t (.int .i64 (0))] [], d := some 4 }, { o := .mv (.l 3), d := some 3 }, { o := .st (.l 1) (.l 2) 10 [] }] []) (.seq (.reg [{ o := .ld (.v 1) 4 true }, { o := .mv (.v 3) }, { o := .fa (.v 4) 0 }, { o := .ld (.l 0) 1 false }, { o := .fa (.v 4) 1 }, { o := .ld (.l 0) 1 false }, { o := .ca N.smoke_times_reach 0 [0] [.l 5, .l 4, .l 2, .l 0, .b false] }, { o := .mv (.l 0), d := some 5 }] []) (.seq (.reg [{ o := .ld (.v 1) 4 true }, { o := .mv (.v 3) }, { o := .fa (.v 4) 1 }, { o := .ld (.l 0) 1 false }, { o := .fa (.v 4) 0 }, { o := .ld (.l 0) 1 false }, { o := .ca N.smoke_times_reach 0 [0] [.l 5, .l 4, .l 2, .l 0, .b true] }, { o := .mv (.l 0), d := some 6 }] []) (.reg [{ o := .mv (.v 2) }, { o := .mv (.l 0) }, { o := .mv (.v 5), g := some (0, false) }, { o := .pk (.l 1) (.b true) (.l 0) }, { o := .mv (.l 0) }, { o := .mv (.v 6), g := some (0, false) }, { o := .pk (.l 1) (.b true) (.l 0) }, { o := .mv (.l 0), d := some 2 }] []))))) (.reg [{ o := .bin .add (.v 9) (.i 1) }, { o := .mv (.l 0), d := some 9 }] [])))
def smoke_times_spread_l2 : C := .loop true [0, 3, 4, 5, 6] K.smoke_times_spread_l2b
def smoke_times_spread_l1b : C := (.seq (.ite [{ o := .mv (.v 2) }] [] 0 .skip (.exit 0)) (.blk 1 (.seq (.reg [{ o := .mv (.b false), d := some 2 }] []) (.seq (.reg [{ o := .fa (.v 1) 0 }, { o := .fa (.l 0) 1 }, { o := .ld (.l 0) 1 false, d := some 7 }, { o := .ln (.l 0), d := some 8 }, { o := .mv (.i 0), d := some 9 }] []) (.blk 2 K.smoke_times_spread_l2)))))
def smoke_times_spread_l1 : C := .loop true [0, 3, 4, 5, 6, 7, 8, 9] K.smoke_times_spread_l1b
/-- (/smoke.times).spread -/
def smoke_times_spread : Fn := { nargs := 1, vars := [0, 1, 2, 3, 4, 5, 6, 10, 11, 12], body := (.seq (.reg [{ o := .bx (.v 0) 4, d := some 1 }] []) (.seq (.reg [{ o := .mv (.b true), d := some 2 }] []) (.blk 0 K.smoke_times_spread_l1))), res := [] }
/-- /smoke.Valid -/
def smoke_Valid : Fn := { nargs := 2, vars := [0, 1, 2, 3, 4], body := (.seq (.reg [{ o := .bx (.v 0) 2, d := some 2 }, { o := .bx (.v 1) 2, d := some 3 }, { o := .mv (.b false), d := some 4 }] []) (.seq (.reg [{ o := .ld (.v 2) 2 true }, { o := .ca N.plan_Valid 0 [] [.l 0] }, { o := .mv (.l 0) }, { o := .fa (.v 3) 1, g := some (0, true) }, { o := .ld (.l 0) 1 false, g := some (1, true) }, { o := .ln (.l 0), g := some (2, true) }, { o := .fa (.v 2) 0, g := some (3, true) }, { o := .ld (.l 0) 1 false, g := some (4, true) }, { o := .ln (.l 0), g := some (5, true) }, { o := .bin .eql (.l 3) (.l 0), g := some (6, true) }, { o := .pk (.l 7) (.l 0) (.b false) }, { o := .mv (.l 0) }, { o := .fa (.v 3) 0, g := some (0, true) }, { o := .ld (.l 0) 1 false, g := some (1, true) }, { o := .ca N.lists_In 0 [] [.l 0, .i 0, .i 2147483648], g := some (2, true) }, { o := .pk (.l 3) (.l 0) (.b false) }, { o := .mv (.l 0) }, { o := .fa (.v 3) 1, g := some (0, true) }, { o := .ld (.l 0) 1 false, g := some (1, true) }, { o := .mf N.smoke_Valid_1 [.v 3], g := some (2, true) }, { o := .ca N.slices_ContainsFunc_int_int 0 [] [.l 1, .l 0], g := some (3, true) }, { o := .un .not (.l 0), g := some (4, true) }, { o := .pk (.l 5) (.l 0) (.b false) }, { o := .mv (.l 0), d := some 4 }] []) .ret)), res := [(4, none)] }
/-- /ref28.Same -/
def ref28_Same : Fn := { nargs := 2, vars := [0, 1, 2, 3, 4], body := (.seq (.reg [{ o := .bx (.v 0) 2, d := some 2 }, { o := .bx (.v 1) 2, d := some 3 }, { o := .mv (.b false), d := some 4 }] []) (.seq (.reg [{ o := .fa (.v 2) 0 }, { o := .ld (.l 0) 1 false }, { o := .fa (.v 3) 0 }, { o := .ld (.l 0) 1 false }, { o := .bin .eql (.l 2) (.l 0) }, { o := .mv (.l 0) }, { o := .fa (.v 2) 1, g := some (0, true) }, { o := .ld (.l 0) 1 false, g := some (1, true) }, { o := .fa (.v 3) 1, g := some (2, true) }, { o := .ld (.l 0) 1 false, g := some (3, true) }, { o := .ca N.ref23_SameInts 0 [] [.l 2, .l 0], g := some (4, true) }, { o := .pk (.l 5) (.l 0) (.b false) }, { o := .mv (.l 0), d := some 4 }] []) .ret)), res := [(4, none)] }
def ref28_Filled_l1b : C := (.seq (.ite [{ o := .mv (.v 5) }, { o := .fa (.v 2) 1 }, { o := .ld (.l 0) 1 false }, { o := .ln (.l 0) }, { o := .bin .lss (.l 3) (.l 0) }] [] 0 .skip (.exit 0)) (.seq (.blk 1 (.ite [{ o := .fa (.v 2) 1 }, { o := .ld (.l 0) 1 false }, { o := .mv (.v 5) }, { o := .ia (.l 1) (.l 0) 1 }, { o := .ld (.l 0) 1 false }, { o := .mv (.v 1) }, { o := .bin .leq (.l 1) (.l 0) }] [] 0 (.reg [{ o := .mv (.v 4) }, { o := .mv (.v 5) }, { o := .bs [.l 0] 1 }, { o := .app (.l 2) (.l 0) true 1 }, { o := .mv (.l 0), d := some 4 }] []) .skip)) (.reg [{ o := .mv (.v 5) }, { o := .bin .add (.l 0) (.i 1) }, { o := .mv (.l 0), d := some 5 }] [])))
def ref28_Filled_l1 : C := .loop true [0, 3] K.ref28_Filled_l1b
/-- /ref28.Filled -/
def ref28_Filled : Fn := { nargs := 2, vars := [0, 1, 2, 4, 5, 6], body := (.seq (.reg [{ o := .bx (.v 0) 2, d := some 2 }, { o := .mv (.c (.nil)), d := some 3 }] []) (.seq (.reg [{ o := .nw 1, d := some 4 }] []) (.seq (.seq (.reg [{ o := .mv (.i 0), d := some 5 }] []) (.blk 0 K.ref28_Filled_l1)) (.seq (.reg [{ o := .mv (.v 4) }, { o := .mv (.l 0), d := some 3 }] []) .ret)))), res := [(3, none)] }
def ref28_Free_l1b : C := (.seq (.ite [{ o := .mv (.v 5) }, { o := .fa (.v 2) 1 }, { o := .ld (.l 0) 1 false }, { o := .ln (.l 0) }, { o := .bin .lss (.l 3) (.l 0) }] [] 0 .skip (.exit 0)) (.seq (.blk 1 (.ite [{ o := .fa (.v 2) 1 }, { o := .ld (.l 0) 1 false }, { o := .mv (.v 5) }, { o := .ia (.l 1) (.l 0) 1 }, { o := .ld (.l 0) 1 false }, { o := .mv (.v 1) }, { o := .bin .gtr (.l 1) (.l 0) }] [] 0 (.reg [{ o := .mv (.v 4) }, { o := .mv (.v 5) }, { o := .bs [.l 0] 1 }, { o := .app (.l 2) (.l 0) true 1 }, { o := .mv (.l 0), d := some 4 }] []) .skip)) (.reg [{ o := .mv (.v 5) }, { o := .bin .add (.l 0) (.i 1) }, { o := .mv (.l 0), d := some 5 }] [])))
def ref28_Free_l1 : C := .loop true [0, 3] K.ref28_Free_l1b
/-- /ref28.Free -/
def ref28_Free : Fn := { nargs := 2, vars := [0, 1, 2, 4, 5, 6], body := (.seq (.reg [{ o := .bx (.v 0) 2, d := some 2 }, { o := .mv (.c (.nil)), d := some 3 }] []) (.seq (.reg [{ o := .nw 1, d := some 4 }] []) (.seq (.seq (.reg [{ o := .mv (.i 0), d := some 5 }] []) (.blk 0 K.ref28_Free_l1)) (.seq (.reg [{ o := .mv (.v 4) }, { o := .mv (.l 0), d := some 3 }] []) .ret)))), res := [(3, none)] }
/-- /smoke.Free.1 -/
def smoke_Free_1 : Fn := { nargs := 3, vars := [0, 1, 2, 4], body := (.seq (.reg [{ o := .mv (.b false), d := some 3 }] []) (.seq (.reg [{ o := .fa (.v 1) 1 }, { o := .ld (.l 0) 1 false }, { o := .mv (.v 0) }, { o := .ia (.l 1) (.l 0) 1 }, { o := .ld (.l 0) 1 false }, { o := .ld (.v 2) 1 false }, { o := .bin .gtr (.l 1) (.l 0) }, { o := .mv (.l 0), d := some 3 }] []) .ret)), res := [(3, none)] }
/-- /plan.Valid -/
def plan_Valid : Fn := { nargs := 1, vars := [0, 1, 2], body := (.seq (.reg [{ o := .bx (.v 0) 2, d := some 1 }, { o := .mv (.b false), d := some 2 }] []) (.seq (.reg [{ o := .ld (.v 1) 2 true }, { o := .ca N.plan_Check 0 [] [.l 0] }, { o := .bin .eql (.l 0) (.i 0) }, { o := .mv (.l 0), d := some 2 }] []) .ret)), res := [(2, none)] }
/-- slices.ContainsFunc[[]/api.Span,/api.Span] -/
def slices_ContainsFunc_api_Span_api_Span : Fn := { nargs := 2, vars := [0, 1, 4], body := (.seq (.reg [{ o := .mv (.b false), d := some 2 }] []) (.seq (.reg [{ o := .mv (.v 0) }, { o := .mv (.v 1) }, { o := .ca N.slices_IndexFunc_api_Span_api_Span 0 [] [.l 1, .l 0] }, { o := .bin .geq (.l 0) (.i 0) }, { o := .mv (.l 0), d := some 2 }] []) .ret)), res := [(2, none)] }
/-- /smoke.given.1 -/
def smoke_given_1 : Fn := { nargs := 1, vars := [0, 1, 2], body := (.seq (.reg [{ o := .bx (.v 0) 2, d := some 1 }, { o := .mv (.b false), d := some 2 }] []) (.seq (.reg [{ o := .fa (.v 1) 0 }, { o := .ld (.l 0) 1 false }, { o := .bin .lss (.l 0) (.i (-1125899906842624)) }, { o := .mv (.l 0) }, { o := .fa (.v 1) 1, g := some (0, false) }, { o := .ld (.l 0) 1 false, g := some (1, false) }, { o := .bin .gtr (.l 0) (.i 1125899906842624), g := some (2, false) }, { o := .pk (.l 3) (.b true) (.l 0) }, { o := .mv (.l 0) }, { o := .fa (.v 1) 0, g := some (0, false) }, { o := .ld (.l 0) 1 false, g := some (1, false) }, { o := .fa (.v 1) 1, g := some (2, false) }, { o := .ld (.l 0) 1 false, g := some (3, false) }, { o := .bin .gtr (.l 2) (.l 0), g := some (4, false) }, { o := .pk (.l 5) (.b true) (.l 0) }, { o := .mv (.l 0), d := some 2 }] []) .ret)), res := [(2, none)] }
/-- math/bits.Mul -/
def math_bits_Mul : Fn := { nargs := 2, vars := [0, 1, 4, 5, 8, 9], body := (.seq (.reg [{ o := .mv (.c (.t (.int .u64 (0)))), d := some 2 }, { o := .mv (.c (.t (.int .u64 (0)))), d := some 3 }] []) (.seq (.cnd false .skip) (.seq (.reg [{ o := .mv (.v 0) }, { o := .mv (.v 1) }, { o := .ca N.math_bits_Mul64 0 [] [.l 1, .l 0] }, { o := .mv (.l 0) }, { o := .ex (.l 0) 0 }, { o := .ex (.l 1) 1 }, { o := .mv (.l 1), d := some 4 }, { o := .mv (.l 1), d := some 5 }] []) (.seq (.reg [{ o := .mv (.v 4) }, { o := .mv (.v 5) }, { o := .mv (.l 1), d := some 2 }, { o := .mv (.l 1), d := some 3 }] []) .ret)))), res := [(2, none), (3, none)] }
/-- (/smoke.times).reach -/
def smoke_times_reach : Fn := { nargs := 5, vars := [0, 1, 2, 3, 4, 5, 10, 11], body := (.seq (.reg [{ o := .bx (.v 0) 4, d := some 5 }, { o := .mv (.b false), d := some 6 }] []) (.seq (.reg [{ o := .fa (.v 5) 0 }, { o := .ld (.l 0) 2 true }, { o := .mv (.v 1) }, { o := .fa (.v 5) 2 }, { o := .ld (.l 0) 1 false }, { o := .mv (.v 1) }, { o := .ia (.l 1) (.l 0) 2 }, { o := .ld (.l 0) 2 true }, { o := .mv (.v 4) }, { o := .ca N.smoke_Travel 0 [] [.l 7, .l 6, .l 1, .l 0] }, { o := .mv (.l 0), d := some 7 }] []) (.seq (.ite [{ o := .mv (.v 7) }, { o := .bin .lss (.l 0) (.i 0) }, { o := .mv (.l 0) }, { o := .fa (.v 5) 3, g := some (0, false) }, { o := .ld (.l 0) 1 false, g := some (1, false) }, { o := .mv (.v 2), g := some (2, false) }, { o := .ia (.l 1) (.l 0) 1, g := some (3, false) }, { o := .ld (.l 0) 1 false, g := some (4, false) }, { o := .bin .gtr (.l 0) (.i 2147483648), g := some (5, false) }, { o := .pk (.l 6) (.b true) (.l 0) }, { o := .mv (.l 0) }, { o := .fa (.v 5) 3, g := some (0, false) }, { o := .ld (.l 0) 1 false, g := some (1, false) }, { o := .mv (.v 2), g := some (2, false) }, { o := .ia (.l 1) (.l 0) 1, g := some (3, false) }, { o := .ld (.l 0) 1 false, g := some (4, false) }, { o := .mv (.v 7), g := some (5, false) }, { o := .bin .add (.l 1) (.l 0), g := some (6, false) }, { o := .bin .gtr (.l 0) (.i 2147483648), g := some (7, false) }, { o := .pk (.l 8) (.b true) (.l 0) }, { o := .mv (.l 0) }, { o := .fa (.v 5) 3, g := some (0, false) }, { o := .ld (.l 0) 1 false, g := some (1, false) }, { o := .mv (.v 2), g := some (2, false) }, { o := .ia (.l 1) (.l 0) 1, g := some (3, false) }, { o := .ld (.l 0) 1 false, g := some (4, false) }, { o := .mv (.v 7), g := some (5, false) }, { o := .bin .add (.l 1) (.l 0), g := some (6, false) }, { o := .fa (.v 5) 3, g := some (7, false) }, { o := .ld (.l 0) 1 false, g := some (8, false) }, { o := .mv (.v 3), g := some (9, false) }, { o := .ia (.l 1) (.l 0) 1, g := some (10, false) }, { o := .ld (.l 0) 1 false, g := some (11, false) }, { o := .bin .geq (.l 5) (.l 0), g := some (12, false) }, { o := .pk (.l 13) (.b true) (.l 0) }] [] 0 (.seq (.reg [{ o := .mv (.b false), d := some 6 }] []) .ret) .skip) (.seq (.reg [{ o := .fa (.v 5) 3 }, { o := .ld (.l 0) 1 false }, { o := .mv (.v 3) }, { o := .fa (.v 5) 3 }, { o := .ld (.l 0) 1 false }, { o := .mv (.v 2) }, { o := .ia (.l 1) (.l 0) 1 }, { o := .ld (.l 0) 1 false }, { o := .mv (.v 7) }, { o := .bin .add (.l 1) (.l 0) }, { o := .ia (.l 8) (.l 7) 1 }, { o := .st (.l 0) (.l 1) 1 [] }] []) (.seq (.reg [{ o := .mv (.b true), d := some 6 }] []) .ret))))), res := [(6, none)] }
end Go.Ev.K
namespace Go.Ev
class Has6 [Lib] : Prop where
  t_law28_SmokeSources : Lib.fs N.law28_SmokeSources = some K.law28_SmokeSources
  t_law28_SmokeRuns : Lib.fs N.law28_SmokeRuns = some K.law28_SmokeRuns
  t_law28_SmokeMade : Lib.fs N.law28_SmokeMade = some K.law28_SmokeMade
  t_law28_SmokeGrows : Lib.fs N.law28_SmokeGrows = some K.law28_SmokeGrows
  t_law28_awake : Lib.fs N.law28_awake = some K.law28_awake
  t_smoke_Start : Lib.fs N.smoke_Start = some K.smoke_Start
  t_smoke_Travel : Lib.fs N.smoke_Travel = some K.smoke_Travel
  t_smoke_Change : Lib.fs N.smoke_Change = some K.smoke_Change
  t_law28_agree : Lib.fs N.law28_agree = some K.law28_agree
  t_smoke_Free : Lib.fs N.smoke_Free = some K.smoke_Free
  t_smoke_given : Lib.fs N.smoke_given = some K.smoke_given
  t_slices_Repeat_int_int : Lib.fs N.slices_Repeat_int_int = some K.slices_Repeat_int_int
  t_smoke_times_spread : Lib.fs N.smoke_times_spread = some K.smoke_times_spread
  t_smoke_Valid : Lib.fs N.smoke_Valid = some K.smoke_Valid
  t_ref28_Same : Lib.fs N.ref28_Same = some K.ref28_Same
  t_ref28_Filled : Lib.fs N.ref28_Filled = some K.ref28_Filled
  t_ref28_Free : Lib.fs N.ref28_Free = some K.ref28_Free
  t_smoke_Free_1 : Lib.fs N.smoke_Free_1 = some K.smoke_Free_1
  t_plan_Valid : Lib.fs N.plan_Valid = some K.plan_Valid
  t_slices_ContainsFunc_api_Span_api_Span : Lib.fs N.slices_ContainsFunc_api_Span_api_Span = some K.slices_ContainsFunc_api_Span_api_Span
  t_smoke_given_1 : Lib.fs N.smoke_given_1 = some K.smoke_given_1
  t_math_bits_Mul : Lib.fs N.math_bits_Mul = some K.math_bits_Mul
  t_smoke_times_reach : Lib.fs N.smoke_times_reach = some K.smoke_times_reach
namespace K
variable [Lib] [Has6]
theorem t_law28_SmokeSources : Lib.fs N.law28_SmokeSources = some K.law28_SmokeSources := Has6.t_law28_SmokeSources
theorem t_law28_SmokeRuns : Lib.fs N.law28_SmokeRuns = some K.law28_SmokeRuns := Has6.t_law28_SmokeRuns
theorem t_law28_SmokeMade : Lib.fs N.law28_SmokeMade = some K.law28_SmokeMade := Has6.t_law28_SmokeMade
theorem t_law28_SmokeGrows : Lib.fs N.law28_SmokeGrows = some K.law28_SmokeGrows := Has6.t_law28_SmokeGrows
theorem t_law28_awake : Lib.fs N.law28_awake = some K.law28_awake := Has6.t_law28_awake
theorem t_smoke_Start : Lib.fs N.smoke_Start = some K.smoke_Start := Has6.t_smoke_Start
theorem t_smoke_Travel : Lib.fs N.smoke_Travel = some K.smoke_Travel := Has6.t_smoke_Travel
theorem t_smoke_Change : Lib.fs N.smoke_Change = some K.smoke_Change := Has6.t_smoke_Change
theorem t_law28_agree : Lib.fs N.law28_agree = some K.law28_agree := Has6.t_law28_agree
theorem t_smoke_Free : Lib.fs N.smoke_Free = some K.smoke_Free := Has6.t_smoke_Free
theorem t_smoke_given : Lib.fs N.smoke_given = some K.smoke_given := Has6.t_smoke_given
theorem t_slices_Repeat_int_int : Lib.fs N.slices_Repeat_int_int = some K.slices_Repeat_int_int := Has6.t_slices_Repeat_int_int
theorem t_smoke_times_spread : Lib.fs N.smoke_times_spread = some K.smoke_times_spread := Has6.t_smoke_times_spread
theorem t_smoke_Valid : Lib.fs N.smoke_Valid = some K.smoke_Valid := Has6.t_smoke_Valid
theorem t_ref28_Same : Lib.fs N.ref28_Same = some K.ref28_Same := Has6.t_ref28_Same
theorem t_ref28_Filled : Lib.fs N.ref28_Filled = some K.ref28_Filled := Has6.t_ref28_Filled
theorem t_ref28_Free : Lib.fs N.ref28_Free = some K.ref28_Free := Has6.t_ref28_Free
theorem t_smoke_Free_1 : Lib.fs N.smoke_Free_1 = some K.smoke_Free_1 := Has6.t_smoke_Free_1
theorem t_plan_Valid : Lib.fs N.plan_Valid = some K.plan_Valid := Has6.t_plan_Valid
theorem t_slices_ContainsFunc_api_Span_api_Span : Lib.fs N.slices_ContainsFunc_api_Span_api_Span = some K.slices_ContainsFunc_api_Span_api_Span := Has6.t_slices_ContainsFunc_api_Span_api_Span
theorem t_smoke_given_1 : Lib.fs N.smoke_given_1 = some K.smoke_given_1 := Has6.t_smoke_given_1
theorem t_math_bits_Mul : Lib.fs N.math_bits_Mul = some K.math_bits_Mul := Has6.t_math_bits_Mul
theorem t_smoke_times_reach : Lib.fs N.smoke_times_reach = some K.smoke_times_reach := Has6.t_smoke_times_reach
end K
end Go.Ev

/- MADE BY PROGRAM (lib.py): the compact code of functions. -/
namespace Go.Ev.K
open Go.Ev
/-- /smoke.Valid.1 -/
def smoke_Valid_1 : Fn := { nargs := 2, vars := [0, 1, 3], body := (.seq (.reg [{ o := .mv (.b false), d := some 2 }] []) (.seq (.reg [{ o := .mv (.v 0) }, { o := .bin .neq (.l 0) (.i 1099511627776) }, { o := .mv (.l 0) }, { o := .mv (.v 0), g := some (0, true) }, { o := .fa (.v 1) 0, g := some (1, true) }, { o := .ld (.l 0) 1 false, g := some (2, true) }, { o := .ca N.lists_In 0 [] [.l 2, .l 0, .i 2147483648], g := some (3, true) }, { o := .un .not (.l 0), g := some (4, true) }, { o := .pk (.l 5) (.l 0) (.b false) }, { o := .mv (.l 0), d := some 2 }] []) .ret)), res := [(2, none)] }
def plan_Check_l1b : C := (.its  [{ o := .bin .lss (.v 8) (.v 7) }] [] 0 .skip (.exit 0) (.seq (.blk 1 (.seq (.reg [{ o := .ia (.v 6) (.v 8) 2 }, { o := .ld (.l 0) 2 true }, { o := .al [.t (.int .i64 (0)), .t (.bool false)] [], d := some 3 }, { o := .st (.l 0) (.l 1) 2 [] }] []) (.ite [{ o := .fa (.v 3) 0 }, { o := .ld (.l 0) 1 false }, { o := .bin .lss (.l 0) (.i (-10000)) }, { o := .mv (.l 0) }, { o := .fa (.v 3) 0, g := some (0, false) }, { o := .ld (.l 0) 1 false, g := some (1, false) }, { o := .bin .gtr (.l 0) (.i 10000), g := some (2, false) }, { o := .pk (.l 3) (.b true) (.l 0) }] [] 0 (.seq (.reg [{ o := .mv (.i 1), d := some 2 }] []) .ret) .skip))) (.reg [{ o := .bin .add (.v 8) (.i 1) }, { o := .mv (.l 0), d := some 8 }] [])))
def plan_Check_l1 : C := .loop true [0, 2, 3, 4, 5, 9, 10, 11] K.plan_Check_l1b
def plan_Check_l2b : C := (.its  [{ o := .bin .lss (.v 11) (.v 10) }] [] 0 .skip (.exit 2) (.seq (.blk 3 (.seq (.reg [{ o := .ia (.v 9) (.v 11) 10 }, { o := .ld (.l 0) 10 true }, { o := .al [.t (.int .i64 (0)), .t (.int .i64 (0)), .t (.int .i64 (0)), .t (.int .i64 (0)), .t (.bool false), .t (.bool false), .t (.int .i64 (0)), .t (.int .i64 (0)), .t (.int .i64 (0)), .t (.int .i64 (0))] [], d := some 5 }, { o := .st (.l 0) (.l 1) 10 [] }] []) (.seq (.ite [{ o := .fa (.v 5) 0 }, { o := .ld (.l 0) 1 false }, { o := .bin .lss (.l 0) (.i 0) }, { o := .mv (.l 0) }, { o := .fa (.v 5) 0, g := some (0, false) }, { o := .ld (.l 0) 1 false, g := some (1, false) }, { o := .mv (.v 4), g := some (2, false) }, { o := .bin .geq (.l 1) (.l 0), g := some (3, false) }, { o := .pk (.l 4) (.b true) (.l 0) }, { o := .mv (.l 0) }, { o := .fa (.v 5) 1, g := some (0, false) }, { o := .ld (.l 0) 1 false, g := some (1, false) }, { o := .bin .lss (.l 0) (.i 0), g := some (2, false) }, { o := .pk (.l 3) (.b true) (.l 0) }, { o := .mv (.l 0) }, { o := .fa (.v 5) 1, g := some (0, false) }, { o := .ld (.l 0) 1 false, g := some (1, false) }, { o := .mv (.v 4), g := some (2, false) }, { o := .bin .geq (.l 1) (.l 0), g := some (3, false) }, { o := .pk (.l 4) (.b true) (.l 0) }, { o := .mv (.l 0) }, { o := .fa (.v 5) 0, g := some (0, false) }, { o := .ld (.l 0) 1 false, g := some (1, false) }, { o := .fa (.v 5) 1, g := some (2, false) }, { o := .ld (.l 0) 1 false, g := some (3, false) }, { o := .bin .eql (.l 2) (.l 0), g := some (4, false) }, { o := .pk (.l 5) (.b true) (.l 0) }] [] 0 (.seq (.reg [{ o := .mv (.i 4), d := some 2 }] []) .ret) .skip) (.seq (.ite [{ o := .fa (.v 5) 2 }, { o := .ld (.l 0) 1 false }, { o := .bin .lss (.l 0) (.i 1) }, { o := .mv (.l 0) }, { o := .fa (.v 5) 2, g := some (0, false) }, { o := .ld (.l 0) 1 false, g := some (1, false) }, { o := .bin .gtr (.l 0) (.i 100000), g := some (2, false) }, { o := .pk (.l 3) (.b true) (.l 0) }, { o := .mv (.l 0) }, { o := .fa (.v 5) 3, g := some (0, false) }, { o := .ld (.l 0) 1 false, g := some (1, false) }, { o := .bin .lss (.l 0) (.i 1), g := some (2, false) }, { o := .pk (.l 3) (.b true) (.l 0) }, { o := .mv (.l 0) }, { o := .fa (.v 5) 3, g := some (0, false) }, { o := .ld (.l 0) 1 false, g := some (1, false) }, { o := .bin .gtr (.l 0) (.i 1000), g := some (2, false) }, { o := .pk (.l 3) (.b true) (.l 0) }] [] 0 (.seq (.reg [{ o := .mv (.i 1), d := some 2 }] []) .ret) .skip) (.ite [{ o := .fa (.v 5) 6 }, { o := .ld (.l 0) 2 true }, { o := .ca N.plan_spanIn 0 [] [.l 0, .i 1, .i 262144] }, { o := .un .not (.l 0) }, { o := .mv (.l 0) }, { o := .fa (.v 5) 8, g := some (0, false) }, { o := .ld (.l 0) 2 true, g := some (1, false) }, { o := .ca N.plan_spanIn 0 [] [.l 0, .i (-2199023255552), .i 2199023255552], g := some (2, false) }, { o := .un .not (.l 0), g := some (3, false) }, { o := .pk (.l 4) (.b true) (.l 0) }] [] 0 (.seq (.reg [{ o := .mv (.i 1), d := some 2 }] []) .ret) .skip))))) (.reg [{ o := .bin .add (.v 11) (.i 1) }, { o := .mv (.l 0), d := some 11 }] [])))
def plan_Check_l2 : C := .loop true [0, 1, 2, 3, 5, 6, 7, 8] K.plan_Check_l2b
/-- /plan.Check -/
def plan_Check : Fn := { nargs := 1, vars := [0, 1, 2, 4, 5, 7, 19, 20, 21, 38, 39, 40], body := (.seq (.reg [{ o := .bx (.v 0) 2, d := some 1 }, { o := .mv (.i 0), d := some 2 }] []) (.seq (.ite [{ o := .fa (.v 1) 0 }, { o := .ld (.l 0) 1 false }, { o := .ln (.l 0) }, { o := .bin .gtr (.l 0) (.i 64) }, { o := .mv (.l 0) }, { o := .fa (.v 1) 1, g := some (0, false) }, { o := .ld (.l 0) 1 false, g := some (1, false) }, { o := .ln (.l 0), g := some (2, false) }, { o := .bin .gtr (.l 0) (.i 128), g := some (3, false) }, { o := .pk (.l 4) (.b true) (.l 0) }] [] 0 (.seq (.reg [{ o := .mv (.i 2), d := some 2 }] []) .ret) .skip) (.seq (.seq (.reg [{ o := .fa (.v 1) 0 }, { o := .ld (.l 0) 1 false, d := some 6 }, { o := .ln (.l 0), d := some 7 }, { o := .mv (.i 0), d := some 8 }] []) (.blk 0 K.plan_Check_l1)) (.seq (.reg [{ o := .fa (.v 1) 0 }, { o := .ld (.l 0) 1 false }, { o := .ln (.l 0) }, { o := .mv (.l 0), d := some 4 }] []) (.seq (.seq (.reg [{ o := .fa (.v 1) 1 }, { o := .ld (.l 0) 1 false, d := some 9 }, { o := .ln (.l 0), d := some 10 }, { o := .mv (.i 0), d := some 11 }] []) (.blk 2 K.plan_Check_l2)) (.seq (.reg [{ o := .mv (.i 0), d := some 2 }] []) .ret)))))), res := [(2, none)] }
def slices_IndexFunc_api_Span_api_Span_l1b : C := (.its  [{ o := .bin .lss (.v 5) (.v 4) }] [] 0 .skip (.exit 0) (.seq (.blk 1 (.seq (.reg [{ o := .mv (.v 5) }, { o := .mv (.l 0), d := some 3 }] []) (.ite [{ o := .mv (.v 1) }, { o := .mv (.v 0) }, { o := .mv (.v 3) }, { o := .ia (.l 1) (.l 0) 2 }, { o := .ld (.l 0) 2 true }, { o := .cw (.l 4) 0 [] [.l 0] }] [] 0 (.seq (.reg [{ o := .mv (.v 3) }, { o := .mv (.l 0), d := some 2 }] []) .ret) .skip))) (.reg [{ o := .bin .add (.v 5) (.i 1) }, { o := .mv (.l 0), d := some 5 }] [])))
def slices_IndexFunc_api_Span_api_Span_l1 : C := .loop true [2, 3] K.slices_IndexFunc_api_Span_api_Span_l1b
/-- slices.IndexFunc[[]/api.Span,/api.Span] -/
def slices_IndexFunc_api_Span_api_Span : Fn := { nargs := 2, vars := [0, 1, 4, 5, 7, 8], body := (.seq (.reg [{ o := .mv (.i 0), d := some 2 }] []) (.seq (.seq (.reg [{ o := .mv (.v 0) }, { o := .ln (.l 0), d := some 4 }, { o := .mv (.i 0), d := some 5 }] []) (.blk 0 K.slices_IndexFunc_api_Span_api_Span_l1)) (.seq (.reg [{ o := .mv (.i (-1)), d := some 2 }] []) .ret))), res := [(2, none)] }
/-- math/bits.Mul32 -/
def math_bits_Mul32 : Fn := { nargs := 2, vars := [0, 1, 4, 5, 6], body := (.seq (.reg [{ o := .mv (.c (.t (.int .u32 (0)))), d := some 2 }, { o := .mv (.c (.t (.int .u32 (0)))), d := some 3 }] []) (.seq (.reg [{ o := .mv (.v 0) }, { o := .cv .u64 (.l 0) }, { o := .mv (.v 1) }, { o := .cv .u64 (.l 0) }, { o := .bin .mul (.l 2) (.l 0) }, { o := .mv (.l 0), d := some 4 }] []) (.seq (.reg [{ o := .mv (.v 4) }, { o := .bin .shr (.l 0) (.c (.t (.int .u64 (32)))) }, { o := .cv .u32 (.l 0) }, { o := .mv (.v 4) }, { o := .cv .u32 (.l 0) }, { o := .mv (.l 2), d := some 2 }, { o := .mv (.l 1), d := some 3 }] []) .ret))), res := [(2, none), (3, none)] }
/-- math/bits.Mul64 -/
def math_bits_Mul64 : Fn := { nargs := 2, vars := [0, 1, 4, 5, 6, 7, 8, 9, 10, 11, 12, 13], body := (.seq (.reg [{ o := .mv (.c (.t (.int .u64 (0)))), d := some 2 }, { o := .mv (.c (.t (.int .u64 (0)))), d := some 3 }] []) (.seq (.reg [{ o := .mv (.v 0) }, { o := .bin .and (.l 0) (.c (.t (.int .u64 (4294967295)))) }, { o := .mv (.l 0), d := some 4 }] []) (.seq (.reg [{ o := .mv (.v 0) }, { o := .bin .shr (.l 0) (.c (.t (.int .u64 (32)))) }, { o := .mv (.l 0), d := some 5 }] []) (.seq (.reg [{ o := .mv (.v 1) }, { o := .bin .and (.l 0) (.c (.t (.int .u64 (4294967295)))) }, { o := .mv (.l 0), d := some 6 }] []) (.seq (.reg [{ o := .mv (.v 1) }, { o := .bin .shr (.l 0) (.c (.t (.int .u64 (32)))) }, { o := .mv (.l 0), d := some 7 }] []) (.seq (.reg [{ o := .mv (.v 4) }, { o := .mv (.v 6) }, { o := .bin .mul (.l 1) (.l 0) }, { o := .mv (.l 0), d := some 8 }] []) (.seq (.reg [{ o := .mv (.v 5) }, { o := .mv (.v 6) }, { o := .bin .mul (.l 1) (.l 0) }, { o := .mv (.v 8) }, { o := .bin .shr (.l 0) (.c (.t (.int .u64 (32)))) }, { o := .bin .add (.l 2) (.l 0) }, { o := .mv (.l 0), d := some 9 }] []) (.seq (.reg [{ o := .mv (.v 9) }, { o := .bin .and (.l 0) (.c (.t (.int .u64 (4294967295)))) }, { o := .mv (.l 0), d := some 10 }] []) (.seq (.reg [{ o := .mv (.v 9) }, { o := .bin .shr (.l 0) (.c (.t (.int .u64 (32)))) }, { o := .mv (.l 0), d := some 11 }] []) (.seq (.reg [{ o := .mv (.v 10) }, { o := .mv (.v 4) }, { o := .mv (.v 7) }, { o := .bin .mul (.l 1) (.l 0) }, { o := .bin .add (.l 3) (.l 0) }, { o := .mv (.l 0), d := some 10 }] []) (.seq (.reg [{ o := .mv (.v 5) }, { o := .mv (.v 7) }, { o := .bin .mul (.l 1) (.l 0) }, { o := .mv (.v 11) }, { o := .bin .add (.l 1) (.l 0) }, { o := .mv (.v 10) }, { o := .bin .shr (.l 0) (.c (.t (.int .u64 (32)))) }, { o := .bin .add (.l 2) (.l 0) }, { o := .mv (.l 0), d := some 2 }] []) (.seq (.reg [{ o := .mv (.v 0) }, { o := .mv (.v 1) }, { o := .bin .mul (.l 1) (.l 0) }, { o := .mv (.l 0), d := some 3 }] []) .ret)))))))))))), res := [(2, none), (3, none)] }
/-- /plan.spanIn -/
def plan_spanIn : Fn := { nargs := 3, vars := [0, 1, 2, 3, 6], body := (.seq (.reg [{ o := .bx (.v 0) 2, d := some 3 }, { o := .mv (.b false), d := some 4 }] []) (.seq (.reg [{ o := .mv (.v 1) }, { o := .fa (.v 3) 0 }, { o := .ld (.l 0) 1 false }, { o := .bin .leq (.l 2) (.l 0) }, { o := .mv (.l 0) }, { o := .fa (.v 3) 0, g := some (0, true) }, { o := .ld (.l 0) 1 false, g := some (1, true) }, { o := .fa (.v 3) 1, g := some (2, true) }, { o := .ld (.l 0) 1 false, g := some (3, true) }, { o := .bin .leq (.l 2) (.l 0), g := some (4, true) }, { o := .pk (.l 5) (.l 0) (.b false) }, { o := .mv (.l 0) }, { o := .fa (.v 3) 1, g := some (0, true) }, { o := .ld (.l 0) 1 false, g := some (1, true) }, { o := .mv (.v 2), g := some (2, true) }, { o := .bin .leq (.l 1) (.l 0), g := some (3, true) }, { o := .pk (.l 4) (.l 0) (.b false) }, { o := .mv (.l 0), d := some 4 }] []) .ret)), res := [(4, none)] }
end Go.Ev.K
namespace Go.Ev
class Has7 [Lib] : Prop where
  t_smoke_Valid_1 : Lib.fs N.smoke_Valid_1 = some K.smoke_Valid_1
  t_plan_Check : Lib.fs N.plan_Check = some K.plan_Check
  t_slices_IndexFunc_api_Span_api_Span : Lib.fs N.slices_IndexFunc_api_Span_api_Span = some K.slices_IndexFunc_api_Span_api_Span
  t_math_bits_Mul32 : Lib.fs N.math_bits_Mul32 = some K.math_bits_Mul32
  t_math_bits_Mul64 : Lib.fs N.math_bits_Mul64 = some K.math_bits_Mul64
  t_plan_spanIn : Lib.fs N.plan_spanIn = some K.plan_spanIn
namespace K
variable [Lib] [Has7]
theorem t_smoke_Valid_1 : Lib.fs N.smoke_Valid_1 = some K.smoke_Valid_1 := Has7.t_smoke_Valid_1
theorem t_plan_Check : Lib.fs N.plan_Check = some K.plan_Check := Has7.t_plan_Check
theorem t_slices_IndexFunc_api_Span_api_Span : Lib.fs N.slices_IndexFunc_api_Span_api_Span = some K.slices_IndexFunc_api_Span_api_Span := Has7.t_slices_IndexFunc_api_Span_api_Span
theorem t_math_bits_Mul32 : Lib.fs N.math_bits_Mul32 = some K.math_bits_Mul32 := Has7.t_math_bits_Mul32
theorem t_math_bits_Mul64 : Lib.fs N.math_bits_Mul64 = some K.math_bits_Mul64 := Has7.t_math_bits_Mul64
theorem t_plan_spanIn : Lib.fs N.plan_spanIn = some K.plan_spanIn := Has7.t_plan_spanIn
end K
end Go.Ev

/- slices.Repeat of one number. -/
namespace Go.Ev
open Go
variable [Lib] [Has1] [Has2] [Has6] [Has7]

/- the operation copy -/
section
variable (H : Heap) (sz : Nat)
def putO (id ep n lo hi : Nat) (ys : List D) : Option Obj → Option (D × Heap)
  | some (.arr sz' pin ep' es) => if ep = ep' ∧ n = es.length then putD H id ep (sz', pin, es) lo hi ys sz else none
  | _ => none
def cpD (x : D) (ys : List D) : Option (D × Heap) := if headSize sz ys = true then (match x with
  | .ref id ep n => putO H sz id ep n 0 n ys H[id]?
  | .sub id ep n lo hi => putO H sz id ep n lo hi ys H[id]?
  | _ => none) else none
def opCp (x y : Option D) : Option (D × Heap) := x.bind fun a => y.bind fun b => copyD H a b sz
@[go_sem] theorem ev_cp (call : Oracle) (get : X → Option D) (x y : X) : evO call get H (.cp x y sz) = opCp H sz (get x) (get y) := (rfl)
theorem copyD_is (x y : D) (ys : List D) (h : elems H y = some ys) : copyD H x y sz = cpD H sz x ys := by
  unfold copyD cpD
  rw [h, Option.bind_some]
  split
  · rename_i hh
    cases x with
    | ref id ep n =>
      simp only [arrAt, putO]
      cases H[id]? with
      | none => rfl
      | some o =>
        cases o with
        | box cs => rfl
        | arr sz' pin ep' es =>
          simp only
          by_cases c : ep = ep' ∧ n = es.length
          · rw [if_pos c, if_pos c]; rfl
          · rw [if_neg c, if_neg c]; rfl
    | sub id ep n lo hi =>
      simp only [arrAt, putO]
      cases H[id]? with
      | none => rfl
      | some o =>
        cases o with
        | box cs => rfl
        | arr sz' pin ep' es =>
          simp only
          by_cases c : ep = ep' ∧ n = es.length
          · rw [if_pos c, if_pos c]; rfl
          · rw [if_neg c, if_neg c]; rfl
    | _ => rfl
  · rfl
@[go_sem] theorem opCp_t (x : D) (ts : List T) : opCp H sz (some x) (some (.t (.sl ts))) = cpD H sz x (ts.map .t) := copyD_is H sz x (.t (.sl ts)) (ts.map .t) rfl
def cpE (x : D) (ep n lo hi : Nat) : Option Obj → Option (D × Heap)
  | some (.arr _ _ ep' es) => if ep = ep' ∧ n = es.length then cpD H sz x ((es.drop lo).take (hi - lo)) else none
  | _ => none
@[go_sem] theorem cpE_arr (x : D) (n lo hi sz' : Nat) (pin : Bool) (ep : Nat) (es : List D) : cpE H sz x ep n lo hi (some (.arr sz' pin ep es)) = if n = es.length then cpD H sz x ((es.drop lo).take (hi - lo)) else none := by simp [cpE]
@[go_sem] theorem opCp_sub (x : D) (id ep n lo hi : Nat) : opCp H sz (some x) (some (.sub id ep n lo hi)) = cpE H sz x ep n lo hi H[id]? := by
  unfold opCp
  simp only [Option.bind_some]
  cases h : H[id]? with
  | none => simp [copyD, elems, arrAt, h, cpE]
  | some o =>
    cases o with
    | box cs => simp [copyD, elems, arrAt, h, cpE]
    | arr sz' pin ep' es =>
      by_cases c : ep = ep' ∧ n = es.length
      · rw [copyD_is H sz x _ ((es.drop lo).take (hi - lo)) (by simp [elems, arrAt, h, c])]
        simp only [cpE, if_pos c]
      · simp [copyD, elems, arrAt, h, cpE, c]
@[go_sem] theorem cpD_ref (id ep n : Nat) (ys : List D) : cpD H sz (.ref id ep n) ys = if headSize sz ys = true then putO H sz id ep n 0 n ys H[id]? else none := (rfl)
@[go_sem] theorem cpD_sub (id ep n lo hi : Nat) (ys : List D) : cpD H sz (.sub id ep n lo hi) ys = if headSize sz ys = true then putO H sz id ep n lo hi ys H[id]? else none := (rfl)
@[go_sem] theorem putO_arr (id n lo hi : Nat) (ys : List D) (ep : Nat) (es : List D) : putO H sz id ep n lo hi ys (some (.arr sz false ep es)) =
    if n = es.length then (if min ys.length (hi - lo) = 0 then some (.t (.int .i64 0), H) else some (.t (.int .i64 ((min ys.length (hi - lo) : Nat) : Int)), H.set id (.arr sz false ep (es.take lo ++ ys.take (min ys.length (hi - lo)) ++ es.drop (lo + min ys.length (hi - lo)))))) else none := by
  simp [putO, putD]
end

/- numbers -/
/- an array that is filled from the left -/
def repD (v : Int) (n cur : Nat) : List D := List.replicate cur (I v) ++ List.replicate (n - cur) (I 0)
end Go.Ev

/- The program: smoke. -/
namespace Go.Ev
open Go
variable [Lib] [Has1] [Has2] [Has6] [Has7]

/- the program's look at a mine: only at good ones -/
end Go.Ev

/- MADE BY PROGRAM (lib.py): the numbers of functions. -/
namespace Go.Ev.N
def law25_PlacesLeast : Nat := 178
def law25_PlacesJoins : Nat := 179
def law25_PlacesTrue : Nat := 180
def law25_PlacesShift : Nat := 181
def law25_PlacesLess : Nat := 182
def law25_PlacesRaw : Nat := 183
def law25_PlacesMade : Nat := 184
def law25_awake : Nat := 185
def places_Start : Nat := 186
def ref03_Least : Nat := 187
def made_Dice_Where : Nat := 188
def places_Join : Nat := 189
def places_Valid : Nat := 190
def law25_walker : Nat := 191
def places_See : Nat := 192
def places_Absent : Nat := 193
def places_Renew : Nat := 194
def law25_agree : Nat := 195
def ref25_Same : Nat := 196
def law25_row : Nat := 197
def places_nowhere : Nat := 198
def places_lowered : Nat := 199
def places_all : Nat := 200
def places_shaped : Nat := 201
def slices_Equal_int_int : Nat := 202
def places_given : Nat := 203
def slices_Clone_int_int : Nat := 204
def places_Absent_1 : Nat := 205
def ref25_Renew : Nat := 206
def places_Raise : Nat := 207
def places_arrivals : Nat := 208
def places_lowered_1 : Nat := 209
def places_shaped_1 : Nat := 210
def walk_Time : Nat := 211
def walk_step : Nat := 212
def walk_with : Nat := 213
def walk_quick : Nat := 214
end Go.Ev.N

