/- Parts of the proof: see the text that holds the theorem. -/
import Derived.Test.YtnmkojcfpmdajaaZ5
set_option linter.all false
set_option maxRecDepth 100000
/- MADE BY PROGRAM (lib.py): the compact code of functions. -/
namespace Go.Ev.K
open Go.Ev
/-- /law34.FiringRaw -/
def law34_FiringRaw : Fn := { nargs := 3, vars := [0, 1, 2, 4, 5, 6, 7, 8, 9, 10, 11, 12, 13], body := (.seq (.reg [{ o := .bx (.v 1) 3, d := some 3 }, { o := .bx (.v 2) 4, d := some 4 }, { o := .mv (.b false), d := some 5 }] []) (.seq (.ite [{ o := .mv (.v 0) }, { o := .ca N.made_Light 0 [] [.l 0] }, { o := .un .not (.l 0) }, { o := .mv (.l 0) }, { o := .fa (.v 3) 0, g := some (0, false) }, { o := .ld (.l 0) 1 false, g := some (1, false) }, { o := .ln (.l 0), g := some (2, false) }, { o := .bin .gtr (.l 0) (.i 80), g := some (3, false) }, { o := .pk (.l 4) (.b true) (.l 0) }] [] 0 (.seq (.reg [{ o := .ca N.law34_awake 0 [] [] }, { o := .mv (.l 0), d := some 5 }] []) .ret) .skip) (.seq (.reg [{ o := .mv (.v 0) }, { o := .ca N.made_Roll 0 [] [.l 0] }, { o := .mv (.l 0), d := some 6 }] []) (.seq (.reg [{ o := .mv (.v 6) }, { o := .bs [.i 1, .i 2, .i 3, .i 0, .i (-1)] 1 }, { o := .ca N.made_Dice_Of 0 [] [.l 1, .l 0] }, { o := .mv (.v 6) }, { o := .fa (.v 4) 3 }, { o := .ld (.l 0) 1 false }, { o := .fa (.v 4) 3 }, { o := .ld (.l 0) 1 false }, { o := .bin .quo (.l 0) (.i 2) }, { o := .bs [.l 3, .i 50, .l 0, .i (-1), .i 2147483648, .i 2147483649] 1 }, { o := .ca N.made_Dice_Of 0 [] [.l 6, .l 0] }, { o := .mv (.l 8), d := some 7 }, { o := .mv (.l 1), d := some 8 }] [(1, 1), (5, 0), (7, 0), (9, 0)]) (.seq (.reg [{ o := .mv (.v 6) }, { o := .ca N.made_Dice_Some 0 [] [.l 0, .i 4] }, { o := .mv (.v 6) }, { o := .ca N.made_Dice_Ints 0 [] [.l 0] }, { o := .mv (.v 6) }, { o := .ca N.made_Dice_One 0 [] [.l 0, .i 2] }, { o := .bd [.nil, .nil, .t (.bool false)] [(0, 1, .l 4), (1, 1, .l 2), (2, 1, .l 0)] }, { o := .al [.nil, .nil, .t (.bool false)] [], d := some 9 }, { o := .st (.l 0) (.l 1) 3 [] }] []) (.seq (.reg [{ o := .mv (.v 6) }, { o := .ca N.law34_scene 0 [] [.l 0] }, { o := .mv (.l 0) }, { o := .ex (.l 0) 0 }, { o := .ex (.l 1) 1 }, { o := .ex (.l 2) 2 }, { o := .al [.nil, .t (.int .i64 (0)), .t (.int .i64 (0))] [], d := some 10 }, { o := .al [.nil, .nil, .t (.bool false)] [], d := some 11 }, { o := .al [.nil] [], d := some 12 }, { o := .st (.l 2) (.l 5) 3 [] }, { o := .st (.l 2) (.l 5) 3 [] }, { o := .st (.l 2) (.l 5) 1 [] }] []) (.seq (.reg [{ o := .ca N.law34_awake 0 [] [] }, { o := .mv (.l 0) }, { o := .ld (.v 3) 3 true, g := some (0, true) }, { o := .ld (.v 4) 4 true, g := some (1, true) }, { o := .ld (.v 9) 3 true, g := some (2, true) }, { o := .ld (.v 12) 1 true, g := some (3, true) }, { o := .mv (.v 7), g := some (4, true) }, { o := .mv (.v 8), g := some (5, true) }, { o := .mv (.v 6), g := some (6, true) }, { o := .ca N.made_Dice_One 0 [] [.l 0, .i 2], g := some (7, true) }, { o := .ca N.law34_agree 0 [] [.l 7, .l 6, .l 5, .l 4, .l 3, .l 2, .l 0], g := some (8, true) }, { o := .pk (.l 9) (.l 0) (.b false) }, { o := .mv (.l 0) }, { o := .ld (.v 10) 3 true, g := some (0, true) }, { o := .ld (.v 4) 4 true, g := some (1, true) }, { o := .ld (.v 11) 3 true, g := some (2, true) }, { o := .ld (.v 12) 1 true, g := some (3, true) }, { o := .mv (.v 7), g := some (4, true) }, { o := .mv (.v 8), g := some (5, true) }, { o := .ca N.law34_agree 0 [] [.l 5, .l 4, .l 3, .l 2, .l 1, .l 0, .b false], g := some (6, true) }, { o := .pk (.l 7) (.l 0) (.b false) }, { o := .mv (.l 0) }, { o := .ld (.v 3) 3 true, g := some (0, true) }, { o := .bd [.t (.int .i64 (0)), .t (.int .i64 (0)), .t (.int .i64 (0)), .t (.int .i64 (0))] [], g := some (1, true) }, { o := .ld (.v 11) 3 true, g := some (2, true) }, { o := .ld (.v 12) 1 true, g := some (3, true) }, { o := .mv (.v 7), g := some (4, true) }, { o := .mv (.v 8), g := some (5, true) }, { o := .ca N.law34_agree 0 [] [.l 5, .l 4, .l 3, .l 2, .l 1, .l 0, .b true], g := some (6, true) }, { o := .pk (.l 7) (.l 0) (.b false) }, { o := .mv (.l 0) }, { o := .ld (.v 10) 3 true, g := some (0, true) }, { o := .ld (.v 4) 4 true, g := some (1, true) }, { o := .ld (.v 9) 3 true, g := some (2, true) }, { o := .bd [.nil] [], g := some (3, true) }, { o := .mv (.v 7), g := some (4, true) }, { o := .mv (.v 8), g := some (5, true) }, { o := .ca N.law34_agree 0 [] [.l 5, .l 4, .l 3, .l 2, .l 1, .l 0, .b true], g := some (6, true) }, { o := .pk (.l 7) (.l 0) (.b false) }, { o := .mv (.l 0), d := some 5 }] [(2, 10), (3, 10), (4, 10), (5, 10)]) .ret))))))), res := [(5, none)] }
def law34_FiringMade_l1b : C := (.seq (.ite [{ o := .mv (.v 7) }, { o := .bin .lss (.l 0) (.i 6) }] [] 0 .skip (.exit 0)) (.seq (.blk 1 (.seq (.reg [{ o := .fa (.v 6) 3 }, { o := .ld (.l 0) 1 false }, { o := .mv (.v 2) }, { o := .fa (.v 3) 1 }, { o := .ld (.l 0) 1 false }, { o := .fa (.v 3) 1 }, { o := .ld (.l 0) 1 false }, { o := .bin .add (.l 0) (.i 1) }, { o := .fa (.v 3) 2 }, { o := .ld (.l 0) 1 false }, { o := .fa (.v 3) 2 }, { o := .ld (.l 0) 1 false }, { o := .bin .sub (.l 0) (.i 1) }, { o := .bs [.i 0, .l 8, .l 5, .l 3, .l 0, .i (-1), .i 5] 1 }, { o := .ca N.made_Dice_Of 0 [] [.l 11, .l 0] }, { o := .bin .add (.l 13) (.l 0) }, { o := .mv (.l 0), d := some 8 }] [(1, 14), (1, 15)]) (.ite [{ o := .ld (.v 3) 3 true }, { o := .ld (.v 6) 4 true }, { o := .ld (.v 4) 3 true }, { o := .ld (.v 5) 1 true }, { o := .mv (.v 2) }, { o := .bs [.i 1, .i 2, .i 3, .i 0] 1 }, { o := .ca N.made_Dice_Of 0 [] [.l 1, .l 0] }, { o := .mv (.v 8) }, { o := .mv (.v 2) }, { o := .ca N.made_Dice_One 0 [] [.l 0, .i 2] }, { o := .ca N.law34_agree 0 [] [.l 9, .l 8, .l 7, .l 6, .l 3, .l 2, .l 0] }, { o := .un .not (.l 0) }] [(0, 6), (0, 7), (0, 10), (1, 6), (1, 7), (1, 10), (2, 6), (2, 7), (2, 10), (3, 6), (3, 7), (3, 10)] 0 (.seq (.reg [{ o := .mv (.b false), d := some 1 }] []) .ret) .skip))) (.reg [{ o := .mv (.v 7) }, { o := .bin .add (.l 0) (.i 1) }, { o := .mv (.l 0), d := some 7 }] [])))
def law34_FiringMade_l1 : C := .loop true [0, 1, 8] K.law34_FiringMade_l1b
/-- /law34.FiringMade -/
def law34_FiringMade : Fn := { nargs := 1, vars := [0, 2, 3, 4, 5, 6, 7, 8, 9], body := (.seq (.reg [{ o := .mv (.b false), d := some 1 }] []) (.seq (.ite [{ o := .mv (.v 0) }, { o := .ca N.made_Light 0 [] [.l 0] }, { o := .un .not (.l 0) }] [] 0 (.seq (.reg [{ o := .ca N.law34_awake 0 [] [] }, { o := .mv (.l 0), d := some 1 }] []) .ret) .skip) (.seq (.reg [{ o := .mv (.v 0) }, { o := .ca N.made_Roll 0 [] [.l 0] }, { o := .mv (.l 0), d := some 2 }] []) (.seq (.reg [{ o := .mv (.v 2) }, { o := .ca N.law34_scene 0 [] [.l 0] }, { o := .mv (.l 0) }, { o := .ex (.l 0) 0 }, { o := .ex (.l 1) 1 }, { o := .ex (.l 2) 2 }, { o := .al [.nil, .t (.int .i64 (0)), .t (.int .i64 (0))] [], d := some 3 }, { o := .al [.nil, .nil, .t (.bool false)] [], d := some 4 }, { o := .al [.nil] [], d := some 5 }, { o := .st (.l 2) (.l 5) 3 [] }, { o := .st (.l 2) (.l 5) 3 [] }, { o := .st (.l 2) (.l 5) 1 [] }] []) (.seq (.ite [{ o := .mv (.v 2) }, { o := .ca N.made_Dice_One 0 [] [.l 0, .i 2] }] [] 0 (.reg [{ o := .ca N.law34_ready 0 [] [] }, { o := .mv (.l 0) }, { o := .ex (.l 0) 0 }, { o := .ex (.l 1) 1 }, { o := .ex (.l 2) 2 }, { o := .st (.v 3) (.l 2) 3 [] }, { o := .st (.v 4) (.l 2) 3 [] }, { o := .st (.v 5) (.l 2) 1 [] }] []) .skip) (.seq (.reg [{ o := .mv (.v 2) }, { o := .ca N.made_Dice_Next 0 [] [.l 0, .i 5] }, { o := .bd [.t (.int .i64 (0)), .t (.int .i64 (0)), .t (.int .i64 (0)), .t (.int .i64 (0))] [(0, 1, .l 0)] }, { o := .al [.t (.int .i64 (0)), .t (.int .i64 (0)), .t (.int .i64 (0)), .t (.int .i64 (0))] [], d := some 6 }, { o := .st (.l 0) (.l 1) 4 [] }] []) (.seq (.ite [{ o := .fa (.v 6) 0 }, { o := .ld (.l 0) 1 false }, { o := .bin .gtr (.l 0) (.i 0) }] [] 0 (.reg [{ o := .mv (.v 2) }, { o := .ca N.made_Dice_Next 0 [] [.l 0, .i 2] }, { o := .bin .add (.i 1) (.l 0) }, { o := .mv (.v 2) }, { o := .bs [.i 500, .i 0, .i 77] 1 }, { o := .ca N.made_Dice_Of 0 [] [.l 1, .l 0] }, { o := .fa (.v 6) 1 }, { o := .st (.l 0) (.l 4) 1 [] }, { o := .fa (.v 6) 3 }, { o := .st (.l 0) (.l 3) 1 [] }] []) .skip) (.seq (.ite [{ o := .fa (.v 6) 0 }, { o := .ld (.l 0) 1 false }, { o := .bin .gtr (.l 0) (.i 1) }] [] 0 (.reg [{ o := .fa (.v 6) 1 }, { o := .ld (.l 0) 1 false }, { o := .bin .sub (.i 3) (.l 0) }, { o := .fa (.v 6) 2 }, { o := .st (.l 0) (.l 1) 1 [] }] []) .skip) (.seq (.seq (.reg [{ o := .mv (.i 0), d := some 7 }] []) (.blk 0 K.law34_FiringMade_l1)) (.seq (.reg [{ o := .ca N.law34_awake 0 [] [] }, { o := .mv (.l 0), d := some 1 }] []) .ret)))))))))), res := [(1, none)] }
def law34_FiringNeeds_l1b : C := (.seq (.ite [{ o := .mv (.v 13) }, { o := .bin .gtr (.l 0) (.i 0) }] [] 0 .skip (.exit 0)) (.seq (.blk 1 (.seq (.reg [{ o := .mv (.v 8) }, { o := .mv (.v 2) }, { o := .bs [.i 0, .i 10, .i 200, .i 301] 1 }, { o := .ca N.made_Dice_Of 0 [] [.l 1, .l 0] }, { o := .bin .add (.l 3) (.l 0) }, { o := .mv (.l 0), d := some 8 }] []) (.seq (.reg [{ o := .al [.nil, .nil, .t (.bool false)] [], d := some 14 }, { o := .al [.nil] [], d := some 15 }, { o := .ld (.v 4) 3 true }, { o := .ld (.v 5) 1 true }, { o := .st (.l 3) (.l 1) 3 [] }, { o := .st (.l 3) (.l 1) 1 [] }] [(3, 5)]) (.seq (.reg [{ o := .mv (.v 2) }, { o := .ca N.made_Dice_Next 0 [] [.l 0, .i 6] }, { o := .bin .gtr (.l 0) (.i 0) }, { o := .fa (.v 14) 2 }, { o := .st (.l 0) (.l 1) 1 [] }] []) (.seq (.ite [{ o := .mv (.v 2) }, { o := .ca N.made_Dice_One 0 [] [.l 0, .i 6] }] [] 0 (.reg [{ o := .ld (.v 6) 1 true }, { o := .st (.v 15) (.l 0) 1 [] }] []) .skip) (.seq (.reg [{ o := .fa (.v 14) 2 }, { o := .ld (.l 0) 1 false }, { o := .mv (.l 0) }, { o := .fa (.v 15) 0, g := some (0, true) }, { o := .ld (.l 0) 1 false, g := some (1, true) }, { o := .ia (.l 0) (.i 0) 2, g := some (2, true) }, { o := .fa (.l 0) 1, g := some (3, true) }, { o := .ld (.l 0) 1 false, g := some (4, true) }, { o := .ia (.l 0) (.i 0) 2, g := some (5, true) }, { o := .fa (.l 0) 1, g := some (6, true) }, { o := .ld (.l 0) 1 false, g := some (7, true) }, { o := .ia (.l 0) (.i 1) 1, g := some (8, true) }, { o := .ld (.l 0) 1 false, g := some (9, true) }, { o := .bin .eql (.l 0) (.i 1099511627776), g := some (10, true) }, { o := .pk (.l 11) (.l 0) (.b false) }, { o := .mv (.l 0), d := some 16 }] []) (.seq (.reg [{ o := .mv (.v 2) }, { o := .ca N.made_Dice_Next 0 [] [.l 0, .i 3] }, { o := .bin .add (.i 1) (.l 0) }, { o := .mv (.l 0), d := some 17 }] []) (.seq (.seq (.reg [{ o := .mv (.v 2) }, { o := .ca N.made_Dice_Next 0 [] [.l 0, .i 4], d := some 26 }] []) (.blk 2 (.ite [{ o := .bin .eql (.v 26) (.i 0) }, { o := .mv (.l 0) }] [] 0 (.seq (.reg [{ o := .ld (.v 3) 3 true }, { o := .ld (.v 7) 4 true }, { o := .ld (.v 14) 3 true }, { o := .ld (.v 15) 1 true }, { o := .mv (.v 17) }, { o := .mv (.v 8) }, { o := .ca N.firing_Arm 0 [] [.l 5, .l 4, .l 3, .l 2, .l 1, .l 0] }, { o := .mv (.l 0) }, { o := .ex (.l 0) 0 }, { o := .ex (.l 1) 1 }, { o := .al [.t (.int .i64 (0)), .t (.int .i64 (0)), .t (.int .i64 (0)), .t (.int .i64 (0))] [], d := some 18 }, { o := .st (.l 0) (.l 2) 4 [] }, { o := .mv (.l 2), d := some 19 }] []) (.seq (.ite [{ o := .mv (.v 19) }, { o := .bin .eql (.l 0) (.i 0) }] [] 0 (.seq (.ite [{ o := .mv (.v 16) }, { o := .un .not (.l 0) }, { o := .mv (.l 0) }, { o := .fa (.v 7) 0, g := some (0, false) }, { o := .ld (.l 0) 1 false, g := some (1, false) }, { o := .bin .neq (.l 0) (.i 0), g := some (2, false) }, { o := .pk (.l 3) (.b true) (.l 0) }] [] 0 (.seq (.reg [{ o := .mv (.b false), d := some 1 }] []) .ret) .skip) (.reg [{ o := .mv (.v 8) }, { o := .mv (.v 17) }, { o := .mv (.l 1), d := some 9 }, { o := .mv (.l 1), d := some 11 }] [])) .skip) (.reg [{ o := .ld (.v 18) 4 true }, { o := .st (.v 7) (.l 0) 4 [] }] []))) (.ite [{ o := .bin .eql (.v 26) (.i 1) }, { o := .mv (.l 0) }] [] 0 (.seq (.reg [{ o := .ld (.v 3) 3 true }, { o := .ld (.v 7) 4 true }, { o := .ld (.v 14) 3 true }, { o := .ld (.v 15) 1 true }, { o := .mv (.v 17) }, { o := .mv (.v 8) }, { o := .ca N.firing_Agree 0 [] [.l 5, .l 4, .l 3, .l 2, .l 1, .l 0] }, { o := .mv (.l 0) }, { o := .ex (.l 0) 0 }, { o := .ex (.l 1) 1 }, { o := .al [.t (.int .i64 (0)), .t (.int .i64 (0)), .t (.int .i64 (0)), .t (.int .i64 (0))] [], d := some 20 }, { o := .st (.l 0) (.l 2) 4 [] }, { o := .mv (.l 2), d := some 21 }] []) (.seq (.ite [{ o := .mv (.v 21) }, { o := .bin .eql (.l 0) (.i 0) }] [] 0 (.seq (.ite [{ o := .mv (.v 16) }, { o := .un .not (.l 0) }, { o := .mv (.l 0) }, { o := .mv (.v 9), g := some (0, false) }, { o := .bin .lss (.l 0) (.i 0), g := some (1, false) }, { o := .pk (.l 2) (.b true) (.l 0) }, { o := .mv (.l 0) }, { o := .mv (.v 8), g := some (0, false) }, { o := .mv (.v 9), g := some (1, false) }, { o := .bin .sub (.l 1) (.l 0), g := some (2, false) }, { o := .fa (.v 3) 1, g := some (3, false) }, { o := .ld (.l 0) 1 false, g := some (4, false) }, { o := .bin .gtr (.l 2) (.l 0), g := some (5, false) }, { o := .pk (.l 6) (.b true) (.l 0) }, { o := .mv (.l 0) }, { o := .mv (.v 17), g := some (0, false) }, { o := .mv (.v 11), g := some (1, false) }, { o := .bin .eql (.l 1) (.l 0), g := some (2, false) }, { o := .pk (.l 3) (.b true) (.l 0) }] [] 0 (.seq (.reg [{ o := .mv (.b false), d := some 1 }] []) .ret) .skip) (.reg [{ o := .mv (.v 8) }, { o := .mv (.v 17) }, { o := .mv (.l 1), d := some 10 }, { o := .mv (.l 1), d := some 12 }] [])) .skip) (.reg [{ o := .ld (.v 20) 4 true }, { o := .st (.v 7) (.l 0) 4 [] }] []))) (.ite [{ o := .bin .eql (.v 26) (.i 2) }, { o := .mv (.l 0) }] [] 0 (.seq (.reg [{ o := .al [.t (.int .i64 (0)), .t (.int .i64 (0)), .t (.int .i64 (0)), .t (.int .i64 (0))] [], d := some 22 }, { o := .ld (.v 3) 3 true }, { o := .ld (.v 7) 4 true }, { o := .ld (.v 14) 3 true }, { o := .ld (.v 15) 1 true }, { o := .mv (.v 8) }, { o := .mv (.v 2) }, { o := .ca N.made_Dice_One 0 [] [.l 0, .i 3] }, { o := .ca N.firing_Fire 0 [] [.l 6, .l 5, .l 4, .l 3, .l 2, .l 0] }, { o := .mv (.l 0) }, { o := .ex (.l 0) 0 }, { o := .ex (.l 1) 1 }, { o := .st (.l 11) (.l 1) 4 [] }, { o := .mv (.l 1), d := some 23 }] [(0, 8), (0, 9), (1, 8), (2, 8), (3, 8), (4, 8)]) (.seq (.ite [{ o := .mv (.v 23) }, { o := .bin .eql (.l 0) (.i 0) }, { o := .mv (.l 0) }, { o := .mv (.v 16), g := some (0, true) }, { o := .un .not (.l 0), g := some (1, true) }, { o := .mv (.l 0), g := some (2, true) }, { o := .mv (.v 10), g := some (0, false) }, { o := .bin .lss (.l 0) (.i 0), g := some (1, false) }, { o := .pk (.l 2) (.b true) (.l 0), g := some (5, true) }, { o := .mv (.l 0), g := some (6, true) }, { o := .mv (.v 8), g := some (0, false) }, { o := .mv (.v 10), g := some (1, false) }, { o := .bin .sub (.l 1) (.l 0), g := some (2, false) }, { o := .fa (.v 3) 1, g := some (3, false) }, { o := .ld (.l 0) 1 false, g := some (4, false) }, { o := .bin .gtr (.l 2) (.l 0), g := some (5, false) }, { o := .pk (.l 6) (.b true) (.l 0), g := some (13, true) }, { o := .mv (.l 0), g := some (14, true) }, { o := .mv (.v 11), g := some (0, false) }, { o := .mv (.v 12), g := some (1, false) }, { o := .bin .eql (.l 1) (.l 0), g := some (2, false) }, { o := .pk (.l 3) (.b true) (.l 0), g := some (18, true) }, { o := .pk (.l 19) (.l 0) (.b false) }] [] 0 (.seq (.reg [{ o := .mv (.b false), d := some 1 }] []) .ret) .skip) (.reg [{ o := .ld (.v 22) 4 true }, { o := .st (.v 7) (.l 0) 4 [] }] []))) (.seq (.reg [{ o := .ld (.v 3) 3 true }, { o := .ld (.v 7) 4 true }, { o := .mv (.v 8) }, { o := .ca N.firing_Abort 0 [] [.l 2, .l 1, .l 0] }, { o := .mv (.l 0) }, { o := .ex (.l 0) 0 }, { o := .ex (.l 1) 1 }, { o := .al [.t (.int .i64 (0)), .t (.int .i64 (0)), .t (.int .i64 (0)), .t (.int .i64 (0))] [], d := some 24 }, { o := .st (.l 0) (.l 2) 4 [] }, { o := .mv (.l 2), d := some 25 }] []) (.seq (.ite [{ o := .mv (.v 25) }, { o := .bin .eql (.l 0) (.i 0) }] [] 0 (.reg [{ o := .mv (.i (-1)), d := some 9 }, { o := .mv (.i (-1)), d := some 10 }, { o := .mv (.i 0), d := some 11 }, { o := .mv (.i 0), d := some 12 }] []) .skip) (.reg [{ o := .ld (.v 24) 4 true }, { o := .st (.v 7) (.l 0) 4 [] }] [])))))))) (.ite [{ o := .ld (.v 3) 3 true }, { o := .ld (.v 7) 4 true }, { o := .ca N.firing_Valid 0 [] [.l 1, .l 0] }, { o := .un .not (.l 0) }] [] 0 (.seq (.reg [{ o := .mv (.b false), d := some 1 }] []) .ret) .skip))))))))) (.reg [{ o := .mv (.v 13) }, { o := .bin .sub (.l 0) (.i 1) }, { o := .mv (.l 0), d := some 13 }] [])))
def law34_FiringNeeds_l1 : C := .loop true [0, 1, 14, 15, 16, 17, 18, 19, 20, 21, 22, 23, 24, 25, 26] K.law34_FiringNeeds_l1b
/-- /law34.FiringNeeds -/
def law34_FiringNeeds : Fn := { nargs := 1, vars := [0, 2, 3, 4, 5, 6, 7, 8, 9, 10, 11, 12, 13, 14, 15, 16, 17, 18, 19, 20, 21, 22, 23, 24, 25, 26, 88], body := (.seq (.reg [{ o := .mv (.b false), d := some 1 }] []) (.seq (.ite [{ o := .mv (.v 0) }, { o := .ca N.made_Light 0 [] [.l 0] }, { o := .un .not (.l 0) }] [] 0 (.seq (.reg [{ o := .ca N.law34_awake 0 [] [] }, { o := .mv (.l 0), d := some 1 }] []) .ret) .skip) (.seq (.reg [{ o := .mv (.v 0) }, { o := .ca N.made_Roll 0 [] [.l 0] }, { o := .mv (.l 0), d := some 2 }] []) (.seq (.reg [{ o := .ca N.law34_ready 0 [] [] }, { o := .mv (.l 0) }, { o := .ex (.l 0) 0 }, { o := .ex (.l 1) 1 }, { o := .ex (.l 2) 2 }, { o := .al [.nil, .t (.int .i64 (0)), .t (.int .i64 (0))] [], d := some 3 }, { o := .al [.nil, .nil, .t (.bool false)] [], d := some 4 }, { o := .al [.nil] [], d := some 5 }, { o := .st (.l 2) (.l 5) 3 [] }, { o := .st (.l 2) (.l 5) 3 [] }, { o := .st (.l 2) (.l 5) 1 [] }] []) (.seq (.reg [{ o := .ld (.v 5) 1 true }, { o := .ca N.ref26_Copy_v2 3 [] [.l 0] }, { o := .al [.nil] [], d := some 6 }, { o := .st (.l 0) (.l 1) 1 [] }] []) (.seq (.reg [{ o := .fa (.v 6) 0 }, { o := .ld (.l 0) 1 false }, { o := .ia (.l 0) (.i 0) 2 }, { o := .fa (.l 0) 1 }, { o := .ld (.l 0) 1 false }, { o := .ia (.l 0) (.i 0) 2 }, { o := .fa (.l 0) 1 }, { o := .ld (.l 0) 1 false }, { o := .ia (.l 0) (.i 1) 1 }, { o := .st (.l 0) (.i 5000) 1 [] }] []) (.seq (.reg [{ o := .al [.t (.int .i64 (0)), .t (.int .i64 (0)), .t (.int .i64 (0)), .t (.int .i64 (0))] [], d := some 7 }] []) (.seq (.reg [{ o := .mv (.i 0), d := some 8 }, { o := .mv (.i (-1)), d := some 9 }, { o := .mv (.i (-1)), d := some 10 }, { o := .mv (.i 0), d := some 11 }, { o := .mv (.i 0), d := some 12 }] []) (.seq (.seq (.reg [{ o := .mv (.v 2) }, { o := .ca N.made_Dice_Next 0 [] [.l 0, .i 30] }, { o := .mv (.l 0), d := some 13 }] []) (.blk 0 K.law34_FiringNeeds_l1)) (.seq (.reg [{ o := .ca N.law34_awake 0 [] [] }, { o := .mv (.l 0), d := some 1 }] []) .ret)))))))))), res := [(1, none)] }
/-- /law34.awake -/
def law34_awake : Fn := { nargs := 0, vars := [0, 1, 2, 3, 4, 5, 6, 7, 8, 9, 11], body := (.seq (.reg [{ o := .mv (.b false), d := some 0 }] []) (.seq (.reg [{ o := .ca N.law34_ready 0 [] [] }, { o := .mv (.l 0) }, { o := .ex (.l 0) 0 }, { o := .ex (.l 1) 1 }, { o := .ex (.l 2) 2 }, { o := .al [.nil, .t (.int .i64 (0)), .t (.int .i64 (0))] [], d := some 1 }, { o := .al [.nil, .nil, .t (.bool false)] [], d := some 2 }, { o := .al [.nil] [], d := some 3 }, { o := .st (.l 2) (.l 5) 3 [] }, { o := .st (.l 2) (.l 5) 3 [] }, { o := .st (.l 2) (.l 5) 1 [] }] []) (.seq (.reg [{ o := .ld (.v 1) 3 true }, { o := .bd [.t (.int .i64 (0)), .t (.int .i64 (0)), .t (.int .i64 (0)), .t (.int .i64 (0))] [] }, { o := .ld (.v 2) 3 true }, { o := .ld (.v 3) 1 true }, { o := .ca N.firing_Arm 0 [] [.l 3, .l 2, .l 1, .l 0, .i 1, .i 100] }, { o := .mv (.l 0) }, { o := .ex (.l 0) 0 }, { o := .ex (.l 1) 1 }, { o := .al [.t (.int .i64 (0)), .t (.int .i64 (0)), .t (.int .i64 (0)), .t (.int .i64 (0))] [], d := some 4 }, { o := .st (.l 0) (.l 2) 4 [] }, { o := .mv (.l 2), d := some 5 }] []) (.seq (.reg [{ o := .ld (.v 1) 3 true }, { o := .ld (.v 4) 4 true }, { o := .ld (.v 2) 3 true }, { o := .ld (.v 3) 1 true }, { o := .ca N.firing_Agree 0 [] [.l 3, .l 2, .l 1, .l 0, .i 2, .i 200] }, { o := .mv (.l 0) }, { o := .ex (.l 0) 0 }, { o := .ex (.l 1) 1 }, { o := .al [.t (.int .i64 (0)), .t (.int .i64 (0)), .t (.int .i64 (0)), .t (.int .i64 (0))] [], d := some 6 }, { o := .st (.l 0) (.l 2) 4 [] }, { o := .mv (.l 2), d := some 7 }] []) (.seq (.reg [{ o := .ld (.v 1) 3 true }, { o := .ld (.v 6) 4 true }, { o := .ld (.v 2) 3 true }, { o := .ld (.v 3) 1 true }, { o := .ca N.firing_Fire 0 [] [.l 3, .l 2, .l 1, .l 0, .i 300, .b false] }, { o := .mv (.l 0) }, { o := .ex (.l 0) 0 }, { o := .ex (.l 1) 1 }, { o := .al [.t (.int .i64 (0)), .t (.int .i64 (0)), .t (.int .i64 (0)), .t (.int .i64 (0))] [], d := some 8 }, { o := .st (.l 0) (.l 2) 4 [] }, { o := .mv (.l 2), d := some 9 }] []) (.seq (.reg [{ o := .ld (.v 1) 3 true }, { o := .ld (.v 4) 4 true }, { o := .ld (.v 2) 3 true }, { o := .ld (.v 3) 1 true }, { o := .ca N.firing_Agree 0 [] [.l 3, .l 2, .l 1, .l 0, .i 1, .i 200] }, { o := .mv (.l 0) }, { o := .ex (.l 0) 0 }, { o := .ex (.l 1) 1 }, { o := .al [.t (.int .i64 (0)), .t (.int .i64 (0)), .t (.int .i64 (0)), .t (.int .i64 (0))] [] }, { o := .st (.l 0) (.l 2) 4 [] }, { o := .mv (.l 2), d := some 10 }] []) (.seq (.reg [{ o := .mv (.v 5) }, { o := .bin .eql (.l 0) (.i 0) }, { o := .mv (.l 0) }, { o := .mv (.v 7), g := some (0, true) }, { o := .bin .eql (.l 0) (.i 0), g := some (1, true) }, { o := .pk (.l 2) (.l 0) (.b false) }, { o := .mv (.l 0) }, { o := .mv (.v 9), g := some (0, true) }, { o := .bin .eql (.l 0) (.i 0), g := some (1, true) }, { o := .pk (.l 2) (.l 0) (.b false) }, { o := .mv (.l 0) }, { o := .mv (.v 10), g := some (0, true) }, { o := .bin .eql (.l 0) (.i 19), g := some (1, true) }, { o := .pk (.l 2) (.l 0) (.b false) }, { o := .mv (.l 0) }, { o := .fa (.v 4) 0, g := some (0, true) }, { o := .ld (.l 0) 1 false, g := some (1, true) }, { o := .bin .eql (.l 0) (.i 1), g := some (2, true) }, { o := .pk (.l 3) (.l 0) (.b false) }, { o := .mv (.l 0) }, { o := .fa (.v 8) 0, g := some (0, true) }, { o := .ld (.l 0) 1 false, g := some (1, true) }, { o := .bin .eql (.l 0) (.i 3), g := some (2, true) }, { o := .pk (.l 3) (.l 0) (.b false) }, { o := .mv (.l 0) }, { o := .fa (.v 8) 3, g := some (0, true) }, { o := .ld (.l 0) 1 false, g := some (1, true) }, { o := .bin .eql (.l 0) (.i 300), g := some (2, true) }, { o := .pk (.l 3) (.l 0) (.b false) }, { o := .mv (.l 0) }, { o := .ld (.v 1) 3 true, g := some (0, true) }, { o := .ld (.v 4) 4 true, g := some (1, true) }, { o := .ca N.firing_Due 0 [] [.l 1, .l 0, .i 150], g := some (2, true) }, { o := .bin .eql (.l 0) (.i 250), g := some (3, true) }, { o := .pk (.l 4) (.l 0) (.b false) }, { o := .mv (.l 0), d := some 0 }] []) .ret))))))), res := [(0, none)] }
def made_Dice_Ints_l1b : C := (.seq (.ite [{ o := .mv (.v 3) }, { o := .bin .gtr (.l 0) (.i 0) }] [] 0 .skip (.exit 0)) (.seq (.blk 1 (.reg [{ o := .mv (.v 2) }, { o := .mv (.v 0) }, { o := .ca N.made_Dice_Next 0 [] [.l 0, .i 9] }, { o := .bin .sub (.l 0) (.i 1) }, { o := .bs [.l 0] 1 }, { o := .app (.l 4) (.l 0) true 1 }, { o := .mv (.l 0), d := some 2 }] [])) (.reg [{ o := .mv (.v 3) }, { o := .bin .sub (.l 0) (.i 1) }, { o := .mv (.l 0), d := some 3 }] [])))
def made_Dice_Ints_l1 : C := .loop true [1] K.made_Dice_Ints_l1b
/-- (*/made.Dice).Ints -/
def made_Dice_Ints : Fn := { nargs := 1, vars := [0, 2, 3, 4], body := (.seq (.reg [{ o := .mv (.c (.nil)), d := some 1 }] []) (.seq (.reg [{ o := .nw 1, d := some 2 }] []) (.seq (.seq (.reg [{ o := .mv (.v 0) }, { o := .ca N.made_Dice_Next 0 [] [.l 0, .i 5] }, { o := .mv (.l 0), d := some 3 }] []) (.blk 0 K.made_Dice_Ints_l1)) (.seq (.reg [{ o := .mv (.v 2) }, { o := .mv (.l 0), d := some 1 }] []) .ret)))), res := [(1, none)] }
/-- /law34.scene -/
def law34_scene : Fn := { nargs := 1, vars := [0, 2, 3, 4, 5, 6, 7, 8, 9, 10, 11], body := (.seq (.reg [{ o := .al [.nil, .t (.int .i64 (0)), .t (.int .i64 (0))] [], d := some 1 }, { o := .al [.nil, .nil, .t (.bool false)] [], d := some 2 }, { o := .al [.nil] [], d := some 3 }] []) (.seq (.reg [{ o := .mv (.v 0) }, { o := .ca N.made_Dice_Mine 0 [] [.l 0] }, { o := .al [.nil, .nil] [], d := some 4 }, { o := .st (.l 0) (.l 1) 2 [] }] []) (.seq (.reg [{ o := .al [.nil, .t (.int .i64 (0)), .t (.int .i64 (0))] [], d := some 5 }, { o := .fa (.v 4) 0 }, { o := .ld (.l 0) 1 false }, { o := .ln (.l 0) }, { o := .bin .sub (.l 0) (.i 1) }, { o := .bs [.l 0] 1 }, { o := .mv (.v 0) }, { o := .bs [.i 299, .i 9] 1 }, { o := .ca N.made_Dice_Of 0 [] [.l 1, .l 0] }, { o := .bin .add (.i 1) (.l 0) }, { o := .mv (.v 0) }, { o := .bs [.i 1799, .i 9] 1 }, { o := .ca N.made_Dice_Of 0 [] [.l 1, .l 0] }, { o := .bin .add (.i 1) (.l 0) }, { o := .bd [.nil, .t (.int .i64 (0)), .t (.int .i64 (0))] [(0, 1, .l 8), (1, 1, .l 4), (2, 1, .l 0)] }, { o := .st (.l 14) (.l 0) 3 [] }] [(0, 9), (0, 13), (2, 9), (2, 13), (5, 9), (5, 13), (7, 7), (11, 1)]) (.seq (.reg [{ o := .mv (.v 0) }, { o := .ld (.v 4) 2 true }, { o := .ca N.made_Dice_Belief 0 [] [.l 1, .l 0] }, { o := .al [.nil] [], d := some 6 }, { o := .st (.l 0) (.l 1) 1 [] }] []) (.seq (.reg [{ o := .ld (.v 4) 2 true }, { o := .fa (.v 5) 0 }, { o := .ld (.l 0) 1 false }, { o := .ca N.ref32_Border 0 [] [.l 2, .l 0] }, { o := .mv (.l 0), d := some 7 }] []) (.seq (.reg [{ o := .al [.nil] [], d := some 8 }, { o := .ld (.v 4) 2 true }, { o := .ld (.v 6) 1 true }, { o := .mv (.v 7) }, { o := .ld (.v 6) 1 true }, { o := .ca N.made_Last 0 [] [.l 0] }, { o := .mv (.v 0) }, { o := .ca N.made_Dice_Next 0 [] [.l 0, .i 50] }, { o := .bin .add (.l 2) (.l 0) }, { o := .ca N.ref32_Seal 0 [] [.l 7, .l 6, .l 5, .l 0] }, { o := .mv (.l 0) }, { o := .ex (.l 0) 0 }, { o := .ex (.l 1) 1 }, { o := .st (.l 12) (.l 1) 1 [] }, { o := .mv (.l 1), d := some 9 }] [(0, 6), (0, 8), (0, 10), (1, 6), (1, 8), (2, 6), (2, 8)]) (.seq (.ite [{ o := .mv (.v 9) }, { o := .bin .neq (.l 0) (.i 0) }] [] 0 (.reg [{ o := .ld (.v 6) 1 true }, { o := .st (.v 8) (.l 0) 1 [] }] []) .skip) (.seq (.reg [{ o := .bs [.i 1] 1 }, { o := .bs [.i 2] 1 }, { o := .mv (.v 0) }, { o := .ca N.made_Dice_Next 0 [] [.l 0, .i 6] }, { o := .bin .gtr (.l 0) (.i 0) }, { o := .bd [.nil, .nil, .t (.bool false)] [(0, 1, .l 4), (1, 1, .l 3), (2, 1, .l 0)] }, { o := .al [.nil, .nil, .t (.bool false)] [], d := some 10 }, { o := .st (.l 0) (.l 1) 3 [] }] []) (.seq (.reg [{ o := .ld (.v 5) 3 true }, { o := .ld (.v 10) 3 true }, { o := .ld (.v 8) 1 true }, { o := .st (.v 1) (.l 2) 3 [] }, { o := .st (.v 2) (.l 2) 3 [] }, { o := .st (.v 3) (.l 2) 1 [] }] [(1, 4), (2, 4), (2, 5)]) .ret))))))))), res := [(1, some (3, true)), (2, some (3, true)), (3, some (1, true))] }
/-- /law34.agree -/
def law34_agree : Fn := { nargs := 7, vars := [0, 1, 2, 3, 4, 5, 6, 7, 8, 9, 10, 14, 15, 16, 17, 18, 19, 20, 21, 22, 23, 24, 25, 26, 27, 28, 29, 30], body := (.seq (.reg [{ o := .bx (.v 0) 3, d := some 7 }, { o := .bx (.v 1) 4, d := some 8 }, { o := .bx (.v 2) 3, d := some 9 }, { o := .bx (.v 3) 1, d := some 10 }, { o := .mv (.b false), d := some 11 }] []) (.seq (.reg [{ o := .ld (.v 7) 3 true }, { o := .ld (.v 8) 4 true }, { o := .ld (.v 9) 3 true }, { o := .ld (.v 10) 1 true }, { o := .mv (.v 4) }, { o := .mv (.v 5) }, { o := .ca N.firing_Arm 0 [] [.l 5, .l 4, .l 3, .l 2, .l 1, .l 0] }, { o := .mv (.l 0) }, { o := .ex (.l 0) 0 }, { o := .ex (.l 1) 1 }, { o := .al [.t (.int .i64 (0)), .t (.int .i64 (0)), .t (.int .i64 (0)), .t (.int .i64 (0))] [], d := some 12 }, { o := .st (.l 0) (.l 2) 4 [] }, { o := .mv (.l 2), d := some 13 }] []) (.seq (.reg [{ o := .ld (.v 7) 3 true }, { o := .ld (.v 8) 4 true }, { o := .ld (.v 9) 3 true }, { o := .ld (.v 10) 1 true }, { o := .mv (.v 4) }, { o := .mv (.v 5) }, { o := .ca N.ref34_Arm 0 [] [.l 5, .l 4, .l 3, .l 2, .l 1, .l 0] }, { o := .mv (.l 0) }, { o := .ex (.l 0) 0 }, { o := .ex (.l 1) 1 }, { o := .al [.t (.int .i64 (0)), .t (.int .i64 (0)), .t (.int .i64 (0)), .t (.int .i64 (0))] [], d := some 14 }, { o := .st (.l 0) (.l 2) 4 [] }, { o := .mv (.l 2), d := some 15 }] []) (.seq (.reg [{ o := .ld (.v 7) 3 true }, { o := .ld (.v 8) 4 true }, { o := .ld (.v 9) 3 true }, { o := .ld (.v 10) 1 true }, { o := .mv (.v 4) }, { o := .mv (.v 5) }, { o := .ca N.firing_Agree 0 [] [.l 5, .l 4, .l 3, .l 2, .l 1, .l 0] }, { o := .mv (.l 0) }, { o := .ex (.l 0) 0 }, { o := .ex (.l 1) 1 }, { o := .al [.t (.int .i64 (0)), .t (.int .i64 (0)), .t (.int .i64 (0)), .t (.int .i64 (0))] [], d := some 16 }, { o := .st (.l 0) (.l 2) 4 [] }, { o := .mv (.l 2), d := some 17 }] []) (.seq (.reg [{ o := .ld (.v 7) 3 true }, { o := .ld (.v 8) 4 true }, { o := .ld (.v 9) 3 true }, { o := .ld (.v 10) 1 true }, { o := .mv (.v 4) }, { o := .mv (.v 5) }, { o := .ca N.ref34_Agree 0 [] [.l 5, .l 4, .l 3, .l 2, .l 1, .l 0] }, { o := .mv (.l 0) }, { o := .ex (.l 0) 0 }, { o := .ex (.l 1) 1 }, { o := .al [.t (.int .i64 (0)), .t (.int .i64 (0)), .t (.int .i64 (0)), .t (.int .i64 (0))] [], d := some 18 }, { o := .st (.l 0) (.l 2) 4 [] }, { o := .mv (.l 2), d := some 19 }] []) (.seq (.reg [{ o := .ld (.v 7) 3 true }, { o := .ld (.v 8) 4 true }, { o := .ld (.v 9) 3 true }, { o := .ld (.v 10) 1 true }, { o := .mv (.v 5) }, { o := .mv (.v 6) }, { o := .ca N.firing_Fire 0 [] [.l 5, .l 4, .l 3, .l 2, .l 1, .l 0] }, { o := .mv (.l 0) }, { o := .ex (.l 0) 0 }, { o := .ex (.l 1) 1 }, { o := .al [.t (.int .i64 (0)), .t (.int .i64 (0)), .t (.int .i64 (0)), .t (.int .i64 (0))] [], d := some 20 }, { o := .st (.l 0) (.l 2) 4 [] }, { o := .mv (.l 2), d := some 21 }] []) (.seq (.reg [{ o := .ld (.v 7) 3 true }, { o := .ld (.v 8) 4 true }, { o := .ld (.v 9) 3 true }, { o := .ld (.v 10) 1 true }, { o := .mv (.v 5) }, { o := .mv (.v 6) }, { o := .ca N.ref34_Fire 0 [] [.l 5, .l 4, .l 3, .l 2, .l 1, .l 0] }, { o := .mv (.l 0) }, { o := .ex (.l 0) 0 }, { o := .ex (.l 1) 1 }, { o := .al [.t (.int .i64 (0)), .t (.int .i64 (0)), .t (.int .i64 (0)), .t (.int .i64 (0))] [], d := some 22 }, { o := .st (.l 0) (.l 2) 4 [] }, { o := .mv (.l 2), d := some 23 }] []) (.seq (.reg [{ o := .ld (.v 7) 3 true }, { o := .ld (.v 8) 4 true }, { o := .mv (.v 5) }, { o := .ca N.firing_Abort 0 [] [.l 2, .l 1, .l 0] }, { o := .mv (.l 0) }, { o := .ex (.l 0) 0 }, { o := .ex (.l 1) 1 }, { o := .al [.t (.int .i64 (0)), .t (.int .i64 (0)), .t (.int .i64 (0)), .t (.int .i64 (0))] [], d := some 24 }, { o := .st (.l 0) (.l 2) 4 [] }, { o := .mv (.l 2), d := some 25 }] []) (.seq (.reg [{ o := .ld (.v 7) 3 true }, { o := .ld (.v 8) 4 true }, { o := .mv (.v 5) }, { o := .ca N.ref34_Abort 0 [] [.l 2, .l 1, .l 0] }, { o := .mv (.l 0) }, { o := .ex (.l 0) 0 }, { o := .ex (.l 1) 1 }, { o := .al [.t (.int .i64 (0)), .t (.int .i64 (0)), .t (.int .i64 (0)), .t (.int .i64 (0))] [], d := some 26 }, { o := .st (.l 0) (.l 2) 4 [] }, { o := .mv (.l 2), d := some 27 }] []) (.seq (.reg [{ o := .ld (.v 12) 4 true }, { o := .ld (.v 14) 4 true }, { o := .eqk (.ints 4) false (.l 1) (.l 0) }, { o := .mv (.l 0) }, { o := .mv (.v 13), g := some (0, true) }, { o := .mv (.v 15), g := some (1, true) }, { o := .bin .eql (.l 1) (.l 0), g := some (2, true) }, { o := .pk (.l 3) (.l 0) (.b false) }, { o := .mv (.l 0) }, { o := .ld (.v 16) 4 true, g := some (0, true) }, { o := .ld (.v 18) 4 true, g := some (1, true) }, { o := .eqk (.ints 4) false (.l 1) (.l 0), g := some (2, true) }, { o := .pk (.l 3) (.l 0) (.b false) }, { o := .mv (.l 0) }, { o := .mv (.v 17), g := some (0, true) }, { o := .mv (.v 19), g := some (1, true) }, { o := .bin .eql (.l 1) (.l 0), g := some (2, true) }, { o := .pk (.l 3) (.l 0) (.b false) }, { o := .mv (.l 0) }, { o := .ld (.v 20) 4 true, g := some (0, true) }, { o := .ld (.v 22) 4 true, g := some (1, true) }, { o := .eqk (.ints 4) false (.l 1) (.l 0), g := some (2, true) }, { o := .pk (.l 3) (.l 0) (.b false) }, { o := .mv (.l 0) }, { o := .mv (.v 21), g := some (0, true) }, { o := .mv (.v 23), g := some (1, true) }, { o := .bin .eql (.l 1) (.l 0), g := some (2, true) }, { o := .pk (.l 3) (.l 0) (.b false) }, { o := .mv (.l 0) }, { o := .ld (.v 24) 4 true, g := some (0, true) }, { o := .ld (.v 26) 4 true, g := some (1, true) }, { o := .eqk (.ints 4) false (.l 1) (.l 0), g := some (2, true) }, { o := .pk (.l 3) (.l 0) (.b false) }, { o := .mv (.l 0) }, { o := .mv (.v 25), g := some (0, true) }, { o := .mv (.v 27), g := some (1, true) }, { o := .bin .eql (.l 1) (.l 0), g := some (2, true) }, { o := .pk (.l 3) (.l 0) (.b false) }, { o := .mv (.l 0) }, { o := .ld (.v 7) 3 true, g := some (0, true) }, { o := .ld (.v 8) 4 true, g := some (1, true) }, { o := .ca N.firing_Valid 0 [] [.l 1, .l 0], g := some (2, true) }, { o := .ld (.v 7) 3 true, g := some (3, true) }, { o := .ld (.v 8) 4 true, g := some (4, true) }, { o := .ca N.ref34_Valid 0 [] [.l 1, .l 0], g := some (5, true) }, { o := .eqk (.bool) false (.l 3) (.l 0), g := some (6, true) }, { o := .pk (.l 7) (.l 0) (.b false) }, { o := .mv (.l 0) }, { o := .ld (.v 7) 3 true, g := some (0, true) }, { o := .ld (.v 9) 3 true, g := some (1, true) }, { o := .ld (.v 10) 1 true, g := some (2, true) }, { o := .ca N.firing_Safe 0 [] [.l 2, .l 1, .l 0], g := some (3, true) }, { o := .ld (.v 7) 3 true, g := some (4, true) }, { o := .ld (.v 9) 3 true, g := some (5, true) }, { o := .ld (.v 10) 1 true, g := some (6, true) }, { o := .ca N.ref34_Safe 0 [] [.l 2, .l 1, .l 0], g := some (7, true) }, { o := .eqk (.bool) false (.l 4) (.l 0), g := some (8, true) }, { o := .pk (.l 9) (.l 0) (.b false) }, { o := .mv (.l 0) }, { o := .ld (.v 7) 3 true, g := some (0, true) }, { o := .ld (.v 8) 4 true, g := some (1, true) }, { o := .mv (.v 5), g := some (2, true) }, { o := .ca N.firing_Due 0 [] [.l 2, .l 1, .l 0], g := some (3, true) }, { o := .ld (.v 7) 3 true, g := some (4, true) }, { o := .ld (.v 8) 4 true, g := some (5, true) }, { o := .mv (.v 5), g := some (6, true) }, { o := .ca N.ref34_Due 0 [] [.l 2, .l 1, .l 0], g := some (7, true) }, { o := .bin .eql (.l 4) (.l 0), g := some (8, true) }, { o := .pk (.l 9) (.l 0) (.b false) }, { o := .mv (.l 0), d := some 11 }] [(42, 0), (43, 0), (52, 45), (53, 45), (54, 45), (63, 56), (64, 56)]) .ret)))))))))), res := [(11, none)] }
/-- /law34.ready -/
def law34_ready : Fn := { nargs := 0, vars := [0, 1, 2, 3], body := (.seq (.reg [{ o := .al [.nil, .t (.int .i64 (0)), .t (.int .i64 (0))] [], d := some 0 }, { o := .al [.nil, .nil, .t (.bool false)] [], d := some 1 }, { o := .al [.nil] [], d := some 2 }] []) (.seq (.reg [{ o := .bs [.i 0, .i 1099511627776] 1 }, { o := .bd [.t (.int .i64 (0)), .nil] [(1, 1, .l 0)] }, { o := .al [.t (.int .i64 (0)), .nil] [], d := some 3 }, { o := .st (.l 0) (.l 1) 2 [] }] []) (.seq (.reg [{ o := .bs [.i 1] 1 }, { o := .bd [.nil, .t (.int .i64 (0)), .t (.int .i64 (0))] [(0, 1, .l 0), (1, 1, .i 300), (2, 1, .i 1800)] }, { o := .bs [.i 0] 1 }, { o := .bs [.i 2] 1 }, { o := .bd [.nil, .nil, .t (.bool false)] [(0, 1, .l 1), (1, 1, .l 0), (2, 1, .b true)] }, { o := .bs [.i 1] 1 }, { o := .ld (.v 3) 2 true }, { o := .bs [.l 0] 2 }, { o := .bd [.nil, .nil] [(0, 1, .l 2), (1, 1, .l 0)] }, { o := .bs [.l 0] 2 }, { o := .bd [.nil] [(0, 1, .l 0)] }, { o := .st (.v 0) (.l 9) 3 [] }, { o := .st (.v 1) (.l 7) 3 [] }, { o := .st (.v 2) (.l 2) 1 [] }] [(0, 0), (2, 12), (3, 12), (5, 12), (5, 13), (6, 12), (6, 13), (7, 12), (7, 13), (9, 12), (9, 13)]) .ret))), res := [(0, some (3, true)), (1, some (3, true)), (2, some (1, true))] }
/-- /firing.Arm -/
def firing_Arm : Fn := { nargs := 6, vars := [0, 1, 2, 3, 4, 5, 6, 7, 8, 9, 12, 13, 14], body := (.seq (.reg [{ o := .bx (.v 0) 3, d := some 6 }, { o := .bx (.v 1) 4, d := some 7 }, { o := .bx (.v 2) 3, d := some 8 }, { o := .bx (.v 3) 1, d := some 9 }, { o := .al [.t (.int .i64 (0)), .t (.int .i64 (0)), .t (.int .i64 (0)), .t (.int .i64 (0))] [], d := some 10 }, { o := .mv (.i 0), d := some 11 }] []) (.seq (.seq (.reg [{ o := .ld (.v 6) 3 true }, { o := .ld (.v 7) 4 true }, { o := .ld (.v 8) 3 true }, { o := .ld (.v 9) 1 true }, { o := .mv (.v 5) }, { o := .bd [.nil, .t (.int .i64 (0)), .t (.int .i64 (0)), .t (.int .i64 (0)), .t (.int .i64 (0)), .t (.int .i64 (0)), .t (.int .i64 (0)), .nil, .nil, .t (.bool false), .nil, .t (.int .i64 (0)), .t (.int .i64 (0))] [(0, 3, .l 4), (3, 4, .l 3), (7, 3, .l 2), (10, 1, .l 1), (11, 1, .l 0), (12, 1, .i 0)] }, { o := .mv (.v 4) }, { o := .bin .leq (.l 0) (.i 0) }, { o := .ca N.firing_request_check 0 [] [.l 2, .l 0] }, { o := .mv (.l 0), d := some 12 }] []) (.ite [{ o := .mv (.v 12) }, { o := .bin .neq (.l 0) (.i 0) }] [] 0 (.seq (.reg [{ o := .ld (.v 7) 4 true }, { o := .mv (.v 12) }, { o := .st (.v 10) (.l 1) 4 [] }, { o := .mv (.l 1), d := some 11 }] []) .ret) .skip)) (.seq (.reg [{ o := .mv (.v 4) }, { o := .mv (.v 5) }, { o := .bd [.t (.int .i64 (0)), .t (.int .i64 (0)), .t (.int .i64 (0)), .t (.int .i64 (0))] [(0, 1, .i 1), (1, 1, .l 1), (3, 1, .l 0)] }, { o := .st (.v 10) (.l 0) 4 [] }, { o := .mv (.i 0), d := some 11 }] []) .ret))), res := [(10, some (4, true)), (11, none)] }
/-- /firing.Agree -/
def firing_Agree : Fn := { nargs := 6, vars := [0, 1, 2, 3, 4, 5, 6, 7, 8, 9, 12, 13, 14], body := (.seq (.reg [{ o := .bx (.v 0) 3, d := some 6 }, { o := .bx (.v 1) 4, d := some 7 }, { o := .bx (.v 2) 3, d := some 8 }, { o := .bx (.v 3) 1, d := some 9 }, { o := .al [.t (.int .i64 (0)), .t (.int .i64 (0)), .t (.int .i64 (0)), .t (.int .i64 (0))] [], d := some 10 }, { o := .mv (.i 0), d := some 11 }] []) (.seq (.seq (.reg [{ o := .ld (.v 6) 3 true }, { o := .ld (.v 7) 4 true }, { o := .ld (.v 8) 3 true }, { o := .ld (.v 9) 1 true }, { o := .mv (.v 5) }, { o := .bd [.nil, .t (.int .i64 (0)), .t (.int .i64 (0)), .t (.int .i64 (0)), .t (.int .i64 (0)), .t (.int .i64 (0)), .t (.int .i64 (0)), .nil, .nil, .t (.bool false), .nil, .t (.int .i64 (0)), .t (.int .i64 (0))] [(0, 3, .l 4), (3, 4, .l 3), (7, 3, .l 2), (10, 1, .l 1), (11, 1, .l 0), (12, 1, .i 1)] }, { o := .mv (.v 4) }, { o := .bin .leq (.l 0) (.i 0) }, { o := .mv (.l 0) }, { o := .mv (.v 4), g := some (0, false) }, { o := .fa (.v 7) 1, g := some (1, false) }, { o := .ld (.l 0) 1 false, g := some (2, false) }, { o := .bin .eql (.l 2) (.l 0), g := some (3, false) }, { o := .pk (.l 4) (.b true) (.l 0) }, { o := .ca N.firing_request_check 0 [] [.l 8, .l 0] }, { o := .mv (.l 0), d := some 12 }] []) (.ite [{ o := .mv (.v 12) }, { o := .bin .neq (.l 0) (.i 0) }] [] 0 (.seq (.reg [{ o := .ld (.v 7) 4 true }, { o := .mv (.v 12) }, { o := .st (.v 10) (.l 1) 4 [] }, { o := .mv (.l 1), d := some 11 }] []) .ret) .skip)) (.seq (.reg [{ o := .mv (.v 4) }, { o := .mv (.v 5) }, { o := .fa (.v 7) 0 }, { o := .st (.l 0) (.i 2) 1 [] }, { o := .fa (.v 7) 2 }, { o := .st (.l 0) (.l 4) 1 [] }, { o := .fa (.v 7) 3 }, { o := .st (.l 0) (.l 5) 1 [] }] []) (.seq (.reg [{ o := .ld (.v 7) 4 true }, { o := .st (.v 10) (.l 0) 4 [] }, { o := .mv (.i 0), d := some 11 }] []) .ret)))), res := [(10, some (4, true)), (11, none)] }
/-- /firing.Fire -/
def firing_Fire : Fn := { nargs := 6, vars := [0, 1, 2, 3, 4, 5, 6, 7, 8, 9, 12, 13, 14], body := (.seq (.reg [{ o := .bx (.v 0) 3, d := some 6 }, { o := .bx (.v 1) 4, d := some 7 }, { o := .bx (.v 2) 3, d := some 8 }, { o := .bx (.v 3) 1, d := some 9 }, { o := .al [.t (.int .i64 (0)), .t (.int .i64 (0)), .t (.int .i64 (0)), .t (.int .i64 (0))] [], d := some 10 }, { o := .mv (.i 0), d := some 11 }] []) (.seq (.seq (.reg [{ o := .ld (.v 6) 3 true }, { o := .ld (.v 7) 4 true }, { o := .ld (.v 8) 3 true }, { o := .ld (.v 9) 1 true }, { o := .mv (.v 4) }, { o := .bd [.nil, .t (.int .i64 (0)), .t (.int .i64 (0)), .t (.int .i64 (0)), .t (.int .i64 (0)), .t (.int .i64 (0)), .t (.int .i64 (0)), .nil, .nil, .t (.bool false), .nil, .t (.int .i64 (0)), .t (.int .i64 (0))] [(0, 3, .l 4), (3, 4, .l 3), (7, 3, .l 2), (10, 1, .l 1), (11, 1, .l 0), (12, 1, .i 2)] }, { o := .ca N.firing_request_check 0 [] [.l 0, .b false] }, { o := .mv (.l 0), d := some 12 }] []) (.ite [{ o := .mv (.v 12) }, { o := .bin .neq (.l 0) (.i 0) }] [] 0 (.seq (.reg [{ o := .ld (.v 7) 4 true }, { o := .mv (.v 12) }, { o := .st (.v 10) (.l 1) 4 [] }, { o := .mv (.l 1), d := some 11 }] []) .ret) .skip)) (.seq (.reg [{ o := .mv (.v 4) }, { o := .fa (.v 7) 0 }, { o := .st (.l 0) (.i 3) 1 [] }, { o := .fa (.v 7) 3 }, { o := .st (.l 0) (.l 3) 1 [] }] []) (.seq (.ite [{ o := .mv (.v 5) }] [] 0 (.reg [{ o := .fa (.v 7) 0 }, { o := .st (.l 0) (.i 4) 1 [] }] []) .skip) (.seq (.reg [{ o := .ld (.v 7) 4 true }, { o := .st (.v 10) (.l 0) 4 [] }, { o := .mv (.i 0), d := some 11 }] []) .ret))))), res := [(10, some (4, true)), (11, none)] }
/-- /firing.Abort -/
def firing_Abort : Fn := { nargs := 3, vars := [0, 1, 2, 3, 4, 6, 7], body := (.seq (.reg [{ o := .bx (.v 0) 3, d := some 3 }, { o := .bx (.v 1) 4, d := some 4 }, { o := .al [.t (.int .i64 (0)), .t (.int .i64 (0)), .t (.int .i64 (0)), .t (.int .i64 (0))] [], d := some 5 }, { o := .mv (.i 0), d := some 6 }] []) (.seq (.blk 0 (.ite [{ o := .ld (.v 3) 3 true }, { o := .ld (.v 4) 4 true }, { o := .ca N.firing_Valid 0 [] [.l 1, .l 0] }, { o := .un .not (.l 0) }, { o := .mv (.l 0) }] [] 0 (.seq (.reg [{ o := .ld (.v 4) 4 true }, { o := .st (.v 5) (.l 0) 4 [] }, { o := .mv (.i 6), d := some 6 }] []) .ret) (.ite [{ o := .fa (.v 4) 0 }, { o := .ld (.l 0) 1 false }, { o := .bin .eql (.l 0) (.i 0) }, { o := .mv (.l 0) }] [] 0 (.seq (.reg [{ o := .ld (.v 4) 4 true }, { o := .st (.v 5) (.l 0) 4 [] }, { o := .mv (.i 10), d := some 6 }] []) .ret) (.ite [{ o := .ld (.v 4) 4 true }, { o := .mv (.v 2) }, { o := .ca N.firing_timely 0 [] [.l 1, .l 0] }, { o := .un .not (.l 0) }, { o := .mv (.l 0) }] [] 0 (.seq (.reg [{ o := .ld (.v 4) 4 true }, { o := .st (.v 5) (.l 0) 4 [] }, { o := .mv (.i 8), d := some 6 }] []) .ret) (.ite [{ o := .fa (.v 4) 0 }, { o := .ld (.l 0) 1 false }, { o := .bin .eql (.l 0) (.i 4) }, { o := .mv (.l 0) }, { o := .mv (.v 2), g := some (0, true) }, { o := .fa (.v 4) 3, g := some (1, true) }, { o := .ld (.l 0) 1 false, g := some (2, true) }, { o := .bin .sub (.l 2) (.l 0), g := some (3, true) }, { o := .fa (.v 3) 2, g := some (4, true) }, { o := .ld (.l 0) 1 false, g := some (5, true) }, { o := .bin .lss (.l 2) (.l 0), g := some (6, true) }, { o := .pk (.l 7) (.l 0) (.b false) }, { o := .mv (.l 0) }] [] 0 (.seq (.reg [{ o := .ld (.v 4) 4 true }, { o := .st (.v 5) (.l 0) 4 [] }, { o := .mv (.i 10), d := some 6 }] []) .ret) .skip))))) (.seq (.reg [{ o := .bd [.t (.int .i64 (0)), .t (.int .i64 (0)), .t (.int .i64 (0)), .t (.int .i64 (0))] [] }, { o := .st (.v 5) (.l 0) 4 [] }, { o := .mv (.i 0), d := some 6 }] []) .ret))), res := [(5, some (4, true)), (6, none)] }
/-- /firing.Valid -/
def firing_Valid : Fn := { nargs := 2, vars := [0, 1, 2, 3, 4, 34, 50], body := (.seq (.reg [{ o := .bx (.v 0) 3, d := some 2 }, { o := .bx (.v 1) 4, d := some 3 }, { o := .mv (.b false), d := some 4 }] []) (.seq (.ite [{ o := .fa (.v 2) 0 }, { o := .ld (.l 0) 1 false }, { o := .ln (.l 0) }, { o := .bin .eql (.l 0) (.i 0) }, { o := .mv (.l 0) }, { o := .fa (.v 2) 0, g := some (0, false) }, { o := .ld (.l 0) 1 false, g := some (1, false) }, { o := .ca N.lists_Rising 0 [] [.l 0, .i 0, .i 63], g := some (2, false) }, { o := .un .not (.l 0), g := some (3, false) }, { o := .pk (.l 4) (.b true) (.l 0) }, { o := .mv (.l 0) }, { o := .fa (.v 2) 1, g := some (0, false) }, { o := .ld (.l 0) 1 false, g := some (1, false) }, { o := .ca N.lists_In 0 [] [.l 0, .i 1, .i 100000], g := some (2, false) }, { o := .un .not (.l 0), g := some (3, false) }, { o := .pk (.l 4) (.b true) (.l 0) }, { o := .mv (.l 0) }, { o := .fa (.v 2) 2, g := some (0, false) }, { o := .ld (.l 0) 1 false, g := some (1, false) }, { o := .ca N.lists_In 0 [] [.l 0, .i 1, .i 100000], g := some (2, false) }, { o := .un .not (.l 0), g := some (3, false) }, { o := .pk (.l 4) (.b true) (.l 0) }, { o := .mv (.l 0) }, { o := .fa (.v 3) 3, g := some (0, false) }, { o := .ld (.l 0) 1 false, g := some (1, false) }, { o := .ca N.lists_In 0 [] [.l 0, .i 0, .i 2147483648], g := some (2, false) }, { o := .un .not (.l 0), g := some (3, false) }, { o := .pk (.l 4) (.b true) (.l 0) }] [] 0 (.seq (.reg [{ o := .mv (.b false), d := some 4 }] []) .ret) .skip) (.seq (.seq (.reg [{ o := .fa (.v 3) 0 }, { o := .ld (.l 0) 1 false, d := some 5 }] []) (.blk 0 (.ite [{ o := .bin .eql (.v 5) (.i 0) }, { o := .mv (.l 0) }] [] 0 (.seq (.reg [{ o := .ld (.v 3) 4 true }, { o := .bd [.t (.int .i64 (0)), .t (.int .i64 (0)), .t (.int .i64 (0)), .t (.int .i64 (0))] [] }, { o := .eqk (.ints 4) false (.l 1) (.l 0) }, { o := .mv (.l 0), d := some 4 }] []) .ret) (.ite [{ o := .bin .eql (.v 5) (.i 1) }, { o := .mv (.l 0) }] [] 0 (.seq (.reg [{ o := .fa (.v 3) 1 }, { o := .ld (.l 0) 1 false }, { o := .bin .gtr (.l 0) (.i 0) }, { o := .mv (.l 0) }, { o := .fa (.v 3) 2, g := some (0, true) }, { o := .ld (.l 0) 1 false, g := some (1, true) }, { o := .bin .eql (.l 0) (.i 0), g := some (2, true) }, { o := .pk (.l 3) (.l 0) (.b false) }, { o := .mv (.l 0), d := some 4 }] []) .ret) (.seq (.seq (.reg [{ o := .bin .eql (.v 5) (.i 2) }, { o := .mv (.l 0), d := some 6 }] []) (.itv 6 .skip (.seq (.reg [{ o := .bin .eql (.v 5) (.i 3) }, { o := .mv (.l 0), d := some 6 }] []) (.itv 6 .skip (.reg [{ o := .bin .eql (.v 5) (.i 4) }, { o := .mv (.l 0), d := some 6 }] []))))) (.itv 6 (.seq (.reg [{ o := .fa (.v 3) 1 }, { o := .ld (.l 0) 1 false }, { o := .bin .gtr (.l 0) (.i 0) }, { o := .mv (.l 0) }, { o := .fa (.v 3) 2, g := some (0, true) }, { o := .ld (.l 0) 1 false, g := some (1, true) }, { o := .bin .gtr (.l 0) (.i 0), g := some (2, true) }, { o := .pk (.l 3) (.l 0) (.b false) }, { o := .mv (.l 0) }, { o := .fa (.v 3) 1, g := some (0, true) }, { o := .ld (.l 0) 1 false, g := some (1, true) }, { o := .fa (.v 3) 2, g := some (2, true) }, { o := .ld (.l 0) 1 false, g := some (3, true) }, { o := .bin .neq (.l 2) (.l 0), g := some (4, true) }, { o := .pk (.l 5) (.l 0) (.b false) }, { o := .mv (.l 0), d := some 4 }] []) .ret) .skip)))))) (.seq (.reg [{ o := .mv (.b false), d := some 4 }] []) .ret)))), res := [(4, none)] }
/-- /firing.Due -/
def firing_Due : Fn := { nargs := 3, vars := [0, 1, 2, 3, 4, 6, 18, 19], body := (.seq (.reg [{ o := .bx (.v 0) 3, d := some 3 }, { o := .bx (.v 1) 4, d := some 4 }, { o := .mv (.i 0), d := some 5 }] []) (.seq (.ite [{ o := .ld (.v 3) 3 true }, { o := .ld (.v 4) 4 true }, { o := .ca N.firing_Valid 0 [] [.l 1, .l 0] }, { o := .un .not (.l 0) }, { o := .mv (.l 0) }, { o := .mv (.v 2), g := some (0, false) }, { o := .fa (.v 4) 3, g := some (1, false) }, { o := .ld (.l 0) 1 false, g := some (2, false) }, { o := .bin .lss (.l 2) (.l 0), g := some (3, false) }, { o := .pk (.l 4) (.b true) (.l 0) }] [] 0 (.seq (.reg [{ o := .mv (.i 0), d := some 5 }] []) .ret) .skip) (.seq (.seq (.reg [{ o := .fa (.v 4) 0 }, { o := .ld (.l 0) 1 false, d := some 6 }] []) (.blk 0 (.seq (.seq (.reg [{ o := .bin .eql (.v 6) (.i 1) }, { o := .mv (.l 0), d := some 7 }] []) (.itv 7 .skip (.reg [{ o := .bin .eql (.v 6) (.i 2) }, { o := .mv (.l 0), d := some 7 }] []))) (.itv 7 (.seq (.reg [{ o := .fa (.v 3) 1 }, { o := .ld (.l 0) 1 false }, { o := .mv (.v 2) }, { o := .fa (.v 4) 3 }, { o := .ld (.l 0) 1 false }, { o := .bin .sub (.l 2) (.l 0) }, { o := .bin .sub (.l 4) (.l 0) }, { o := .mx [.i 0, .l 0] }, { o := .mv (.l 0), d := some 5 }] []) .ret) (.ite [{ o := .bin .eql (.v 6) (.i 4) }, { o := .mv (.l 0) }] [] 0 (.seq (.reg [{ o := .fa (.v 3) 2 }, { o := .ld (.l 0) 1 false }, { o := .mv (.v 2) }, { o := .fa (.v 4) 3 }, { o := .ld (.l 0) 1 false }, { o := .bin .sub (.l 2) (.l 0) }, { o := .bin .sub (.l 4) (.l 0) }, { o := .mx [.i 0, .l 0] }, { o := .mv (.l 0), d := some 5 }] []) .ret) .skip))))) (.seq (.reg [{ o := .mv (.i 0), d := some 5 }] []) .ret)))), res := [(5, none)] }
def ref32_Border_l1b : C := (.seq (.ite [{ o := .mv (.v 5) }, { o := .fa (.v 2) 1 }, { o := .ld (.l 0) 1 false }, { o := .ln (.l 0) }, { o := .bin .lss (.l 3) (.l 0) }] [] 0 .skip (.exit 0)) (.seq (.blk 1 (.seq (.reg [{ o := .fa (.v 2) 1 }, { o := .ld (.l 0) 1 false }, { o := .mv (.v 5) }, { o := .ia (.l 1) (.l 0) 10 }, { o := .ld (.l 0) 10 true }, { o := .al [.t (.int .i64 (0)), .t (.int .i64 (0)), .t (.int .i64 (0)), .t (.int .i64 (0)), .t (.bool false), .t (.bool false), .t (.int .i64 (0)), .t (.int .i64 (0)), .t (.int .i64 (0)), .t (.int .i64 (0))] [], d := some 6 }, { o := .st (.l 0) (.l 1) 10 [] }] []) (.seq (.reg [{ o := .ld (.v 2) 2 true }, { o := .mv (.v 5) }, { o := .ca N.ref03_Time 0 [] [.l 1, .l 0, .b false] }, { o := .bin .geq (.l 0) (.i 0) }, { o := .mv (.l 0) }, { o := .ld (.v 2) 2 true, g := some (0, false) }, { o := .mv (.v 5), g := some (1, false) }, { o := .ca N.ref03_Time 0 [] [.l 1, .l 0, .b true], g := some (2, false) }, { o := .bin .geq (.l 0) (.i 0), g := some (3, false) }, { o := .pk (.l 4) (.b true) (.l 0) }, { o := .mv (.l 0), d := some 7 }] []) (.ite [{ o := .fa (.v 6) 5 }, { o := .ld (.l 0) 1 false }, { o := .un .not (.l 0) }, { o := .mv (.l 0) }, { o := .mv (.v 7), g := some (0, true) }, { o := .pk (.l 1) (.l 0) (.b false) }, { o := .mv (.l 0) }, { o := .mv (.v 1), g := some (0, true) }, { o := .fa (.v 6) 0, g := some (1, true) }, { o := .ld (.l 0) 1 false, g := some (2, true) }, { o := .ca N.ref23_Has 0 [] [.l 2, .l 0], g := some (3, true) }, { o := .mv (.v 1), g := some (4, true) }, { o := .fa (.v 6) 1, g := some (5, true) }, { o := .ld (.l 0) 1 false, g := some (6, true) }, { o := .ca N.ref23_Has 0 [] [.l 2, .l 0], g := some (7, true) }, { o := .eqk (.bool) true (.l 4) (.l 0), g := some (8, true) }, { o := .pk (.l 9) (.l 0) (.b false) }] [(13, 0)] 0 (.reg [{ o := .mv (.v 4) }, { o := .mv (.v 5) }, { o := .bs [.l 0] 1 }, { o := .app (.l 2) (.l 0) true 1 }, { o := .mv (.l 0), d := some 4 }] []) .skip)))) (.reg [{ o := .mv (.v 5) }, { o := .bin .add (.l 0) (.i 1) }, { o := .mv (.l 0), d := some 5 }] [])))
def ref32_Border_l1 : C := .loop true [0, 3, 6, 7] K.ref32_Border_l1b
/-- /ref32.Border -/
def ref32_Border : Fn := { nargs := 2, vars := [0, 1, 2, 4, 5, 6, 7, 8], body := (.seq (.reg [{ o := .bx (.v 0) 2, d := some 2 }, { o := .mv (.c (.nil)), d := some 3 }] []) (.seq (.reg [{ o := .nw 1, d := some 4 }] []) (.seq (.seq (.reg [{ o := .mv (.i 0), d := some 5 }] []) (.blk 0 K.ref32_Border_l1)) (.seq (.reg [{ o := .mv (.v 4) }, { o := .mv (.l 0), d := some 3 }] []) .ret)))), res := [(3, none)] }
def ref32_Seal_l2b : C := (.seq (.ite [{ o := .mv (.v 12) }, { o := .fa (.v 10) 0 }, { o := .ld (.l 0) 1 false }, { o := .mv (.v 11) }, { o := .ia (.l 1) (.l 0) 2 }, { o := .fa (.l 0) 1 }, { o := .ld (.l 0) 1 false }, { o := .ln (.l 0) }, { o := .bin .lss (.l 7) (.l 0) }] [] 0 .skip (.exit 2)) (.seq (.blk 3 (.seq (.reg [{ o := .fa (.v 10) 0 }, { o := .ld (.l 0) 1 false }, { o := .mv (.v 11) }, { o := .ia (.l 1) (.l 0) 2 }, { o := .fa (.l 0) 1 }, { o := .ld (.l 0) 1 false }, { o := .mv (.v 12) }, { o := .ia (.l 1) (.l 0) 2 }, { o := .ld (.l 0) 2 true }, { o := .al [.t (.int .i64 (0)), .nil] [], d := some 13 }, { o := .st (.l 0) (.l 1) 2 [] }] []) (.seq (.ite [{ o := .mv (.v 3) }, { o := .fa (.v 13) 0 }, { o := .ld (.l 0) 1 false }, { o := .bin .lss (.l 2) (.l 0) }, { o := .mv (.l 0) }, { o := .mv (.v 3), g := some (0, false) }, { o := .bin .gtr (.l 0) (.i 2147483648), g := some (1, false) }, { o := .pk (.l 2) (.b true) (.l 0) }] [] 0 (.seq (.reg [{ o := .ld (.v 5) 1 true }, { o := .st (.v 6) (.l 0) 1 [] }, { o := .mv (.i 8), d := some 7 }] []) .ret) .skip) (.reg [{ o := .fa (.v 10) 0 }, { o := .ld (.l 0) 1 false }, { o := .mv (.v 11) }, { o := .ia (.l 1) (.l 0) 2 }, { o := .fa (.l 0) 1 }, { o := .ld (.l 0) 1 false }, { o := .mv (.v 12) }, { o := .ld (.v 8) 2 true }, { o := .ld (.v 13) 2 true }, { o := .mv (.v 3) }, { o := .ca N.ref32_seal 0 [] [.l 2, .l 1, .l 0] }, { o := .ia (.l 5) (.l 4) 2 }, { o := .st (.l 0) (.l 1) 2 [] }] [(1, 11), (3, 11), (5, 11)])))) (.reg [{ o := .mv (.v 12) }, { o := .bin .add (.l 0) (.i 1) }, { o := .mv (.l 0), d := some 12 }] [])))
def ref32_Seal_l2 : C := .loop true [0, 1, 2, 4, 7, 9, 13] K.ref32_Seal_l2b
def ref32_Seal_l1b : C := (.seq (.ite [{ o := .mv (.v 11) }, { o := .fa (.v 10) 0 }, { o := .ld (.l 0) 1 false }, { o := .ln (.l 0) }, { o := .bin .lss (.l 3) (.l 0) }] [] 0 .skip (.exit 0)) (.seq (.blk 1 (.seq (.reg [{ o := .mv (.i 0), d := some 12 }] []) (.blk 2 K.ref32_Seal_l2))) (.reg [{ o := .mv (.v 11) }, { o := .bin .add (.l 0) (.i 1) }, { o := .mv (.l 0), d := some 11 }] [])))
def ref32_Seal_l1 : C := .loop true [0, 1, 2, 4, 7, 9, 12, 13] K.ref32_Seal_l1b
/-- /ref32.Seal -/
def ref32_Seal : Fn := { nargs := 4, vars := [0, 1, 2, 3, 4, 5, 8, 9, 10, 11, 12, 13, 14, 15], body := (.seq (.reg [{ o := .bx (.v 0) 2, d := some 4 }, { o := .bx (.v 1) 1, d := some 5 }, { o := .al [.nil] [], d := some 6 }, { o := .mv (.i 0), d := some 7 }] []) (.seq (.reg [{ o := .ld (.v 5) 1 true }, { o := .ca N.ref26_Copy_v1 2 [] [.l 0] }, { o := .st (.v 5) (.l 0) 1 [] }] []) (.seq (.ite [{ o := .ld (.v 4) 2 true }, { o := .ld (.v 5) 1 true }, { o := .ca N.ref26_Valid 0 [] [.l 1, .l 0] }, { o := .un .not (.l 0) }] [] 0 (.seq (.reg [{ o := .ld (.v 5) 1 true }, { o := .st (.v 6) (.l 0) 1 [] }, { o := .mv (.i 6), d := some 7 }] []) .ret) .skip) (.seq (.reg [{ o := .ld (.v 4) 2 true }, { o := .mv (.v 2) }, { o := .ca N.ref32_Barred 0 [] [.l 1, .l 0] }, { o := .mv (.l 0) }, { o := .ex (.l 0) 0 }, { o := .ex (.l 1) 1 }, { o := .al [.nil, .nil] [], d := some 8 }, { o := .st (.l 0) (.l 2) 2 [] }, { o := .mv (.l 2), d := some 9 }] []) (.seq (.ite [{ o := .mv (.v 9) }, { o := .bin .neq (.l 0) (.i 0) }] [] 0 (.seq (.reg [{ o := .ld (.v 5) 1 true }, { o := .mv (.v 9) }, { o := .st (.v 6) (.l 1) 1 [] }, { o := .mv (.l 1), d := some 7 }] []) .ret) .skip) (.seq (.reg [{ o := .ld (.v 5) 1 true }, { o := .ca N.ref26_Copy_v1 2 [] [.l 0] }, { o := .al [.nil] [], d := some 10 }, { o := .st (.l 0) (.l 1) 1 [] }] []) (.seq (.seq (.reg [{ o := .mv (.i 0), d := some 11 }] []) (.blk 0 K.ref32_Seal_l1)) (.seq (.reg [{ o := .fa (.v 10) 0 }, { o := .ld (.l 0) 1 false }, { o := .ca N.ref26_Tidy 0 [] [.l 0] }, { o := .fa (.v 10) 0 }, { o := .st (.l 0) (.l 1) 1 [] }] []) (.seq (.reg [{ o := .ld (.v 10) 1 true }, { o := .st (.v 6) (.l 0) 1 [] }, { o := .mv (.i 0), d := some 7 }] []) .ret))))))))), res := [(6, some (1, true)), (7, none)] }
def made_Last_l2b : C := (.seq (.ite [{ o := .mv (.v 5) }, { o := .fa (.v 1) 0 }, { o := .ld (.l 0) 1 false }, { o := .mv (.v 4) }, { o := .ia (.l 1) (.l 0) 2 }, { o := .fa (.l 0) 1 }, { o := .ld (.l 0) 1 false }, { o := .ln (.l 0) }, { o := .bin .lss (.l 7) (.l 0) }] [] 0 .skip (.exit 2)) (.seq (.blk 3 (.reg [{ o := .mv (.v 3) }, { o := .fa (.v 1) 0 }, { o := .ld (.l 0) 1 false }, { o := .mv (.v 4) }, { o := .ia (.l 1) (.l 0) 2 }, { o := .fa (.l 0) 1 }, { o := .ld (.l 0) 1 false }, { o := .mv (.v 5) }, { o := .ia (.l 1) (.l 0) 2 }, { o := .fa (.l 0) 0 }, { o := .ld (.l 0) 1 false }, { o := .mx [.l 10, .l 0] }, { o := .mv (.l 0), d := some 3 }] [])) (.reg [{ o := .mv (.v 5) }, { o := .bin .add (.l 0) (.i 1) }, { o := .mv (.l 0), d := some 5 }] [])))
def made_Last_l2 : C := .loop true [0, 2] K.made_Last_l2b
def made_Last_l1b : C := (.seq (.ite [{ o := .mv (.v 4) }, { o := .fa (.v 1) 0 }, { o := .ld (.l 0) 1 false }, { o := .ln (.l 0) }, { o := .bin .lss (.l 3) (.l 0) }] [] 0 .skip (.exit 0)) (.seq (.blk 1 (.seq (.reg [{ o := .mv (.i 0), d := some 5 }] []) (.blk 2 K.made_Last_l2))) (.reg [{ o := .mv (.v 4) }, { o := .bin .add (.l 0) (.i 1) }, { o := .mv (.l 0), d := some 4 }] [])))
def made_Last_l1 : C := .loop true [0, 2, 5] K.made_Last_l1b
/-- /made.Last -/
def made_Last : Fn := { nargs := 1, vars := [0, 1, 2, 3, 4, 5], body := (.seq (.reg [{ o := .bx (.v 0) 1, d := some 1 }, { o := .mv (.i 0), d := some 2 }] []) (.seq (.reg [{ o := .mv (.i 0), d := some 3 }] []) (.seq (.seq (.reg [{ o := .mv (.i 0), d := some 4 }] []) (.blk 0 K.made_Last_l1)) (.seq (.reg [{ o := .mv (.v 3) }, { o := .mv (.l 0), d := some 2 }] []) .ret)))), res := [(2, none)] }
/-- /ref34.Arm -/
def ref34_Arm : Fn := { nargs := 6, vars := [0, 1, 2, 3, 4, 5, 6, 7, 8, 9, 12, 13, 14], body := (.seq (.reg [{ o := .bx (.v 0) 3, d := some 6 }, { o := .bx (.v 1) 4, d := some 7 }, { o := .bx (.v 2) 3, d := some 8 }, { o := .bx (.v 3) 1, d := some 9 }, { o := .al [.t (.int .i64 (0)), .t (.int .i64 (0)), .t (.int .i64 (0)), .t (.int .i64 (0))] [], d := some 10 }, { o := .mv (.i 0), d := some 11 }] []) (.seq (.seq (.reg [{ o := .ld (.v 6) 3 true }, { o := .ld (.v 7) 4 true }, { o := .ld (.v 8) 3 true }, { o := .ld (.v 9) 1 true }, { o := .mv (.v 4) }, { o := .mv (.v 5) }, { o := .ca N.ref34_step 0 [] [.l 5, .l 4, .l 3, .l 2, .i 0, .l 1, .l 0] }, { o := .mv (.l 0), d := some 12 }] []) (.ite [{ o := .mv (.v 12) }, { o := .bin .neq (.l 0) (.i 0) }] [] 0 (.seq (.reg [{ o := .ld (.v 7) 4 true }, { o := .mv (.v 12) }, { o := .st (.v 10) (.l 1) 4 [] }, { o := .mv (.l 1), d := some 11 }] []) .ret) .skip)) (.seq (.reg [{ o := .mv (.v 4) }, { o := .mv (.v 5) }, { o := .bd [.t (.int .i64 (0)), .t (.int .i64 (0)), .t (.int .i64 (0)), .t (.int .i64 (0))] [(0, 1, .i 1), (1, 1, .l 1), (3, 1, .l 0)] }, { o := .st (.v 10) (.l 0) 4 [] }, { o := .mv (.i 0), d := some 11 }] []) .ret))), res := [(10, some (4, true)), (11, none)] }
/-- /ref34.Agree -/
def ref34_Agree : Fn := { nargs := 6, vars := [0, 1, 2, 3, 4, 5, 6, 7, 8, 9, 12, 13, 14], body := (.seq (.reg [{ o := .bx (.v 0) 3, d := some 6 }, { o := .bx (.v 1) 4, d := some 7 }, { o := .bx (.v 2) 3, d := some 8 }, { o := .bx (.v 3) 1, d := some 9 }, { o := .al [.t (.int .i64 (0)), .t (.int .i64 (0)), .t (.int .i64 (0)), .t (.int .i64 (0))] [], d := some 10 }, { o := .mv (.i 0), d := some 11 }] []) (.seq (.seq (.reg [{ o := .ld (.v 6) 3 true }, { o := .ld (.v 7) 4 true }, { o := .ld (.v 8) 3 true }, { o := .ld (.v 9) 1 true }, { o := .mv (.v 4) }, { o := .mv (.v 5) }, { o := .ca N.ref34_step 0 [] [.l 5, .l 4, .l 3, .l 2, .i 1, .l 1, .l 0] }, { o := .mv (.l 0), d := some 12 }] []) (.ite [{ o := .mv (.v 12) }, { o := .bin .neq (.l 0) (.i 0) }] [] 0 (.seq (.reg [{ o := .ld (.v 7) 4 true }, { o := .mv (.v 12) }, { o := .st (.v 10) (.l 1) 4 [] }, { o := .mv (.l 1), d := some 11 }] []) .ret) .skip)) (.seq (.reg [{ o := .fa (.v 7) 1 }, { o := .ld (.l 0) 1 false }, { o := .mv (.v 4) }, { o := .mv (.v 5) }, { o := .bd [.t (.int .i64 (0)), .t (.int .i64 (0)), .t (.int .i64 (0)), .t (.int .i64 (0))] [(0, 1, .i 2), (1, 1, .l 2), (2, 1, .l 1), (3, 1, .l 0)] }, { o := .st (.v 10) (.l 0) 4 [] }, { o := .mv (.i 0), d := some 11 }] []) .ret))), res := [(10, some (4, true)), (11, none)] }
/-- /ref34.Fire -/
def ref34_Fire : Fn := { nargs := 6, vars := [0, 1, 2, 3, 4, 5, 6, 7, 8, 9, 12, 13, 14], body := (.seq (.reg [{ o := .bx (.v 0) 3, d := some 6 }, { o := .bx (.v 1) 4, d := some 7 }, { o := .bx (.v 2) 3, d := some 8 }, { o := .bx (.v 3) 1, d := some 9 }, { o := .al [.t (.int .i64 (0)), .t (.int .i64 (0)), .t (.int .i64 (0)), .t (.int .i64 (0))] [], d := some 10 }, { o := .mv (.i 0), d := some 11 }] []) (.seq (.seq (.reg [{ o := .ld (.v 6) 3 true }, { o := .ld (.v 7) 4 true }, { o := .ld (.v 8) 3 true }, { o := .ld (.v 9) 1 true }, { o := .mv (.v 4) }, { o := .ca N.ref34_step 0 [] [.l 4, .l 3, .l 2, .l 1, .i 2, .i 1, .l 0] }, { o := .mv (.l 0), d := some 12 }] []) (.ite [{ o := .mv (.v 12) }, { o := .bin .neq (.l 0) (.i 0) }] [] 0 (.seq (.reg [{ o := .ld (.v 7) 4 true }, { o := .mv (.v 12) }, { o := .st (.v 10) (.l 1) 4 [] }, { o := .mv (.l 1), d := some 11 }] []) .ret) .skip)) (.seq (.reg [{ o := .mv (.v 4) }, { o := .fa (.v 7) 0 }, { o := .st (.l 0) (.i 3) 1 [] }, { o := .fa (.v 7) 3 }, { o := .st (.l 0) (.l 3) 1 [] }] []) (.seq (.ite [{ o := .mv (.v 5) }] [] 0 (.reg [{ o := .fa (.v 7) 0 }, { o := .st (.l 0) (.i 4) 1 [] }] []) .skip) (.seq (.reg [{ o := .ld (.v 7) 4 true }, { o := .st (.v 10) (.l 0) 4 [] }, { o := .mv (.i 0), d := some 11 }] []) .ret))))), res := [(10, some (4, true)), (11, none)] }
/-- /ref34.Abort -/
def ref34_Abort : Fn := { nargs := 3, vars := [0, 1, 2, 3, 4, 6, 7], body := (.seq (.reg [{ o := .bx (.v 0) 3, d := some 3 }, { o := .bx (.v 1) 4, d := some 4 }, { o := .al [.t (.int .i64 (0)), .t (.int .i64 (0)), .t (.int .i64 (0)), .t (.int .i64 (0))] [], d := some 5 }, { o := .mv (.i 0), d := some 6 }] []) (.seq (.blk 0 (.ite [{ o := .ld (.v 3) 3 true }, { o := .ld (.v 4) 4 true }, { o := .ca N.ref34_Valid 0 [] [.l 1, .l 0] }, { o := .un .not (.l 0) }, { o := .mv (.l 0) }] [] 0 (.seq (.reg [{ o := .ld (.v 4) 4 true }, { o := .st (.v 5) (.l 0) 4 [] }, { o := .mv (.i 6), d := some 6 }] []) .ret) (.ite [{ o := .fa (.v 4) 0 }, { o := .ld (.l 0) 1 false }, { o := .bin .eql (.l 0) (.i 0) }, { o := .mv (.l 0) }] [] 0 (.seq (.reg [{ o := .ld (.v 4) 4 true }, { o := .st (.v 5) (.l 0) 4 [] }, { o := .mv (.i 10), d := some 6 }] []) .ret) (.ite [{ o := .mv (.v 2) }, { o := .bin .lss (.l 0) (.i 0) }, { o := .mv (.l 0) }, { o := .mv (.v 2), g := some (0, false) }, { o := .bin .gtr (.l 0) (.i 2147483648), g := some (1, false) }, { o := .pk (.l 2) (.b true) (.l 0) }, { o := .mv (.l 0) }, { o := .mv (.v 2), g := some (0, false) }, { o := .fa (.v 4) 3, g := some (1, false) }, { o := .ld (.l 0) 1 false, g := some (2, false) }, { o := .bin .lss (.l 2) (.l 0), g := some (3, false) }, { o := .pk (.l 4) (.b true) (.l 0) }, { o := .mv (.l 0) }] [] 0 (.seq (.reg [{ o := .ld (.v 4) 4 true }, { o := .st (.v 5) (.l 0) 4 [] }, { o := .mv (.i 8), d := some 6 }] []) .ret) (.ite [{ o := .fa (.v 4) 0 }, { o := .ld (.l 0) 1 false }, { o := .bin .eql (.l 0) (.i 4) }, { o := .mv (.l 0) }, { o := .mv (.v 2), g := some (0, true) }, { o := .fa (.v 4) 3, g := some (1, true) }, { o := .ld (.l 0) 1 false, g := some (2, true) }, { o := .bin .sub (.l 2) (.l 0), g := some (3, true) }, { o := .fa (.v 3) 2, g := some (4, true) }, { o := .ld (.l 0) 1 false, g := some (5, true) }, { o := .bin .lss (.l 2) (.l 0), g := some (6, true) }, { o := .pk (.l 7) (.l 0) (.b false) }, { o := .mv (.l 0) }] [] 0 (.seq (.reg [{ o := .ld (.v 4) 4 true }, { o := .st (.v 5) (.l 0) 4 [] }, { o := .mv (.i 10), d := some 6 }] []) .ret) .skip))))) (.seq (.reg [{ o := .bd [.t (.int .i64 (0)), .t (.int .i64 (0)), .t (.int .i64 (0)), .t (.int .i64 (0))] [] }, { o := .st (.v 5) (.l 0) 4 [] }, { o := .mv (.i 0), d := some 6 }] []) .ret))), res := [(5, some (4, true)), (6, none)] }
end Go.Ev.K
namespace Go.Ev
class Has3 [Lib] : Prop where
  t_law34_FiringRaw : Lib.fs N.law34_FiringRaw = some K.law34_FiringRaw
  t_law34_FiringMade : Lib.fs N.law34_FiringMade = some K.law34_FiringMade
  t_law34_FiringNeeds : Lib.fs N.law34_FiringNeeds = some K.law34_FiringNeeds
  t_law34_awake : Lib.fs N.law34_awake = some K.law34_awake
  t_made_Dice_Ints : Lib.fs N.made_Dice_Ints = some K.made_Dice_Ints
  t_law34_scene : Lib.fs N.law34_scene = some K.law34_scene
  t_law34_agree : Lib.fs N.law34_agree = some K.law34_agree
  t_law34_ready : Lib.fs N.law34_ready = some K.law34_ready
  t_firing_Arm : Lib.fs N.firing_Arm = some K.firing_Arm
  t_firing_Agree : Lib.fs N.firing_Agree = some K.firing_Agree
  t_firing_Fire : Lib.fs N.firing_Fire = some K.firing_Fire
  t_firing_Abort : Lib.fs N.firing_Abort = some K.firing_Abort
  t_firing_Valid : Lib.fs N.firing_Valid = some K.firing_Valid
  t_firing_Due : Lib.fs N.firing_Due = some K.firing_Due
  t_ref32_Border : Lib.fs N.ref32_Border = some K.ref32_Border
  t_ref32_Seal : Lib.fs N.ref32_Seal = some K.ref32_Seal
  t_made_Last : Lib.fs N.made_Last = some K.made_Last
  t_ref34_Arm : Lib.fs N.ref34_Arm = some K.ref34_Arm
  t_ref34_Agree : Lib.fs N.ref34_Agree = some K.ref34_Agree
  t_ref34_Fire : Lib.fs N.ref34_Fire = some K.ref34_Fire
  t_ref34_Abort : Lib.fs N.ref34_Abort = some K.ref34_Abort
namespace K
variable [Lib] [Has3]
theorem t_law34_FiringRaw : Lib.fs N.law34_FiringRaw = some K.law34_FiringRaw := Has3.t_law34_FiringRaw
theorem t_law34_FiringMade : Lib.fs N.law34_FiringMade = some K.law34_FiringMade := Has3.t_law34_FiringMade
theorem t_law34_FiringNeeds : Lib.fs N.law34_FiringNeeds = some K.law34_FiringNeeds := Has3.t_law34_FiringNeeds
theorem t_law34_awake : Lib.fs N.law34_awake = some K.law34_awake := Has3.t_law34_awake
theorem t_made_Dice_Ints : Lib.fs N.made_Dice_Ints = some K.made_Dice_Ints := Has3.t_made_Dice_Ints
theorem t_law34_scene : Lib.fs N.law34_scene = some K.law34_scene := Has3.t_law34_scene
theorem t_law34_agree : Lib.fs N.law34_agree = some K.law34_agree := Has3.t_law34_agree
theorem t_law34_ready : Lib.fs N.law34_ready = some K.law34_ready := Has3.t_law34_ready
theorem t_firing_Arm : Lib.fs N.firing_Arm = some K.firing_Arm := Has3.t_firing_Arm
theorem t_firing_Agree : Lib.fs N.firing_Agree = some K.firing_Agree := Has3.t_firing_Agree
theorem t_firing_Fire : Lib.fs N.firing_Fire = some K.firing_Fire := Has3.t_firing_Fire
theorem t_firing_Abort : Lib.fs N.firing_Abort = some K.firing_Abort := Has3.t_firing_Abort
theorem t_firing_Valid : Lib.fs N.firing_Valid = some K.firing_Valid := Has3.t_firing_Valid
theorem t_firing_Due : Lib.fs N.firing_Due = some K.firing_Due := Has3.t_firing_Due
theorem t_ref32_Border : Lib.fs N.ref32_Border = some K.ref32_Border := Has3.t_ref32_Border
theorem t_ref32_Seal : Lib.fs N.ref32_Seal = some K.ref32_Seal := Has3.t_ref32_Seal
theorem t_made_Last : Lib.fs N.made_Last = some K.made_Last := Has3.t_made_Last
theorem t_ref34_Arm : Lib.fs N.ref34_Arm = some K.ref34_Arm := Has3.t_ref34_Arm
theorem t_ref34_Agree : Lib.fs N.ref34_Agree = some K.ref34_Agree := Has3.t_ref34_Agree
theorem t_ref34_Fire : Lib.fs N.ref34_Fire = some K.ref34_Fire := Has3.t_ref34_Fire
theorem t_ref34_Abort : Lib.fs N.ref34_Abort = some K.ref34_Abort := Has3.t_ref34_Abort
end K
end Go.Ev

/- The program: head counts; the last time in a belief. -/
namespace Go.Ev
open Go
variable [Lib] [Has1] [Has2] [Has3] [Has5]

/- counts -/
def isN (l : List Wh) (area : List Int) (t : Int) : Nat → Nat
  | 0 => 0
  | j + 1 => if isF (nth l j) area t = true then isN l area t j + 1 else isN l area t j
def canN (l : List Wh) (area : List Int) (t : Int) : Nat → Nat
  | 0 => 0
  | j + 1 => if canF (nth l j) area t = true then canN l area t j + 1 else canN l area t j
theorem isN_le (l : List Wh) (area : List Int) (t : Int) : ∀ j, isN l area t j ≤ j
  | 0 => Nat.le_refl _
  | j + 1 => by
    have := isN_le l area t j
    simp only [isN]; split <;> omega
theorem canN_le (l : List Wh) (area : List Int) (t : Int) : ∀ j, canN l area t j ≤ j
  | 0 => Nat.le_refl _
  | j + 1 => by
    have := canN_le l area t j
    simp only [canN]; split <;> omega
def cntN (ws : List World) (area : List Int) (t : Int) : Nat → Spn
  | 0 => ⟨0, 0⟩
  | i + 1 => if i = 0 then ⟨isN (nth ws i).whr area t (nth ws i).whr.length, canN (nth ws i).whr area t (nth ws i).whr.length⟩
    else ⟨min (cntN ws area t i).low (isN (nth ws i).whr area t (nth ws i).whr.length), max (cntN ws area t i).high (canN (nth ws i).whr area t (nth ws i).whr.length)⟩
def cntF (b : Bel) (area : List Int) (t : Int) : Spn := cntN b.worlds area t b.worlds.length

theorem cntN_bd (ws : List World) (area : List Int) (t : Int) (h : ∀ x ∈ ws, x.sz) : ∀ i, i ≤ ws.length → 0 ≤ (cntN ws area t i).low ∧ (cntN ws area t i).low ≤ 1000000 ∧ 0 ≤ (cntN ws area t i).high ∧ (cntN ws area t i).high ≤ 1000000
  | 0, _ => by simp [cntN]
  | i + 1, hi => by
    have ih := cntN_bd ws area t h i (by omega)
    have s := (h _ (nth_mem (l := ws) (j := i) (by omega))).2.1
    have h1 := isN_le (nth ws i).whr area t (nth ws i).whr.length
    have h2 := canN_le (nth ws i).whr area t (nth ws i).whr.length
    simp only [cntN]
    split <;> (simp only; omega)

theorem count_l2 (x : World) (hx : x.sz) (area : List Int) (ha : area.length ≤ 4294967296) (t : Int) (b0 : List D) (b1 b2 : List D) (ws : D) (a c e f g v6 v13 v14 v15 : D)
    (h0 : allOld 4 8 b0 = true) (h1 : allOld 4 8 b1 = true) (h2 : allOld 4 8 b2 = true) (h6 : old 4 8 v6 = true) (h13 : old 4 8 v13 = true) (h14 : old 4 8 v14 = true) (h15 : old 4 8 v15 = true) :
    exS CALL K.heads_Count_l2 ⟨[a, .t (tL area), I t, c, .bp 1 0, .bp 2 0, v6, .bp 3 0, I 0, I 0, e, f, g, v13, v14, v15, I x.whr.length, I 0], [.box b0, .box b1, .box b2, .box [.t (tL x.tags), .t (.sl (x.whr.map Wh.e))]]⟩ =
    some (.exit 2, ⟨[.und, .t (tL area), I t, .und, .bp 1 0, .bp 2 0, v6, .bp 3 0, I (isN x.whr area t x.whr.length), I (canN x.whr area t x.whr.length), .und, .und, .und, v13, v14, v15, I x.whr.length, I x.whr.length], [.box b0, .box b1, .box b2, .box [.t (tL x.tags), .t (.sl (x.whr.map Wh.e))]]⟩) := by
  obtain ⟨s1, s2, s3⟩ := hx
  refine loop_up (fun j => ⟨[.und, .t (tL area), I t, .und, .bp 1 0, .bp 2 0, v6, .bp 3 0, I (isN x.whr area t j), I (canN x.whr area t j), .und, .und, .und, v13, v14, v15, I x.whr.length, I j], [.box b0, .box b1, .box b2, .box [.t (tL x.tags), .t (.sl (x.whr.map Wh.e))]]⟩) x.whr.length rfl ?_ ?_ (by simp)
  · intro j hj
    have lk := look_ok x ⟨s1, s2, s3⟩ j (by omega) area ha t
    have i1 := isN_le x.whr area t j
    have i2 := canN_le x.whr area t j
    unfold lookF at lk
    rw [if_neg (by omega)] at lk
    simp only [isN, canN]
    generalize isN x.whr area t j = p at *
    generalize canN x.whr area t j = q at *
    generalize isF (nth x.whr j) area t = c1 at *
    generalize canF (nth x.whr j) area t = c2 at *
    obtain ⟨tags, whr⟩ := x
    simp only at *
    cases c1 <;> cases c2 <;> simp (disch := omega) only [go_sem, K.heads_Count_l2b, ↓reduceIte, lk, h0, h1, h2, h6, h13, h14, h15, Nat.reduceAdd, Nat.reduceSub, Bool.false_eq_true]
  · simp (disch := omega) only [go_sem, K.heads_Count_l2b, ↓reduceIte, Nat.reduceAdd, Nat.reduceSub]

theorem count_ok (b : Bel) (hb : b.sz) (area : List Int) (ha : area.length ≤ 4294967296) (t : Int) :
    CALL 0 N.heads_Count [.t b.e, .t (tL area), I t] [] = some (.t (cntF b area t).e, []) := by
  refine CALL_of K.t_heads_Count rfl ?_
  unfold cntF
  obtain ⟨ws⟩ := b
  obtain ⟨s1, s2⟩ := hb
  simp only at s1 s2
  have bd := cntN_bd ws area t s2
  have loop : ∀ a c e f g h i j k l : D, exS CALL K.heads_Count_l1 ⟨[a, .t (tL area), I t, .bp 0 0, .bp 1 0, .bp 2 0, c, e, f, g, h, i, j, .t (.sl (ws.map World.e)), I ws.length, I 0, k, l], [.box [.t (.sl (ws.map World.e))], .box [I 0, I 0], .box [I 0, I 0]]⟩ =
      some (.exit 0, ⟨[.und, .t (tL area), I t, .und, .bp 1 0, .bp 2 0, .und, .und, .und, .und, .und, .und, .und, .t (.sl (ws.map World.e)), I ws.length, I ws.length, .und, .und], [.box [.t (.sl (ws.map World.e))], .box [I 0, I 0], .box [I (cntN ws area t ws.length).low, I (cntN ws area t ws.length).high]]⟩) := by
    intro a c e f g h i j k l
    refine loop_up (fun i => ⟨[.und, .t (tL area), I t, .und, .bp 1 0, .bp 2 0, .und, .und, .und, .und, .und, .und, .und, .t (.sl (ws.map World.e)), I ws.length, I i, .und, .und], [.box [.t (.sl (ws.map World.e))], .box [I 0, I 0], .box [I (cntN ws area t i).low, I (cntN ws area t i).high]]⟩) ws.length rfl ?_ ?_ (by simp)
    · intro i hi
      have hx := s2 _ (nth_mem hi)
      have g1 : (ws.map World.e)[i]? = some (nth ws i).e := map_nth _ hi
      have l2 := fun b0 b1 b2 a c e f g v6 v13 v14 v15 => count_l2 (nth ws i) hx area ha t b0 b1 b2 (.t (.sl (ws.map World.e))) a c e f g v6 v13 v14 v15
      have bi := bd i (by omega)
      have i1 := isN_le (nth ws i).whr area t (nth ws i).whr.length
      have i2 := canN_le (nth ws i).whr area t (nth ws i).whr.length
      simp only [cntN]
      generalize cntN ws area t i = o at *
      generalize isN (nth ws i).whr area t (nth ws i).whr.length = p at *
      generalize canN (nth ws i).whr area t (nth ws i).whr.length = q at *
      generalize nth ws i = x at *
      obtain ⟨tags, whr⟩ := x
      simp only at *
      have l2' := l2 [.t (.sl (ws.map World.e))] [I 0, I 0] [I o.low, I o.high]
      by_cases h0 : i = 0
      · subst h0
        have l3 := fun a c e f g => l2' a c e f g (I 0) (.t (.sl (ws.map World.e))) (I ws.length) (I 0) rfl rfl rfl rfl rfl rfl rfl
        have mm : min (p : Int) p = p := by omega
        have mx : max (q : Int) q = q := by omega
        simp (disch := omega) only [go_sem, K.heads_Count_l1b, ↓reduceIte, g1, l3, mm, mx, Nat.reduceAdd, Nat.reduceSub]
      · have l3 := fun a c e f g => l2' a c e f g (I i) (.t (.sl (ws.map World.e))) (I ws.length) (I i) rfl rfl rfl rfl rfl rfl rfl
        simp (disch := omega) only [go_sem, K.heads_Count_l1b, ↓reduceIte, g1, l3, h0, Nat.reduceAdd, Nat.reduceSub]
    · simp (disch := omega) only [go_sem, K.heads_Count_l1b, ↓reduceIte, Nat.reduceAdd, Nat.reduceSub]
  generalize cntN ws area t ws.length = o at *
  obtain ⟨lo, hi⟩ := o
  simp (disch := omega) only [go_sem, K.heads_Count, ↓reduceIte, loop, Nat.reduceAdd, Nat.reduceSub]

/- lists of persons -/
def persF (b : Bel) : Nat := if b.worlds.length = 0 then 0 else (nth b.worlds 0).whr.length
def sureF (b : Bel) (area : List Int) (t : Int) : List Int := whereF (persF b) fun i => !b.worlds.any fun w => !(lookF w i area t).1
def maybeF (b : Bel) (area : List Int) (t : Int) : List Int := whereF (persF b) fun i => b.worlds.any fun w => (lookF w i area t).2
def missF (b : Bel) (t most : Int) : List Int := whereF (persF b) fun i => decide (most < (possB b i t).length)

theorem persons_ok (b : Bel) : CALL 0 N.heads_persons [.t b.e] [] = some (I (persF b), []) := by
  refine CALL_of K.t_heads_persons rfl ?_
  unfold persF
  by_cases c : b.worlds.length = 0
  · obtain ⟨ws⟩ := b
    simp only at c
    simp (disch := omega) only [go_sem, K.heads_persons, ↓reduceIte, c, Nat.reduceAdd, Nat.reduceSub]
  · have g0 : (b.worlds.map World.e)[0]? = some (nth b.worlds 0).e := map_nth _ (by omega)
    rw [if_neg c]
    generalize nth b.worlds 0 = w at *
    obtain ⟨tags, whr⟩ := w
    obtain ⟨ws⟩ := b
    simp only at *
    simp (disch := omega) only [go_sem, K.heads_persons, ↓reduceIte, c, g0, Nat.reduceAdd, Nat.reduceSub]

theorem sure11_ok (x : World) (hx : x.sz) (i : Nat) (hi : i ≤ 4294967296) (area : List Int) (ha : area.length ≤ 4294967296) (t : Int) :
    CALL 0 N.heads_Sure_1_1 [.t x.e, .bp 0 0, .bp 1 0, .bp 2 0] [.box [I i], .box [.t (tL area)], .box [I t]] = some (B (!(lookF x i area t).1), [.box [I i], .box [.t (tL area)], .box [I t]]) := by
  refine CALL_of K.t_heads_Sure_1_1 rfl ?_
  have lk := look_ok x hx i hi area ha t
  generalize lookF x i area t = r at *
  obtain ⟨r1, r2⟩ := r
  obtain ⟨tags, whr⟩ := x
  simp only at *
  simp (disch := omega) only [go_sem, K.heads_Sure_1_1, ↓reduceIte, lk, Nat.reduceAdd, Nat.reduceSub]
theorem maybe11_ok (x : World) (hx : x.sz) (i : Nat) (hi : i ≤ 4294967296) (area : List Int) (ha : area.length ≤ 4294967296) (t : Int) :
    CALL 0 N.heads_Maybe_1_1 [.t x.e, .bp 0 0, .bp 1 0, .bp 2 0] [.box [I i], .box [.t (tL area)], .box [I t]] = some (B (lookF x i area t).2, [.box [I i], .box [.t (tL area)], .box [I t]]) := by
  refine CALL_of K.t_heads_Maybe_1_1 rfl ?_
  have lk := look_ok x hx i hi area ha t
  generalize lookF x i area t = r at *
  obtain ⟨r1, r2⟩ := r
  obtain ⟨tags, whr⟩ := x
  simp only at *
  simp (disch := omega) only [go_sem, K.heads_Maybe_1_1, ↓reduceIte, lk, Nat.reduceAdd, Nat.reduceSub]

theorem sure1_ok (b : Bel) (hb : b.sz) (i : Nat) (hi : i ≤ 4294967296) (area : List Int) (ha : area.length ≤ 4294967296) (t : Int) :
    CALL 0 N.heads_Sure_1 [I i, .bp 0 0, .bp 1 0, .bp 2 0] [.box [.t (.sl (b.worlds.map World.e))], .box [.t (tL area)], .box [I t]] = some (B (!b.worlds.any fun w => !(lookF w i area t).1), [.box [.t (.sl (b.worlds.map World.e))], .box [.t (tL area)], .box [I t]]) := by
  refine CALL_of K.t_heads_Sure_1 rfl ?_
  have cf := containsFuncW_ok b.worlds (by have := hb.1; omega) N.heads_Sure_1_1 [[tI i], [tL area], [tI t]] (fun w => !(lookF w i area t).1) (fun x hx => sure11_ok x (hb.2 x hx) i hi area ha t)
  have cf : CALL 0 N.slices_ContainsFunc_api_World_api_World [.t (.sl (b.worlds.map World.e)), .fn N.heads_Sure_1_1 [.bp 0 0, .bp 1 0, .bp 2 0]] [.box [I i], .box [.t (tL area)], .box [I t]] = some (B (b.worlds.any fun w => !(lookF w i area t).1), [.box [I i], .box [.t (tL area)], .box [I t]]) := cf
  simp (disch := omega) only [go_sem, K.heads_Sure_1, ↓reduceIte, Nat.reduceAdd, Nat.reduceSub, cf]
theorem maybe1_ok (b : Bel) (hb : b.sz) (i : Nat) (hi : i ≤ 4294967296) (area : List Int) (ha : area.length ≤ 4294967296) (t : Int) :
    CALL 0 N.heads_Maybe_1 [I i, .bp 0 0, .bp 1 0, .bp 2 0] [.box [.t (.sl (b.worlds.map World.e))], .box [.t (tL area)], .box [I t]] = some (B (b.worlds.any fun w => (lookF w i area t).2), [.box [.t (.sl (b.worlds.map World.e))], .box [.t (tL area)], .box [I t]]) := by
  refine CALL_of K.t_heads_Maybe_1 rfl ?_
  have cf := containsFuncW_ok b.worlds (by have := hb.1; omega) N.heads_Maybe_1_1 [[tI i], [tL area], [tI t]] (fun w => (lookF w i area t).2) (fun x hx => maybe11_ok x (hb.2 x hx) i hi area ha t)
  have cf : CALL 0 N.slices_ContainsFunc_api_World_api_World [.t (.sl (b.worlds.map World.e)), .fn N.heads_Maybe_1_1 [.bp 0 0, .bp 1 0, .bp 2 0]] [.box [I i], .box [.t (tL area)], .box [I t]] = some (B (b.worlds.any fun w => (lookF w i area t).2), [.box [I i], .box [.t (tL area)], .box [I t]]) := cf
  simp (disch := omega) only [go_sem, K.heads_Maybe_1, ↓reduceIte, Nat.reduceAdd, Nat.reduceSub, cf]
theorem miss1_ok (b : Bel) (hb : b.sz) (i : Nat) (t most : Int) :
    CALL 0 N.heads_Missing_1 [I i, .bp 0 0, .bp 1 0, .bp 2 0] [.box [.t (.sl (b.worlds.map World.e))], .box [I t], .box [I most]] = some (B (decide (most < (possB b i t).length)), [.box [.t (.sl (b.worlds.map World.e))], .box [I t], .box [I most]]) := by
  refine CALL_of K.t_heads_Missing_1 rfl ?_
  have ps := possible_ok b hb i t
  have pl := possB_len b i t
  obtain ⟨ws⟩ := b
  simp only at *
  generalize possB ⟨ws⟩ i t = r at *
  simp (disch := omega) only [go_sem, K.heads_Missing_1, ↓reduceIte, Nat.reduceAdd, Nat.reduceSub, ps]

theorem persF_le (b : Bel) (hb : b.sz) : persF b ≤ 1000000 := by
  unfold persF
  split
  · omega
  · exact (hb.2 _ (nth_mem (l := b.worlds) (j := 0) (by omega))).2.1

theorem sure_ok (b : Bel) (hb : b.sz) (area : List Int) (ha : area.length ≤ 4294967296) (t : Int) : CALL 0 N.heads_Sure [.t b.e, .t (tL area), I t] [] = some (.t (tL (sureF b area t)), []) := by
  refine CALL_of K.t_heads_Sure rfl ?_
  have pe := persons_ok b
  have pl := persF_le b hb
  have wh := where_ok (persF b) pl N.heads_Sure_1 [[.sl (b.worlds.map World.e)], [tL area], [tI t]] (fun i => !b.worlds.any fun w => !(lookF w i area t).1) (fun i hi => sure1_ok b hb i (by omega) area ha t)
  have wh : CALL 0 N.lists_Where [I (persF b), .fn N.heads_Sure_1 [.bp 0 0, .bp 1 0, .bp 2 0]] [.box [.t (.sl (b.worlds.map World.e))], .box [.t (tL area)], .box [I t]] = some (.t (tL (sureF b area t)), [.box [.t (.sl (b.worlds.map World.e))], .box [.t (tL area)], .box [I t]]) := wh
  generalize sureF b area t = r at *
  generalize persF b = n at *
  obtain ⟨ws⟩ := b
  simp only at *
  simp (disch := omega) only [go_sem, K.heads_Sure, ↓reduceIte, pe, wh, Nat.reduceAdd, Nat.reduceSub]
theorem maybe_ok (b : Bel) (hb : b.sz) (area : List Int) (ha : area.length ≤ 4294967296) (t : Int) : CALL 0 N.heads_Maybe [.t b.e, .t (tL area), I t] [] = some (.t (tL (maybeF b area t)), []) := by
  refine CALL_of K.t_heads_Maybe rfl ?_
  have pe := persons_ok b
  have pl := persF_le b hb
  have wh := where_ok (persF b) pl N.heads_Maybe_1 [[.sl (b.worlds.map World.e)], [tL area], [tI t]] (fun i => b.worlds.any fun w => (lookF w i area t).2) (fun i hi => maybe1_ok b hb i (by omega) area ha t)
  have wh : CALL 0 N.lists_Where [I (persF b), .fn N.heads_Maybe_1 [.bp 0 0, .bp 1 0, .bp 2 0]] [.box [.t (.sl (b.worlds.map World.e))], .box [.t (tL area)], .box [I t]] = some (.t (tL (maybeF b area t)), [.box [.t (.sl (b.worlds.map World.e))], .box [.t (tL area)], .box [I t]]) := wh
  generalize maybeF b area t = r at *
  generalize persF b = n at *
  obtain ⟨ws⟩ := b
  simp only at *
  simp (disch := omega) only [go_sem, K.heads_Maybe, ↓reduceIte, pe, wh, Nat.reduceAdd, Nat.reduceSub]
theorem miss_ok (b : Bel) (hb : b.sz) (t most : Int) : CALL 0 N.heads_Missing [.t b.e, I t, I most] [] = some (.t (tL (missF b t most)), []) := by
  refine CALL_of K.t_heads_Missing rfl ?_
  have pe := persons_ok b
  have pl := persF_le b hb
  have wh := where_ok (persF b) pl N.heads_Missing_1 [[.sl (b.worlds.map World.e)], [tI t], [tI most]] (fun i => decide (most < (possB b i t).length)) (fun i hi => miss1_ok b hb i t most)
  have wh : CALL 0 N.lists_Where [I (persF b), .fn N.heads_Missing_1 [.bp 0 0, .bp 1 0, .bp 2 0]] [.box [.t (.sl (b.worlds.map World.e))], .box [I t], .box [I most]] = some (.t (tL (missF b t most)), [.box [.t (.sl (b.worlds.map World.e))], .box [I t], .box [I most]]) := wh
  generalize missF b t most = r at *
  generalize persF b = n at *
  obtain ⟨ws⟩ := b
  simp only at *
  simp (disch := omega) only [go_sem, K.heads_Missing, ↓reduceIte, pe, wh, Nat.reduceAdd, Nat.reduceSub]

/- the last time -/
def lastW (l : List Wh) (t : Int) : Nat → Int
  | 0 => t
  | j + 1 => max (lastW l t j) (nth l j).time
def lastN (ws : List World) : Nat → Int
  | 0 => 0
  | i + 1 => lastW (nth ws i).whr (lastN ws i) (nth ws i).whr.length
def lastF (b : Bel) : Int := lastN b.worlds b.worlds.length

theorem lastW_in {l : List Wh} (h : ∀ w ∈ l, inT w.time) {t : Int} (ht : inT t) : ∀ j, j ≤ l.length → inT (lastW l t j)
  | 0, _ => ht
  | j + 1, hj => by
    have h1 := lastW_in h ht j (by omega)
    have h2 := h _ (nth_mem (l := l) (j := j) (by omega))
    unfold inT at *; simp only [lastW]; omega
theorem lastN_in {m : Mine} {n : Nat} {ws : List World} (h : ∀ x ∈ ws, WOk m n x) : ∀ i, i ≤ ws.length → inT (lastN ws i)
  | 0, _ => by unfold inT; simp [lastN]
  | i + 1, hi => by
    simp only [lastN]
    exact lastW_in (h _ (nth_mem (by omega))).ti (lastN_in h i (by omega)) _ (Nat.le_refl _)

theorem last_ok (b : Bel) (hb : b.sz) : CALL 0 N.made_Last [.t b.e] [] = some (I (lastF b), []) := by
  refine CALL_of K.t_made_Last rfl ?_
  unfold lastF
  obtain ⟨ws⟩ := b
  obtain ⟨s1, s2⟩ := hb
  simp only at s1 s2 ⊢
  have inner : ∀ i, i < ws.length → ∀ (t : Int) (a b : D), exS CALL K.made_Last_l2 ⟨[a, .bp 0 0, b, I t, I i, I 0], [.box [.t (.sl (ws.map World.e))]]⟩ =
      some (.exit 2, ⟨[.und, .bp 0 0, .und, I (lastW (nth ws i).whr t (nth ws i).whr.length), I i, I (nth ws i).whr.length], [.box [.t (.sl (ws.map World.e))]]⟩) := by
    intro i hi t a b
    have g1 : (ws.map World.e)[i]? = some (nth ws i).e := map_nth _ hi
    have sz := (s2 _ (nth_mem hi)).2.1
    refine loop_up (fun j => ⟨[.und, .bp 0 0, .und, I (lastW (nth ws i).whr t j), I i, I j], [.box [.t (.sl (ws.map World.e))]]⟩) (nth ws i).whr.length rfl ?_ ?_ (by simp)
    · intro j hj
      have g2 : ((nth ws i).whr.map Wh.e)[j]? = some (nth (nth ws i).whr j).e := map_nth _ hj
      simp only [lastW]
      generalize lastW (nth ws i).whr t j = q at *
      generalize nth (nth ws i).whr j = w at *
      generalize nth ws i = x at *
      obtain ⟨tags, whr⟩ := x
      obtain ⟨time, frm⟩ := w
      simp only at *
      simp (disch := omega) only [go_sem, K.made_Last_l2b, ↓reduceIte, g1, g2, Nat.reduceAdd, Nat.reduceSub]
    · generalize lastW (nth ws i).whr t (nth ws i).whr.length = q at *
      generalize nth ws i = x at *
      obtain ⟨tags, whr⟩ := x
      simp only at *
      simp (disch := omega) only [go_sem, K.made_Last_l2b, ↓reduceIte, g1, Nat.reduceAdd, Nat.reduceSub]
  have loop : ∀ a b c : D, exS CALL K.made_Last_l1 ⟨[a, .bp 0 0, b, I 0, I 0, c], [.box [.t (.sl (ws.map World.e))]]⟩ =
      some (.exit 0, ⟨[.und, .bp 0 0, .und, I (lastN ws ws.length), I ws.length, .und], [.box [.t (.sl (ws.map World.e))]]⟩) := by
    intro a b c
    refine loop_up (fun i => ⟨[.und, .bp 0 0, .und, I (lastN ws i), I i, .und], [.box [.t (.sl (ws.map World.e))]]⟩) ws.length rfl ?_ ?_ (by simp)
    · intro i hi
      have inner := fun t a b => inner i hi t a b
      simp (disch := omega) only [go_sem, K.made_Last_l1b, ↓reduceIte, inner, lastN, Nat.reduceAdd, Nat.reduceSub]
    · simp (disch := omega) only [go_sem, K.made_Last_l1b, ↓reduceIte, Nat.reduceAdd, Nat.reduceSub]
  simp (disch := omega) only [go_sem, K.made_Last, ↓reduceIte, loop, Nat.reduceAdd, Nat.reduceSub]

end Go.Ev

/- HeadsSplit, HeadsMore, HeadsTrue: plain facts on counts. -/
namespace Go.Ev
open Go
variable [Lib] [Has1] [Has2] [Has3] [Has5]

/-- A loop, by a relation; each round goes on or ends. -/
theorem loop_or {gc : Bool} {dead : List Nat} {c : C} {vs : List D} {H : Heap} (P : Nat → St → Prop) (n : Nat) (Q : Ex × St → Prop) (h0 : P 0 ⟨dropV dead vs, H⟩)
    (hs : ∀ j st, j < n → P j st → (∃ st', roundC gc dead st.H.length (exS CALL c st) = some st' ∧ P (j + 1) st') ∨ ∃ q, exS CALL c st = some q ∧ q.1 ≠ .normal ∧ Q q)
    (he : ∀ st, P n st → ∃ q, exS CALL c st = some q ∧ q.1 ≠ .normal ∧ Q q) : ∃ q, exS CALL (.loop gc dead c) ⟨vs, H⟩ = some q ∧ Q q := by
  have key : ∀ (k j : Nat) (st : St), j + k = n → P j st → ∃ q, loopC gc dead (exS CALL c) st = some q ∧ Q q := by
    intro k
    induction k with
    | zero =>
      intro j st hj hp
      obtain ⟨q, h1, h2, h3⟩ := he st (by rw [← hj]; exact hp)
      exact ⟨q, loopC_exit h1 h2, h3⟩
    | succ k ih =>
      intro j st hj hp
      rcases hs j st (by omega) hp with ⟨st', h1, h2⟩ | ⟨q, h1, h2, h3⟩
      · obtain ⟨q, h3, h4⟩ := ih (j + 1) st' (by omega) h2
        exact ⟨q, loopC_step h1 h3, h4⟩
      · exact ⟨q, loopC_exit h1 h2, h3⟩
  exact key n 0 _ (by omega) h0

/- the counts, by worlds -/
theorem cntN_low (ws : List World) (area : List Int) (t : Int) : ∀ i, 1 ≤ i → (∀ j, j < i → (cntN ws area t i).low ≤ isN (nth ws j).whr area t (nth ws j).whr.length) ∧ ∃ j, j < i ∧ (cntN ws area t i).low = isN (nth ws j).whr area t (nth ws j).whr.length
  | 0, h => absurd h (by omega)
  | i + 1, _ => by
    by_cases h0 : i = 0
    · subst h0
      refine ⟨fun j hj => ?_, 0, by omega, by simp [cntN]⟩
      obtain rfl : j = 0 := by omega
      simp [cntN]
    · obtain ⟨h1, j, hj, h2⟩ := cntN_low ws area t i (by omega)
      simp only [cntN, if_neg h0]
      refine ⟨fun k hk => ?_, ?_⟩
      · by_cases hki : k = i
        · subst hki; omega
        · have := h1 k (by omega); omega
      · by_cases hle : (cntN ws area t i).low ≤ (isN (nth ws i).whr area t (nth ws i).whr.length : Int)
        · exact ⟨j, by omega, by omega⟩
        · exact ⟨i, by omega, by omega⟩
theorem cntN_high (ws : List World) (area : List Int) (t : Int) : ∀ i, 1 ≤ i → (∀ j, j < i → (canN (nth ws j).whr area t (nth ws j).whr.length : Int) ≤ (cntN ws area t i).high) ∧ ∃ j, j < i ∧ (cntN ws area t i).high = canN (nth ws j).whr area t (nth ws j).whr.length
  | 0, h => absurd h (by omega)
  | i + 1, _ => by
    by_cases h0 : i = 0
    · subst h0
      refine ⟨fun j hj => ?_, 0, by omega, by simp [cntN]⟩
      obtain rfl : j = 0 := by omega
      simp [cntN]
    · obtain ⟨h1, j, hj, h2⟩ := cntN_high ws area t i (by omega)
      simp only [cntN, if_neg h0]
      refine ⟨fun k hk => ?_, ?_⟩
      · by_cases hki : k = i
        · subst hki; omega
        · have := h1 k (by omega); omega
      · by_cases hle : (canN (nth ws i).whr area t (nth ws i).whr.length : Int) ≤ (cntN ws area t i).high
        · exact ⟨j, by omega, by omega⟩
        · exact ⟨i, by omega, by omega⟩

theorem canF_iff {w : Wh} {area : List Int} {t : Int} : canF w area t = true ↔ ∃ p ∈ possF w t, p ∈ area := by
  unfold canF; rw [List.any_eq_true]; simp
theorem isF_iff {w : Wh} {area : List Int} {t : Int} : isF w area t = true ↔ (∃ p, p ∈ possF w t) ∧ ∀ p ∈ possF w t, p ∈ area := by
  unfold isF
  rw [Bool.and_eq_true, canF_iff, Bool.not_eq_true', List.any_eq_false]
  constructor
  · rintro ⟨⟨p, h1, h2⟩, h3⟩
    exact ⟨⟨p, h1⟩, fun q hq => by simpa using h3 q hq⟩
  · rintro ⟨⟨p, h1⟩, h3⟩
    exact ⟨⟨p, h1, h3 p h1⟩, fun q hq => by simpa using h3 q hq⟩
theorem isF_can {w : Wh} {area : List Int} {t : Int} (h : isF w area t = true) : canF w area t = true := by
  unfold isF at h; rw [Bool.and_eq_true] at h; exact h.1
theorem isN_can (l : List Wh) (area : List Int) (t : Int) : ∀ j, isN l area t j ≤ canN l area t j
  | 0 => Nat.le_refl _
  | j + 1 => by
    have := isN_can l area t j
    simp only [isN, canN]
    by_cases h : isF (nth l j) area t = true
    · rw [if_pos h, if_pos (isF_can h)]; omega
    · rw [if_neg h]; split <;> omega

/-- Of two areas without a common place. -/
theorem split_is {l k a : List Int} (ha : ∀ p, p ∈ a ↔ p ∈ l ∨ p ∈ k) (hd : ∀ p, p ∈ l → p ∉ k) (ws : List Wh) (t : Int) : ∀ j, isN ws l t j + isN ws k t j ≤ isN ws a t j
  | 0 => Nat.le_refl _
  | j + 1 => by
    have ih := split_is ha hd ws t j
    simp only [isN]
    by_cases h1 : isF (nth ws j) l t = true
    · obtain ⟨⟨p, q1⟩, q2⟩ := isF_iff.1 h1
      have h2 : ¬ isF (nth ws j) k t = true := fun h => by
        obtain ⟨-, q3⟩ := isF_iff.1 h
        exact hd p (q2 p q1) (q3 p q1)
      have h3 : isF (nth ws j) a t = true := isF_iff.2 ⟨⟨p, q1⟩, fun q hq => (ha q).2 (.inl (q2 q hq))⟩
      rw [if_pos h1, if_neg h2, if_pos h3]; omega
    · rw [if_neg h1]
      by_cases h2 : isF (nth ws j) k t = true
      · obtain ⟨⟨p, q1⟩, q2⟩ := isF_iff.1 h2
        have h3 : isF (nth ws j) a t = true := isF_iff.2 ⟨⟨p, q1⟩, fun q hq => (ha q).2 (.inr (q2 q hq))⟩
        rw [if_pos h2, if_pos h3]; omega
      · rw [if_neg h2]; split <;> omega
theorem split_can {l k a : List Int} (ha : ∀ p, p ∈ a ↔ p ∈ l ∨ p ∈ k) (ws : List Wh) (t : Int) : ∀ j, canN ws a t j ≤ canN ws l t j + canN ws k t j
  | 0 => Nat.le_refl _
  | j + 1 => by
    have ih := split_can ha ws t j
    simp only [canN]
    by_cases h1 : canF (nth ws j) a t = true
    · obtain ⟨p, q1, q2⟩ := canF_iff.1 h1
      rw [if_pos h1]
      rcases (ha p).1 q2 with h | h
      · rw [if_pos (canF_iff.2 ⟨p, q1, h⟩)]; split <;> omega
      · rw [if_pos (c := canF (nth ws j) k t = true) (canF_iff.2 ⟨p, q1, h⟩)]; split <;> omega
    · rw [if_neg h1]; split <;> split <;> omega

theorem split_cnt {l k a : List Int} (ha : ∀ p, p ∈ a ↔ p ∈ l ∨ p ∈ k) (hd : ∀ p, p ∈ l → p ∉ k) (b : Bel) (hb : 1 ≤ b.worlds.length) (t : Int) :
    (cntF b l t).low + (cntF b k t).low ≤ (cntF b a t).low ∧ (cntF b a t).high ≤ (cntF b l t).high + (cntF b k t).high ∧ (cntF b a t).low ≤ (cntF b a t).high := by
  unfold cntF
  obtain ⟨a1, j, hj, a2⟩ := cntN_low b.worlds a t _ hb
  obtain ⟨a3, i, hi, a4⟩ := cntN_high b.worlds a t _ hb
  have l1 := (cntN_low b.worlds l t _ hb).1 j hj
  have l2 := (cntN_high b.worlds l t _ hb).1 i hi
  have k1 := (cntN_low b.worlds k t _ hb).1 j hj
  have k2 := (cntN_high b.worlds k t _ hb).1 i hi
  have s1 := split_is ha hd (nth b.worlds j).whr t (nth b.worlds j).whr.length
  have s2 := split_can ha (nth b.worlds i).whr t (nth b.worlds i).whr.length
  have s3 := isN_can (nth b.worlds j).whr a t (nth b.worlds j).whr.length
  have s4 := a3 j hj
  omega

/-- With more places. -/
theorem more_is {l a : List Int} (ha : ∀ p, p ∈ l → p ∈ a) (ws : List Wh) (t : Int) : ∀ j, isN ws l t j ≤ isN ws a t j
  | 0 => Nat.le_refl _
  | j + 1 => by
    have ih := more_is ha ws t j
    simp only [isN]
    by_cases h1 : isF (nth ws j) l t = true
    · obtain ⟨q1, q2⟩ := isF_iff.1 h1
      rw [if_pos h1, if_pos (isF_iff.2 ⟨q1, fun q hq => ha q (q2 q hq)⟩)]; omega
    · rw [if_neg h1]; split <;> omega
theorem more_can {l a : List Int} (ha : ∀ p, p ∈ l → p ∈ a) (ws : List Wh) (t : Int) : ∀ j, canN ws l t j ≤ canN ws a t j
  | 0 => Nat.le_refl _
  | j + 1 => by
    have ih := more_can ha ws t j
    simp only [canN]
    by_cases h1 : canF (nth ws j) l t = true
    · obtain ⟨p, q1, q2⟩ := canF_iff.1 h1
      rw [if_pos h1, if_pos (canF_iff.2 ⟨p, q1, ha p q2⟩)]; omega
    · rw [if_neg h1]; split <;> omega
theorem more_cnt {l a : List Int} (ha : ∀ p, p ∈ l → p ∈ a) (b : Bel) (hb : 1 ≤ b.worlds.length) (t : Int) : (cntF b l t).low ≤ (cntF b a t).low ∧ (cntF b l t).high ≤ (cntF b a t).high := by
  unfold cntF
  obtain ⟨a1, j, hj, a2⟩ := cntN_low b.worlds a t _ hb
  obtain ⟨l3, i, hi, l4⟩ := cntN_high b.worlds l t _ hb
  have l1 := (cntN_low b.worlds l t _ hb).1 j hj
  have a3 := (cntN_high b.worlds a t _ hb).1 i hi
  have s1 := more_is ha (nth b.worlds j).whr t (nth b.worlds j).whr.length
  have s2 := more_can ha (nth b.worlds i).whr t (nth b.worlds i).whr.length
  omega
theorem all_is {a : List Int} (ws : List Wh) (t : Int) (h : ∀ i, i < ws.length → (possF (nth ws i) t).length ≠ 0) (ha : ∀ i, i < ws.length → ∀ p ∈ possF (nth ws i) t, p ∈ a) : ∀ j, j ≤ ws.length → isN ws a t j = j ∧ canN ws a t j = j
  | 0, _ => ⟨rfl, rfl⟩
  | j + 1, hj => by
    obtain ⟨h1, h2⟩ := all_is ws t h ha j (by omega)
    have hf : isF (nth ws j) a t = true := by
      refine isF_iff.2 ⟨?_, ha j (by omega)⟩
      obtain ⟨p, hp⟩ := List.exists_mem_of_length_pos (l := possF (nth ws j) t) (by have := h j (by omega); omega)
      exact ⟨p, hp⟩
    simp only [isN, canN, if_pos hf, if_pos (isF_can hf), h1, h2, and_self]

end Go.Ev

/- HeadsMore, by the code. -/
namespace Go.Ev
open Go
variable [Lib] [Has1] [Has2] [Has3] [Has5]

def upTo : Nat → List Int
  | 0 => []
  | k + 1 => upTo k ++ [(k : Int)]
theorem upTo_len : ∀ k, (upTo k).length = k
  | 0 => rfl
  | k + 1 => by simp [upTo, upTo_len k]
theorem mem_upTo : ∀ {k : Nat} {x : Int}, x ∈ upTo k ↔ 0 ≤ x ∧ x < k
  | 0, x => by simp only [upTo, List.not_mem_nil, false_iff]; omega
  | k + 1, x => by
    simp only [upTo, List.mem_append, List.mem_singleton, mem_upTo (k := k)]
    omega
def Dice.mrN (area : List Int) (d : Dice) : Nat → List Int × Dice
  | 0 => ([], d)
  | k + 1 => if (k : Int) ∈ area then ((Dice.mrN area d k).1 ++ [(k : Int)], (Dice.mrN area d k).2)
    else (if ((Dice.mrN area d k).2.one 2).1 = true then (Dice.mrN area d k).1 ++ [(k : Int)] else (Dice.mrN area d k).1, ((Dice.mrN area d k).2.one 2).2)
theorem mrN_ok (area : List Int) {d : Dice} (h : d.light) : ∀ k, (Dice.mrN area d k).2.light ∧ (Dice.mrN area d k).1.length ≤ k ∧ ∀ p, p ∈ area → 0 ≤ p → p < k → p ∈ (Dice.mrN area d k).1
  | 0 => ⟨h, by simp [Dice.mrN], fun p _ h0 h1 => absurd h0 (by omega)⟩
  | k + 1 => by
    obtain ⟨h1, h2, h3⟩ := mrN_ok area h k
    simp only [Dice.mrN]
    split
    · refine ⟨h1, by simp; omega, fun p hp h0 h4 => ?_⟩
      simp only [List.mem_append, List.mem_singleton]
      by_cases e : p = k
      · exact .inr e
      · exact .inl (h3 p hp h0 (by omega))
    · rename_i hn
      refine ⟨Dice.one_light h1 2, by simp only; split <;> (try rw [List.length_append, List.length_singleton]) <;> omega, fun p hp h0 h4 => ?_⟩
      have hk : p ≠ k := fun e => hn (e ▸ hp)
      have := h3 p hp h0 (by omega)
      simp only
      split
      · exact List.mem_append_left _ this
      · exact this

abbrev mrH (m : Mine) (b : Bel) (d : Dice) (a r : List Int) : Heap := [d.obj, .box (mineCells m), .box [.t (.sl (b.worlds.map World.e))], .arr 1 false 0 (ints a), .arr 1 false 0 (ints r)]

theorem mr_loop (m : Mine) (hm : m.places.length ≤ 1000) (b : Bel) (area : List Int) (ha : area.length ≤ 1000) (d : Dice) (hd : d.light) (t : Int) (x y z u v w q r : D) :
    exS CALL K.law27_HeadsMore_l1 ⟨[x, y, .bp 0 0, .bp 1 0, .bp 2 0, I t, .t (tL area), .ref 3 0 0, .ref 4 0 0, I 0, z, u, v, w, q, r], [d.obj, .box (mineCells m), .box [.t (.sl (b.worlds.map World.e))], .arr 1 false 0 [], .arr 1 false 0 []]⟩ =
    some (.exit 0, ⟨[.und, .und, .bp 0 0, .bp 1 0, .bp 2 0, I t, .t (tL area), .ref 3 0 m.places.length, .ref 4 0 (Dice.mrN area d m.places.length).1.length, I m.places.length, .und, .und, .und, .und, .und, .und], mrH m b (Dice.mrN area d m.places.length).2 (upTo m.places.length) (Dice.mrN area d m.places.length).1⟩) := by
  refine loop_up (fun j => ⟨[.und, .und, .bp 0 0, .bp 1 0, .bp 2 0, I t, .t (tL area), .ref 3 0 j, .ref 4 0 (Dice.mrN area d j).1.length, I j, .und, .und, .und, .und, .und, .und], mrH m b (Dice.mrN area d j).2 (upTo j) (Dice.mrN area d j).1⟩) m.places.length rfl ?_ ?_ (by simp)
  · intro j hj
    obtain ⟨h1, h2, -⟩ := mrN_ok area hd j
    have hs := has_ok area j (by omega)
    have ul := upTo_len j
    simp only [Dice.mrN, upTo]
    generalize Dice.mrN area d j = s at *
    generalize upTo j = a at *
    obtain ⟨l, d1⟩ := s
    simp only at h1 h2 ⊢
    by_cases c : (j : Int) ∈ area
    · simp only [c, decide_true] at hs
      simp only [if_pos c]
      simp (disch := omega) only [go_sem, K.law27_HeadsMore_l1b, ↓reduceIte, mrH, ints, hs, Nat.reduceAdd, Nat.reduceSub]
    · simp only [c, decide_false] at hs
      simp only [if_neg c]
      have on := one_ok d1 2 (by omega) (by omega) h1
      generalize d1.one 2 = o at *
      obtain ⟨o, d2⟩ := o
      simp only at on ⊢
      cases o with
      | true => simp (disch := omega) only [go_sem, K.law27_HeadsMore_l1b, ↓reduceIte, mrH, ints, hs, on, Nat.reduceAdd, Nat.reduceSub]
      | false => simp (disch := omega) only [go_sem, K.law27_HeadsMore_l1b, ↓reduceIte, mrH, ints, hs, on, Nat.reduceAdd, Nat.reduceSub, Bool.false_eq_true]
  · simp (disch := omega) only [go_sem, K.law27_HeadsMore_l1b, ↓reduceIte, mrH, ints, Nat.reduceAdd, Nat.reduceSub]

def retTrue (q : Ex × St) : Prop := q.1 = .ret ∧ q.2.vs[1]? = some (B true)

section
variable {m : Mine} (hm : m.ok) {N : Nat} {b : Bel} (hb : BOk m N b) (aw : CALL 0 Ev.N.law27_awake [] [] = some (B true, [])) (t : Int)
include hm hb aw

theorem mr_l3 (a r : List Int) (d : Dice) (area : List Int) (v7 v8 : Nat) (i : Nat) (hi : i < b.worlds.length) (x y z u p q w o s : D) :
    ∃ e, exS CALL K.law27_HeadsMore_l3 ⟨[x, y, z, u, .bp 2 0, I t, .t (tL area), .ref 3 0 v7, .ref 4 0 v8, p, I i, I 0, q, w, o, s], mrH m b d a r⟩ = some e ∧
      ((e = (.exit 4, ⟨[.und, .und, .und, .und, .bp 2 0, I t, .t (tL area), .ref 3 0 v7, .ref 4 0 v8, .und, I i, I (nth b.worlds i).whr.length, .und, .und, .und, .und], mrH m b d a r⟩) ∧ ∀ k, k < (nth b.worlds i).whr.length → (possF (nth (nth b.worlds i).whr k) t).length ≠ 0) ∨ retTrue e) := by
  have np := hm.np
  have g1 : (b.worlds.map World.e)[i]? = some (nth b.worlds i).e := map_nth _ hi
  have wo := hb.ws _ (nth_mem hi)
  have ww := wo.wh
  have n2 := hb.n2
  refine loop_or (fun k st => st = ⟨[.und, .und, .und, .und, .bp 2 0, I t, .t (tL area), .ref 3 0 v7, .ref 4 0 v8, .und, I i, I k, .und, .und, .und, .und], mrH m b d a r⟩ ∧ ∀ j, j < k → (possF (nth (nth b.worlds i).whr j) t).length ≠ 0) (nth b.worlds i).whr.length _ ⟨rfl, fun j hj => absurd hj (by omega)⟩ ?_ ?_
  · rintro k st hk ⟨rfl, hp⟩
    have g2 : ((nth b.worlds i).whr.map Wh.e)[k]? = some (nth (nth b.worlds i).whr k).e := map_nth _ hk
    have fr := wo.fr _ (nth_mem hk)
    have ps := possible25_ok (nth (nth b.worlds i).whr k) t (by omega)
    have pl := possF_len (nth (nth b.worlds i).whr k) t
    by_cases c : (possF (nth (nth b.worlds i).whr k) t).length = 0
    · right
      generalize possF (nth (nth b.worlds i).whr k) t = pf at *
      generalize nth (nth b.worlds i).whr k = w at *
      obtain ⟨time, frm⟩ := w
      generalize nth b.worlds i = xx at *
      obtain ⟨tags, whr⟩ := xx
      obtain ⟨ws⟩ := b
      simp only [mrH, ints] at *
      refine ⟨?qx, ?hx, ?ax, ?bx⟩
      case hx =>
        simp (disch := omega) only [go_sem, K.law27_HeadsMore_l3b, ↓reduceIte, g1, g2, ps, c, aw, Nat.reduceAdd, Nat.reduceSub]
        rfl
      case ax => simp
      case bx => exact .inr ⟨rfl, rfl⟩
    · left
      refine ⟨⟨[.und, .und, .und, .und, .bp 2 0, I t, .t (tL area), .ref 3 0 v7, .ref 4 0 v8, .und, I i, I (k + 1), .und, .und, .und, .und], mrH m b d a r⟩, ?_, rfl, ?_⟩
      · clear hp
        generalize possF (nth (nth b.worlds i).whr k) t = pf at *
        generalize nth (nth b.worlds i).whr k = w at *
        obtain ⟨time, frm⟩ := w
        generalize nth b.worlds i = xx at *
        obtain ⟨tags, whr⟩ := xx
        obtain ⟨ws⟩ := b
        simp only [mrH, ints] at *
        simp (disch := omega) only [go_sem, K.law27_HeadsMore_l3b, ↓reduceIte, g1, g2, ps, c, Nat.reduceAdd, Nat.reduceSub]
      · intro j hj
        by_cases e : j = k
        · rw [e]; exact c
        · exact hp j (by omega)
  · rintro st ⟨rfl, hp⟩
    refine ⟨(.exit 4, ⟨[.und, .und, .und, .und, .bp 2 0, I t, .t (tL area), .ref 3 0 v7, .ref 4 0 v8, .und, I i, I (nth b.worlds i).whr.length, .und, .und, .und, .und], mrH m b d a r⟩), ?_, by simp, .inl ⟨rfl, hp⟩⟩
    clear hp
    generalize nth b.worlds i = xx at *
    obtain ⟨tags, whr⟩ := xx
    simp only [mrH, ints] at *
    simp (disch := omega) only [go_sem, K.law27_HeadsMore_l3b, ↓reduceIte, g1, Nat.reduceAdd, Nat.reduceSub]

theorem mr_l2 (a r : List Int) (d : Dice) (area : List Int) (v7 v8 : Nat) (x y z u p q w o s v : D) :
    ∃ e, exS CALL K.law27_HeadsMore_l2 ⟨[x, y, z, u, .bp 2 0, I t, .t (tL area), .ref 3 0 v7, .ref 4 0 v8, p, I 0, v, q, w, o, s], mrH m b d a r⟩ = some e ∧
      ((e = (.exit 2, ⟨[.und, .und, .und, .und, .bp 2 0, I t, .t (tL area), .ref 3 0 v7, .ref 4 0 v8, .und, I b.worlds.length, .und, .und, .und, .und, .und], mrH m b d a r⟩) ∧ ∀ i, i < b.worlds.length → ∀ k, k < (nth b.worlds i).whr.length → (possF (nth (nth b.worlds i).whr k) t).length ≠ 0) ∨ retTrue e) := by
  have w2 := hb.w2
  refine loop_or (fun i st => st = ⟨[.und, .und, .und, .und, .bp 2 0, I t, .t (tL area), .ref 3 0 v7, .ref 4 0 v8, .und, I i, .und, .und, .und, .und, .und], mrH m b d a r⟩ ∧ ∀ j, j < i → ∀ k, k < (nth b.worlds j).whr.length → (possF (nth (nth b.worlds j).whr k) t).length ≠ 0) b.worlds.length _ ⟨rfl, fun j hj => absurd hj (by omega)⟩ ?_ ?_
  · rintro i st hi ⟨rfl, hp⟩
    obtain ⟨e, e1, e2⟩ := mr_l3 hm hb aw t a r d area v7 v8 i hi .und .und .und .und .und .und .und .und .und
    rcases e2 with ⟨rfl, e2⟩ | ⟨e2, e3⟩
    · left
      refine ⟨⟨[.und, .und, .und, .und, .bp 2 0, I t, .t (tL area), .ref 3 0 v7, .ref 4 0 v8, .und, I (i + 1), .und, .und, .und, .und, .und], mrH m b d a r⟩, ?_, rfl, ?_⟩
      · clear hp
        simp only [mrH, ints] at *
        simp (disch := omega) only [go_sem, K.law27_HeadsMore_l2b, ↓reduceIte, e1, Nat.reduceAdd, Nat.reduceSub]
      · intro j hj
        by_cases e : j = i
        · rw [e]; exact e2
        · exact hp j (by omega)
    · right
      obtain ⟨e0, vs, H⟩ := e
      simp only at e2 e3
      subst e2
      refine ⟨(.ret, ⟨vs, H⟩), ?_, by simp, .inr ⟨rfl, e3⟩⟩
      clear hp
      simp only [mrH, ints] at *
      simp (disch := omega) only [go_sem, K.law27_HeadsMore_l2b, ↓reduceIte, e1, Nat.reduceAdd, Nat.reduceSub]
  · rintro st ⟨rfl, hp⟩
    refine ⟨(.exit 2, ⟨[.und, .und, .und, .und, .bp 2 0, I t, .t (tL area), .ref 3 0 v7, .ref 4 0 v8, .und, I b.worlds.length, .und, .und, .und, .und, .und], mrH m b d a r⟩), ?_, by simp, .inl ⟨rfl, hp⟩⟩
    clear hp
    simp only [mrH, ints] at *
    simp (disch := omega) only [go_sem, K.law27_HeadsMore_l2b, ↓reduceIte, Nat.reduceAdd, Nat.reduceSub]
end

theorem HeadsMore_law (aw : CALL 0 N.law27_awake [] [] = some (B true, [])) (li : List Int) : CALL 0 N.law27_HeadsMore [.t (tL li)] [] = some (B true, []) := by
  refine CALL_of K.t_law27_HeadsMore rfl ?_
  have lo := light_ok li
  by_cases c : li.length ≤ 400
  · simp only [c, decide_true] at lo
    have ro := roll_ok li
    have d0 : (Dice.mk li 0).light := c
    generalize (Dice.mk li 0) = d at *
    have mo := mine_ok d d0
    have hm := d.mine_good
    have mp := d.mine_places
    have mb := d.mineN_bd
    have d1 := Dice.mine_light d0
    generalize d.mineN = n at *
    generalize d.mine = r1 at *
    obtain ⟨m, e1⟩ := r1
    simp only at mo hm mp d1
    have np := hm.np
    have bo := belief_ok hm (by omega) e1 d1
    obtain ⟨bg, d2⟩ := belF_good hm (by omega) d1
    generalize e1.belP = NN at *
    generalize e1.belief m = r2 at *
    obtain ⟨b, e2⟩ := r2
    simp only at bo bg d2
    have bsz := bg.sz hm
    have la := last_ok b bsz
    have li2 := lastN_in bg.ws b.worlds.length (Nat.le_refl _)
    have le : lastN b.worlds b.worlds.length = lastF b := rfl
    rw [le] at li2
    unfold inT at li2
    generalize lastF b = tl at *
    have no := next_ok e2 100 (by omega) d2
    have n0 := e2.next_lo 100
    have n9 := e2.next_hi (n := 100) (by omega)
    have d3 := Dice.next_light d2 100
    generalize e2.next 100 = r3 at *
    obtain ⟨u, e3⟩ := r3
    simp only at no n0 n9 d3
    have so := some_ok e3 m.places.length (by omega) d3
    have sl := e3.someN_len m.places.length
    have sg := someN_in e3 m.places.length
    have d4 := Dice.someN_light d3 m.places.length
    generalize e3.someN m.places.length = r4 at *
    obtain ⟨area, e4⟩ := r4
    simp only at so sl sg d4
    have loop := fun x y z u' v w q r => mr_loop m (by omega) b area (by omega) e4 d4 (tl + u) x y z u' v w q r
    obtain ⟨g1, g2, g3⟩ := mrN_ok area d4 m.places.length
    have g3 : ∀ p, p ∈ area → p ∈ (Dice.mrN area e4 m.places.length).1 := fun p hp => g3 p hp (sg p hp).1 (sg p hp).2
    generalize Dice.mrN area e4 m.places.length = s at *
    obtain ⟨more, e5⟩ := s
    simp only at loop g1 g2 g3
    have ul := upTo_len m.places.length
    obtain ⟨q, q1, q2⟩ := mr_l2 hm bg aw (tl + u) (upTo m.places.length) more e5 area m.places.length more.length .und .und (.bp 0 0) (.bp 1 0) (I m.places.length) .und .und .und .und .und
    rcases q2 with ⟨rfl, q2⟩ | ⟨q2, q3⟩
    · have c1 := count_ok b bsz area (by omega) (tl + u)
      have c2 := count_ok b bsz more (by omega) (tl + u)
      have c3 := count_ok b bsz (upTo m.places.length) (by omega) (tl + u)
      obtain ⟨k1, k2⟩ := more_cnt g3 b bg.w1 (tl + u)
      have allN : ∀ j, j < b.worlds.length → isN (nth b.worlds j).whr (upTo m.places.length) (tl + u) (nth b.worlds j).whr.length = NN ∧ canN (nth b.worlds j).whr (upTo m.places.length) (tl + u) (nth b.worlds j).whr.length = NN := fun j hj => by
        have wo := bg.ws _ (nth_mem hj)
        have := all_is (a := upTo m.places.length) (nth b.worlds j).whr (tl + u) (q2 j hj) (fun i hi p hp => by
          have := mem_possF.1 hp
          rw [wo.fr _ (nth_mem hi)] at this
          exact mem_upTo.2 ⟨this.1, this.2.1⟩) (nth b.worlds j).whr.length (Nat.le_refl _)
        rw [wo.wh] at this ⊢
        exact this
      have z1 : (cntF b (upTo m.places.length) (tl + u)).low = NN := by
        obtain ⟨-, j, hj, h⟩ := cntN_low b.worlds (upTo m.places.length) (tl + u) b.worlds.length bg.w1
        unfold cntF; rw [h, (allN j hj).1]
      have z2 : (cntF b (upTo m.places.length) (tl + u)).high = NN := by
        obtain ⟨-, j, hj, h⟩ := cntN_high b.worlds (upTo m.places.length) (tl + u) b.worlds.length bg.w1
        unfold cntF; rw [h, (allN j hj).2]
      have g0 : (b.worlds.map World.e)[0]? = some (nth b.worlds 0).e := map_nth _ (by have := bg.w1; omega)
      have t0 := (bg.ws _ (nth_mem (l := b.worlds) (j := 0) (by have := bg.w1; omega))).tg
      clear allN q2 g3 sg
      generalize cntF b area (tl + u) = o1 at *
      generalize cntF b more (tl + u) = o2 at *
      generalize cntF b (upTo m.places.length) (tl + u) = o3 at *
      generalize upTo m.places.length = ut at *
      obtain ⟨l1, h1⟩ := o1
      obtain ⟨l2, h2⟩ := o2
      obtain ⟨l3, h3⟩ := o3
      generalize nth b.worlds 0 = x0 at *
      obtain ⟨tags, whr⟩ := x0
      obtain ⟨ws⟩ := b
      simp only [mrH, ints] at *
      subst z1; subst z2
      simp (disch := omega) only [go_sem, K.law27_HeadsMore, ↓reduceIte, lo, ro, mo, bo, la, no, so, loop, q1, c1, c2, c3, aw, g0, t0, Nat.reduceAdd, Nat.reduceSub]
    · obtain ⟨e0, vs, H⟩ := q
      obtain ⟨ws⟩ := b
      simp only [mrH, ints] at *
      subst q2
      simp (disch := omega) only [go_sem, K.law27_HeadsMore, ↓reduceIte, lo, ro, mo, bo, la, no, so, loop, q1, q3, List.take_zero, Nat.reduceAdd, Nat.reduceSub]
  · simp only [c, decide_false] at lo
    simp (disch := omega) only [go_sem, K.law27_HeadsMore, ↓reduceIte, lo, aw, Nat.reduceAdd, Nat.reduceSub]

end Go.Ev

/- HeadsTrue, by the code. -/
namespace Go.Ev
open Go
variable [Lib] [Has1] [Has2] [Has3] [Has5]

theorem out_sure {b : Bel} {w : World} (hw : w ∈ b.worlds) {i : Nat} (hi : i < w.whr.length) {area : List Int} {t p : Int} (hp : p ∈ possF (nth w.whr i) t) (ha : p ∉ area) : (i : Int) ∉ sureF b area t := by
  unfold sureF
  rw [mem_whereF_nat]
  rintro ⟨-, h⟩
  rw [Bool.not_eq_true', List.any_eq_false] at h
  have := h w hw
  unfold lookF at this
  rw [if_neg (by omega)] at this
  simp only [Bool.not_eq_true', Bool.not_eq_false] at this
  exact ha ((isF_iff.1 this).2 p hp)
theorem in_maybe {b : Bel} {w : World} (hw : w ∈ b.worlds) {i : Nat} (hi : i < w.whr.length) (hpr : i < persF b) {area : List Int} {t p : Int} (hp : p ∈ possF (nth w.whr i) t) (ha : p ∈ area) : (i : Int) ∈ maybeF b area t := by
  unfold maybeF
  rw [mem_whereF_nat]
  refine ⟨hpr, List.any_eq_true.2 ⟨w, hw, ?_⟩⟩
  unfold lookF
  rw [if_neg (by omega)]
  exact canF_iff.2 ⟨p, hp, ha⟩

theorem sureF_len (b : Bel) (area : List Int) (t : Int) : (sureF b area t).length ≤ persF b := whereF_len _ _
theorem maybeF_len (b : Bel) (area : List Int) (t : Int) : (maybeF b area t).length ≤ persF b := whereF_len _ _

abbrev truH (m : Mine) (b : Bel) (w : World) (d : Dice) : Heap := [d.obj, .box (mineCells m), .box [.t (.sl (b.worlds.map World.e))], .box [.t (tL w.tags), .t (.sl (w.whr.map Wh.e))]]

section
variable {m : Mine} (hm : m.ok) {N : Nat} {b : Bel} (hb : BOk m N b) (aw : CALL 0 Ev.N.law27_awake [] [] = some (B true, [])) (t : Int)
include hm hb aw

theorem tru_loop (w : World) (hw : w ∈ b.worlds) (area : List Int) (ha : area.length ≤ 1000) (d : Dice) (hd : d.light) (x y z u v q : D) :
    ∃ e, exS CALL K.law27_HeadsTrue_l1 ⟨[x, y, .bp 0 0, z, .bp 2 0, I t, .t (tL area), .bp 3 0, I 0, I 0, u, v, q], truH m b w d⟩ = some e ∧
      ((∃ (d' : Dice) (n : Nat), e = (.exit 0, ⟨[.und, .und, .bp 0 0, .und, .bp 2 0, I t, .t (tL area), .bp 3 0, I n, I w.whr.length, .und, .und, .und], truH m b w d'⟩) ∧ isN w.whr area t w.whr.length ≤ n ∧ n ≤ canN w.whr area t w.whr.length) ∨ retTrue e) := by
  have np := hm.np
  have wo := hb.ws _ hw
  have ww := wo.wh
  have n2 := hb.n2
  have bsz := hb.sz hm
  have pe : persF b = N := by
    have := (hb.ws _ (nth_mem (l := b.worlds) (j := 0) (by have := hb.w1; omega))).wh
    unfold persF; rw [if_neg (by have := hb.w1; omega), this]
  have su := sure_ok b bsz area (by omega) t
  have ma := maybe_ok b bsz area (by omega) t
  have sl := sureF_len b area t
  have ml := maybeF_len b area t
  refine loop_or (fun i st => ∃ (d' : Dice) (n : Nat), st = ⟨[.und, .und, .bp 0 0, .und, .bp 2 0, I t, .t (tL area), .bp 3 0, I n, I i, .und, .und, .und], truH m b w d'⟩ ∧ d'.light ∧ isN w.whr area t i ≤ n ∧ n ≤ canN w.whr area t i) w.whr.length _ ⟨d, 0, rfl, hd, Nat.le_refl _, Nat.le_refl _⟩ ?_ ?_
  · rintro i st hi ⟨d', n, rfl, hl, h1, h2⟩
    have g2 : (w.whr.map Wh.e)[i]? = some (nth w.whr i).e := map_nth _ hi
    have fr := wo.fr _ (nth_mem hi)
    have ps := possible25_ok (nth w.whr i) t (by omega)
    have pl := possF_len (nth w.whr i) t
    have cl := canN_le w.whr area t i
    by_cases c : (possF (nth w.whr i) t).length = 0
    · right
      clear su ma
      generalize possF (nth w.whr i) t = pf at *
      generalize nth w.whr i = w' at *
      obtain ⟨time, frm⟩ := w'
      obtain ⟨tags, whr⟩ := w
      simp only [truH] at *
      refine ⟨?qa, ?ha, ?na, ?ra⟩
      case ha =>
        simp (disch := omega) only [go_sem, K.law27_HeadsTrue_l1b, ↓reduceIte, g2, ps, c, aw, Nat.reduceAdd, Nat.reduceSub]
        rfl
      case na => simp
      case ra => exact .inr ⟨rfl, rfl⟩
    · left
      have nx := next_ok d' (possF (nth w.whr i) t).length (by omega) hl
      have r0 := d'.next_lo (possF (nth w.whr i) t).length
      have r9 := d'.next_hi (n := ((possF (nth w.whr i) t).length : Int)) (by omega)
      have hl2 := Dice.next_light hl (possF (nth w.whr i) t).length
      generalize d'.next (possF (nth w.whr i) t).length = r at *
      obtain ⟨k, d2⟩ := r
      simp only at nx r0 r9 hl2
      obtain ⟨k, rfl⟩ := Int.eq_ofNat_of_zero_le r0
      have hk : k < (possF (nth w.whr i) t).length := by omega
      have hp := nth_mem hk
      have hs := has_ok area (nth (possF (nth w.whr i) t) k) (by omega)
      by_cases ci : nth (possF (nth w.whr i) t) k ∈ area
      · have im := in_maybe hw hi (by omega) hp ci
        have hm' := has_ok (maybeF b area t) i (by omega)
        simp only [im, decide_true] at hm'
        simp only [ci, decide_true] at hs
        refine ⟨⟨[.und, .und, .bp 0 0, .und, .bp 2 0, I t, .t (tL area), .bp 3 0, I ((n + 1 : Nat) : Int), I (i + 1), .und, .und, .und], truH m b w d2⟩, ?_, d2, n + 1, rfl, hl2, ?_, ?_⟩
        · have nb : n ≤ 1000 := by omega
          clear su h1 h2 hp ci im
          generalize hpk : nth (possF (nth w.whr i) t) k = pk at *
          generalize possF (nth w.whr i) t = pf at *
          generalize nth w.whr i = w' at *
          generalize maybeF b area t = mf at *
          obtain ⟨time, frm⟩ := w'
          obtain ⟨tags, whr⟩ := w
          obtain ⟨ws⟩ := b
          simp only [truH] at *
          simp (disch := omega) only [go_sem, K.law27_HeadsTrue_l1b, ↓reduceIte, g2, ps, c, nx, hpk, hs, ma, hm', Nat.reduceAdd, Nat.reduceSub]
        · simp only [isN]; split <;> omega
        · simp only [canN]; rw [if_pos (canF_iff.2 ⟨_, hp, ci⟩)]; omega
      · have os := out_sure hw hi hp ci
        have hm' := has_ok (sureF b area t) i (by omega)
        simp only [os, decide_false] at hm'
        simp only [ci, decide_false] at hs
        refine ⟨⟨[.und, .und, .bp 0 0, .und, .bp 2 0, I t, .t (tL area), .bp 3 0, I n, I (i + 1), .und, .und, .und], truH m b w d2⟩, ?_, d2, n, rfl, hl2, ?_, ?_⟩
        · have nb : n ≤ 1000 := by omega
          clear ma h1 h2 hp ci os
          generalize hpk : nth (possF (nth w.whr i) t) k = pk at *
          generalize possF (nth w.whr i) t = pf at *
          generalize nth w.whr i = w' at *
          generalize sureF b area t = mf at *
          obtain ⟨time, frm⟩ := w'
          obtain ⟨tags, whr⟩ := w
          obtain ⟨ws⟩ := b
          simp only [truH] at *
          simp (disch := omega) only [go_sem, K.law27_HeadsTrue_l1b, ↓reduceIte, g2, ps, c, nx, hpk, hs, su, hm', Nat.reduceAdd, Nat.reduceSub]
        · simp only [isN]; rw [if_neg (fun h => ci ((isF_iff.1 h).2 _ hp))]; omega
        · simp only [canN]; split <;> omega
  · rintro st ⟨d', n, rfl, hl, h1, h2⟩
    refine ⟨(.exit 0, ⟨[.und, .und, .bp 0 0, .und, .bp 2 0, I t, .t (tL area), .bp 3 0, I n, I w.whr.length, .und, .und, .und], truH m b w d'⟩), ?_, by simp, .inl ⟨d', n, rfl, h1, h2⟩⟩
    clear su ma
    obtain ⟨tags, whr⟩ := w
    simp only [truH] at *
    simp (disch := omega) only [go_sem, K.law27_HeadsTrue_l1b, ↓reduceIte, Nat.reduceAdd, Nat.reduceSub]
end

theorem HeadsTrue_law (aw : CALL 0 N.law27_awake [] [] = some (B true, [])) (li : List Int) : CALL 0 N.law27_HeadsTrue [.t (tL li)] [] = some (B true, []) := by
  refine CALL_of K.t_law27_HeadsTrue rfl ?_
  have lo := light_ok li
  by_cases c : li.length ≤ 400
  · simp only [c, decide_true] at lo
    have ro := roll_ok li
    have d0 : (Dice.mk li 0).light := c
    generalize (Dice.mk li 0) = d at *
    have mo := mine_ok d d0
    have hm := d.mine_good
    have mp := d.mine_places
    have mb := d.mineN_bd
    have d1 := Dice.mine_light d0
    generalize d.mineN = n at *
    generalize d.mine = r1 at *
    obtain ⟨m, e1⟩ := r1
    simp only at mo hm mp d1
    have np := hm.np
    have bo := belief_ok hm (by omega) e1 d1
    obtain ⟨bg, d2⟩ := belF_good hm (by omega) d1
    generalize e1.belP = NN at *
    generalize e1.belief m = r2 at *
    obtain ⟨b, e2⟩ := r2
    simp only at bo bg d2
    have bsz := bg.sz hm
    have la := last_ok b bsz
    have li2 := lastN_in bg.ws b.worlds.length (Nat.le_refl _)
    have le : lastN b.worlds b.worlds.length = lastF b := rfl
    rw [le] at li2
    unfold inT at li2
    generalize lastF b = tl at *
    have no := next_ok e2 100 (by omega) d2
    have n0 := e2.next_lo 100
    have n9 := e2.next_hi (n := 100) (by omega)
    have d3 := Dice.next_light d2 100
    generalize e2.next 100 = r3 at *
    obtain ⟨u, e3⟩ := r3
    simp only at no n0 n9 d3
    have so := some_ok e3 m.places.length (by omega) d3
    have sl := e3.someN_len m.places.length
    have d4 := Dice.someN_light d3 m.places.length
    generalize e3.someN m.places.length = r4 at *
    obtain ⟨area, e4⟩ := r4
    simp only at so sl d4
    have w1 := bg.w1
    have w2 := bg.w2
    have wo := next_ok e4 b.worlds.length (by omega) d4
    have k0 := e4.next_lo b.worlds.length
    have k9 := e4.next_hi (n := (b.worlds.length : Int)) (by omega)
    have d5 := Dice.next_light d4 b.worlds.length
    generalize e4.next b.worlds.length = r5 at *
    obtain ⟨k, e5⟩ := r5
    simp only at wo k0 k9 d5
    obtain ⟨k, rfl⟩ := Int.eq_ofNat_of_zero_le k0
    have hk : k < b.worlds.length := by omega
    have g1 : (b.worlds.map World.e)[k]? = some (nth b.worlds k).e := map_nth _ hk
    obtain ⟨q, q1, q2⟩ := tru_loop hm bg aw (tl + u) (nth b.worlds k) (nth_mem hk) area (by omega) e5 d5 (.t (tL li)) (B false) (.bp 1 0) .und .und .und
    rcases q2 with ⟨d', n', rfl, h1, h2⟩ | ⟨q2, q3⟩
    · have c1 := count_ok b bsz area (by omega) (tl + u)
      have k1 := (cntN_low b.worlds area (tl + u) _ w1).1 k hk
      have k2 := (cntN_high b.worlds area (tl + u) _ w1).1 k hk
      have e : cntN b.worlds area (tl + u) b.worlds.length = cntF b area (tl + u) := rfl
      rw [e] at k1 k2
      have i1 : (cntF b area (tl + u)).low ≤ n' := by omega
      have i2 : (n' : Int) ≤ (cntF b area (tl + u)).high := by omega
      clear h1 h2 k1 k2 e
      generalize cntF b area (tl + u) = o at *
      obtain ⟨lo', hi'⟩ := o
      generalize nth b.worlds k = x0 at *
      obtain ⟨tags, whr⟩ := x0
      obtain ⟨ws⟩ := b
      simp only [truH] at *
      simp (disch := omega) only [go_sem, K.law27_HeadsTrue, ↓reduceIte, lo, ro, mo, bo, la, no, so, wo, g1, q1, c1, aw, Nat.reduceAdd, Nat.reduceSub]
    · obtain ⟨e0, vs, H⟩ := q
      generalize nth b.worlds k = x0 at *
      obtain ⟨tags, whr⟩ := x0
      obtain ⟨ws⟩ := b
      simp only [truH] at *
      subst q2
      simp (disch := omega) only [go_sem, K.law27_HeadsTrue, ↓reduceIte, lo, ro, mo, bo, la, no, so, wo, g1, q1, q3, List.take_zero, Nat.reduceAdd, Nat.reduceSub]
  · simp only [c, decide_false] at lo
    simp (disch := omega) only [go_sem, K.law27_HeadsTrue, ↓reduceIte, lo, aw, Nat.reduceAdd, Nat.reduceSub]

end Go.Ev

/- Chapter 27 of the references. -/
namespace Go.Ev
open Go
variable [Lib] [Has1] [Has2] [Has3] [Has5]

theorem any_take {α : Type} [Dat α] {l : List α} {p : α → Bool} {j : Nat} (h : j < l.length) : (l.take (j + 1)).any p = ((l.take j).any p || p (nth l j)) := by
  rw [take_nth h, List.any_append]; simp
theorem any_full {α : Type} {l : List α} {p : α → Bool} : (l.take l.length).any p = l.any p := by rw [List.take_length]

def stF (w : Wh) (area : List Int) (t : Int) : Int := if isF w area t = true then 2 else if canF w area t = true then 1 else 0

theorem state_ok (w : Wh) (hw : w.frm.length ≤ 1000000) (area : List Int) (ha : area.length ≤ 4294967296) (t : Int) : CALL 0 N.ref27_state [.t w.e, .t (tL area), I t] [] = some (I (stF w area t), []) := by
  refine CALL_of K.t_ref27_state rfl ?_
  have ps := possible25_ok w t hw
  have pl := possF_len w t
  unfold stF isF canF
  generalize possF w t = l at *
  obtain ⟨time, frm⟩ := w
  simp only at hw ps pl
  have loop : ∀ a b c : D, exS CALL K.ref27_state_l1 ⟨[a, .t (tL area), b, .bp 0 0, c, .t (tL l), B false, B true, I 0], [.box [I time, .t (tL frm)]]⟩ =
      some (.exit 0, ⟨[.und, .t (tL area), .und, .und, .und, .t (tL l), B ((l.take l.length).any fun x => decide (x ∈ area)), B (!(l.take l.length).any fun x => !decide (x ∈ area)), I l.length], [.box [I time, .t (tL frm)]]⟩) := by
    intro a b c
    refine loop_up (fun j => ⟨[.und, .t (tL area), .und, .und, .und, .t (tL l), B ((l.take j).any fun x => decide (x ∈ area)), B (!(l.take j).any fun x => !decide (x ∈ area)), I j], [.box [I time, .t (tL frm)]]⟩) l.length rfl ?_ ?_ (by simp)
    · intro j hj
      have hs := has_ok area (nth l j) ha
      rw [any_take hj, any_take hj]
      generalize ((l.take j).any fun x => decide (x ∈ area)) = c1 at *
      generalize ((l.take j).any fun x => !decide (x ∈ area)) = c2 at *
      by_cases c : nth l j ∈ area
      · simp only [c, decide_true] at hs
        simp (disch := omega) only [go_sem, K.ref27_state_l1b, ↓reduceIte, hs, c, Nat.reduceAdd, Nat.reduceSub]
      · simp only [c, decide_false] at hs
        simp (disch := omega) only [go_sem, K.ref27_state_l1b, ↓reduceIte, hs, c, Nat.reduceAdd, Nat.reduceSub]
    · generalize ((l.take l.length).any fun x => decide (x ∈ area)) = c1 at *
      generalize ((l.take l.length).any fun x => !decide (x ∈ area)) = c2 at *
      simp (disch := omega) only [go_sem, K.ref27_state_l1b, ↓reduceIte, Nat.reduceAdd, Nat.reduceSub]
  simp only [any_full] at loop
  generalize (l.any fun x => decide (x ∈ area)) = c1 at *
  generalize (l.any fun x => !decide (x ∈ area)) = c2 at *
  cases c1 <;> cases c2 <;> simp (disch := omega) only [go_sem, K.ref27_state, ↓reduceIte, ps, loop, Nat.reduceAdd, Nat.reduceSub, Bool.false_eq_true]

theorem people_ok (b : Bel) : CALL 0 N.ref27_people [.t b.e] [] = some (I (persF b), []) := by
  refine CALL_of K.t_ref27_people rfl ?_
  unfold persF
  by_cases c : b.worlds.length = 0
  · obtain ⟨ws⟩ := b
    simp only at c
    simp (disch := omega) only [go_sem, K.ref27_people, ↓reduceIte, c, Nat.reduceAdd, Nat.reduceSub]
  · have g0 : (b.worlds.map World.e)[0]? = some (nth b.worlds 0).e := map_nth _ (by omega)
    rw [if_neg c]
    generalize nth b.worlds 0 = w at *
    obtain ⟨tags, whr⟩ := w
    obtain ⟨ws⟩ := b
    simp only at *
    simp (disch := omega) only [go_sem, K.ref27_people, ↓reduceIte, c, g0, Nat.reduceAdd, Nat.reduceSub]

theorem refCount_ok (b : Bel) (hb : b.sz) (area : List Int) (ha : area.length ≤ 4294967296) (t : Int) :
    CALL 0 N.ref27_Count [.t b.e, .t (tL area), I t] [] = some (.t (cntF b area t).e, []) := by
  refine CALL_of K.t_ref27_Count rfl ?_
  unfold cntF
  obtain ⟨ws⟩ := b
  obtain ⟨s1, s2⟩ := hb
  simp only at s1 s2
  have bd := cntN_bd ws area t s2
  have inner : ∀ i, i < ws.length → ∀ (o1 o2 : Int) (a b c : D), exS CALL K.ref27_Count_l2 ⟨[a, .t (tL area), I t, .bp 0 0, .bp 1 0, .bp 2 0, I i, I 0, I 0, I 0, b], [.box [.t (.sl (ws.map World.e))], .box [I 0, I 0], .box [I o1, I o2]]⟩ =
      some (.exit 2, ⟨[.und, .t (tL area), I t, .bp 0 0, .bp 1 0, .bp 2 0, I i, I (isN (nth ws i).whr area t (nth ws i).whr.length), I (canN (nth ws i).whr area t (nth ws i).whr.length), I (nth ws i).whr.length, .und], [.box [.t (.sl (ws.map World.e))], .box [I 0, I 0], .box [I o1, I o2]]⟩) := by
    intro i hi o1 o2 a b c
    have g1 : (ws.map World.e)[i]? = some (nth ws i).e := map_nth _ hi
    obtain ⟨q1, q2, q3⟩ := s2 _ (nth_mem hi)
    refine loop_up (fun j => ⟨[.und, .t (tL area), I t, .bp 0 0, .bp 1 0, .bp 2 0, I i, I (isN (nth ws i).whr area t j), I (canN (nth ws i).whr area t j), I j, .und], [.box [.t (.sl (ws.map World.e))], .box [I 0, I 0], .box [I o1, I o2]]⟩) (nth ws i).whr.length rfl ?_ ?_ (by simp)
    · intro j hj
      have g2 : ((nth ws i).whr.map Wh.e)[j]? = some (nth (nth ws i).whr j).e := map_nth _ hj
      have st := state_ok (nth (nth ws i).whr j) (q3 _ (nth_mem hj)) area ha t
      have i1 := isN_le (nth ws i).whr area t j
      have i2 := canN_le (nth ws i).whr area t j
      have ic := isF_can (w := nth (nth ws i).whr j) (area := area) (t := t)
      unfold stF at st
      simp only [isN, canN]
      generalize isN (nth ws i).whr area t j = p at *
      generalize canN (nth ws i).whr area t j = q at *
      generalize isF (nth (nth ws i).whr j) area t = c1 at *
      generalize canF (nth (nth ws i).whr j) area t = c2 at *
      generalize nth (nth ws i).whr j = w at *
      generalize nth ws i = x at *
      obtain ⟨tags, whr⟩ := x
      obtain ⟨time, frm⟩ := w
      simp only at *
      cases c1 with
      | true =>
        obtain rfl := ic rfl
        simp only [↓reduceIte] at st
        simp (disch := omega) only [go_sem, K.ref27_Count_l2b, ↓reduceIte, g1, g2, st, Nat.reduceAdd, Nat.reduceSub]
      | false =>
        cases c2 with
        | true =>
          simp only [↓reduceIte, Bool.false_eq_true] at st
          simp (disch := omega) only [go_sem, K.ref27_Count_l2b, ↓reduceIte, g1, g2, st, Nat.reduceAdd, Nat.reduceSub, Bool.false_eq_true]
        | false =>
          simp only [↓reduceIte, Bool.false_eq_true] at st
          simp (disch := omega) only [go_sem, K.ref27_Count_l2b, ↓reduceIte, g1, g2, st, Nat.reduceAdd, Nat.reduceSub, Bool.false_eq_true]
    · generalize nth ws i = x at *
      obtain ⟨tags, whr⟩ := x
      simp only at *
      simp (disch := omega) only [go_sem, K.ref27_Count_l2b, ↓reduceIte, g1, Nat.reduceAdd, Nat.reduceSub]
  have loop : ∀ a c e f g : D, exS CALL K.ref27_Count_l1 ⟨[a, .t (tL area), I t, .bp 0 0, .bp 1 0, .bp 2 0, I 0, c, e, f, g], [.box [.t (.sl (ws.map World.e))], .box [I 0, I 0], .box [I 0, I 0]]⟩ =
      some (.exit 0, ⟨[.und, .t (tL area), I t, .bp 0 0, .bp 1 0, .bp 2 0, I ws.length, .und, .und, .und, .und], [.box [.t (.sl (ws.map World.e))], .box [I 0, I 0], .box [I (cntN ws area t ws.length).low, I (cntN ws area t ws.length).high]]⟩) := by
    intro a c e f g
    refine loop_up (fun i => ⟨[.und, .t (tL area), I t, .bp 0 0, .bp 1 0, .bp 2 0, I i, .und, .und, .und, .und], [.box [.t (.sl (ws.map World.e))], .box [I 0, I 0], .box [I (cntN ws area t i).low, I (cntN ws area t i).high]]⟩) ws.length rfl ?_ ?_ (by simp)
    · intro i hi
      have inner := fun o1 o2 a b => inner i hi o1 o2 a b .und
      have bi := bd i (by omega)
      simp only [cntN]
      generalize isN (nth ws i).whr area t (nth ws i).whr.length = p at *
      generalize canN (nth ws i).whr area t (nth ws i).whr.length = q at *
      by_cases h0 : i = 0
      · subst h0
        have e0 : cntN ws area t 0 = ⟨0, 0⟩ := rfl
        rw [e0]
        have mx : max (0 : Int) q = q := by omega
        simp only [q_cast_zero] at inner
        simp (disch := omega) only [go_sem, K.ref27_Count_l1b, ↓reduceIte, inner, mx, Nat.reduceAdd, Nat.reduceSub]
      · generalize cntN ws area t i = o at *
        by_cases hlt : (p : Int) < o.low
        · have mn : min o.low p = p := by omega
          simp (disch := omega) only [go_sem, K.ref27_Count_l1b, ↓reduceIte, inner, h0, hlt, mn, Nat.reduceAdd, Nat.reduceSub]
        · have mn : min o.low p = o.low := by omega
          simp (disch := omega) only [go_sem, K.ref27_Count_l1b, ↓reduceIte, inner, h0, hlt, mn, Nat.reduceAdd, Nat.reduceSub]
    · simp (disch := omega) only [go_sem, K.ref27_Count_l1b, ↓reduceIte, Nat.reduceAdd, Nat.reduceSub]
  generalize cntN ws area t ws.length = o at *
  obtain ⟨lo, hi⟩ := o
  simp (disch := omega) only [go_sem, K.ref27_Count, ↓reduceIte, loop, Nat.reduceAdd, Nat.reduceSub]

section
variable {m : Mine} {n : Nat} {b : Bel} (hb : BOk m n b) (bsz : b.sz) (area : List Int) (ha : area.length ≤ 4294967296) (t : Int)
include hb bsz ha

omit bsz ha in
theorem pers_eq : persF b = n := by
  have := (hb.ws _ (nth_mem (l := b.worlds) (j := 0) (by have := hb.w1; omega))).wh
  unfold persF; rw [if_neg (by have := hb.w1; omega), this]

theorem refSure_ok : CALL 0 N.ref27_Sure [.t b.e, .t (tL area), I t] [] = some (.t (tL (sureF b area t)), []) := by
  refine CALL_of K.t_ref27_Sure rfl ?_
  have pp := people_ok b
  have pe := pers_eq hb
  have n2 := hb.n2
  unfold sureF
  have wlen := whereF_len
  rw [pe] at pp ⊢
  have inner : ∀ k, k < n → ∀ (L : List Int) (a c : D), exS CALL K.ref27_Sure_l2 ⟨[a, .t (tL area), I t, .bp 0 0, c, .ref 1 0 L.length, I k, B true, I 0], [.box [.t (.sl (b.worlds.map World.e))], .arr 1 false 0 (ints L)]⟩ =
      some (.exit 2, ⟨[.und, .t (tL area), I t, .bp 0 0, .und, .ref 1 0 L.length, I k, B (!(b.worlds.take b.worlds.length).any fun w => !(lookF w k area t).1), I b.worlds.length], [.box [.t (.sl (b.worlds.map World.e))], .arr 1 false 0 (ints L)]⟩) := by
    intro k hk L a c
    have w2 := hb.w2
    refine loop_up (fun i => ⟨[.und, .t (tL area), I t, .bp 0 0, .und, .ref 1 0 L.length, I k, B (!(b.worlds.take i).any fun w => !(lookF w k area t).1), I i], [.box [.t (.sl (b.worlds.map World.e))], .arr 1 false 0 (ints L)]⟩) b.worlds.length rfl ?_ ?_ (by simp)
    · intro i hi
      rw [any_take hi]
      have g1 : (b.worlds.map World.e)[i]? = some (nth b.worlds i).e := map_nth _ hi
      have ww := (hb.ws _ (nth_mem hi)).wh
      have g2 : ((nth b.worlds i).whr.map Wh.e)[k]? = some (nth (nth b.worlds i).whr k).e := map_nth _ (by omega)
      have st := state_ok (nth (nth b.worlds i).whr k) ((bsz.2 _ (nth_mem hi)).2.2 _ (nth_mem (by omega))) area ha t
      have lk : (lookF (nth b.worlds i) k area t).1 = isF (nth (nth b.worlds i).whr k) area t := by unfold lookF; rw [if_neg (by omega)]
      rw [lk]
      unfold stF at st
      generalize ((b.worlds.take i).any fun w => !(lookF w k area t).1) = c0 at *
      generalize isF (nth (nth b.worlds i).whr k) area t = c1 at *
      generalize canF (nth (nth b.worlds i).whr k) area t = c2 at *
      generalize nth (nth b.worlds i).whr k = w at *
      generalize nth b.worlds i = x at *
      obtain ⟨tags, whr⟩ := x
      obtain ⟨time, frm⟩ := w
      simp only [ints] at *
      cases c0 <;> cases c1 <;> cases c2 <;> simp only [↓reduceIte, Bool.false_eq_true] at st <;>
        simp (disch := omega) only [go_sem, K.ref27_Sure_l2b, ↓reduceIte, g1, g2, st, Nat.reduceAdd, Nat.reduceSub]
    · generalize ((b.worlds.take b.worlds.length).any fun w => !(lookF w k area t).1) = c0 at *
      simp (disch := omega) only [go_sem, K.ref27_Sure_l2b, ↓reduceIte, ints, Nat.reduceAdd, Nat.reduceSub]
  simp only [any_full] at inner
  have loop : ∀ a c e f : D, exS CALL K.ref27_Sure_l1 ⟨[a, .t (tL area), I t, .bp 0 0, c, .ref 1 0 0, I 0, e, f], [.box [.t (.sl (b.worlds.map World.e))], .arr 1 false 0 []]⟩ =
      some (.exit 0, ⟨[.und, .t (tL area), I t, .bp 0 0, .und, .ref 1 0 (whereF n fun i => !b.worlds.any fun w => !(lookF w i area t).1).length, I n, .und, .und], [.box [.t (.sl (b.worlds.map World.e))], .arr 1 false 0 (ints (whereF n fun i => !b.worlds.any fun w => !(lookF w i area t).1))]⟩) := by
    intro a c e f
    refine loop_up (fun k => ⟨[.und, .t (tL area), I t, .bp 0 0, .und, .ref 1 0 (whereF k fun i => !b.worlds.any fun w => !(lookF w i area t).1).length, I k, .und, .und], [.box [.t (.sl (b.worlds.map World.e))], .arr 1 false 0 (ints (whereF k fun i => !b.worlds.any fun w => !(lookF w i area t).1))]⟩) n rfl ?_ ?_ (by simp)
    · intro k hk
      have wl := wlen k (fun i => !b.worlds.any fun w => !(lookF w i area t).1)
      rw [whereF_succ]
      have inner := fun a c => inner k hk (whereF k fun i => !b.worlds.any fun w => !(lookF w i area t).1) a c
      generalize (whereF k fun i => !b.worlds.any fun w => !(lookF w i area t).1) = L at *
      generalize (b.worlds.any fun w => !(lookF w k area t).1) = c0 at *
      obtain ⟨ws⟩ := b
      simp only [ints] at *
      cases c0 <;> simp (disch := omega) only [go_sem, K.ref27_Sure_l1b, ↓reduceIte, pp, inner, Nat.reduceAdd, Nat.reduceSub, Bool.false_eq_true]
    · have wl := wlen n (fun i => !b.worlds.any fun w => !(lookF w i area t).1)
      generalize (whereF n fun i => !b.worlds.any fun w => !(lookF w i area t).1) = L at *
      obtain ⟨ws⟩ := b
      simp only [ints] at *
      simp (disch := omega) only [go_sem, K.ref27_Sure_l1b, ↓reduceIte, pp, Nat.reduceAdd, Nat.reduceSub]
  have wl := wlen n (fun i => !b.worlds.any fun w => !(lookF w i area t).1)
  generalize (whereF n fun i => !b.worlds.any fun w => !(lookF w i area t).1) = L at *
  obtain ⟨ws⟩ := b
  simp only [ints] at *
  simp (disch := omega) only [go_sem, K.ref27_Sure, ↓reduceIte, loop, Nat.reduceAdd, Nat.reduceSub]

theorem refMaybe_ok : CALL 0 N.ref27_Maybe [.t b.e, .t (tL area), I t] [] = some (.t (tL (maybeF b area t)), []) := by
  refine CALL_of K.t_ref27_Maybe rfl ?_
  have pp := people_ok b
  have pe := pers_eq hb
  have n2 := hb.n2
  unfold maybeF
  have wlen := whereF_len
  rw [pe] at pp ⊢
  have inner : ∀ k, k < n → ∀ (L : List Int) (a c : D), exS CALL K.ref27_Maybe_l2 ⟨[a, .t (tL area), I t, .bp 0 0, c, .ref 1 0 L.length, I k, B false, I 0], [.box [.t (.sl (b.worlds.map World.e))], .arr 1 false 0 (ints L)]⟩ =
      some (.exit 2, ⟨[.und, .t (tL area), I t, .bp 0 0, .und, .ref 1 0 L.length, I k, B ((b.worlds.take b.worlds.length).any fun w => (lookF w k area t).2), I b.worlds.length], [.box [.t (.sl (b.worlds.map World.e))], .arr 1 false 0 (ints L)]⟩) := by
    intro k hk L a c
    have w2 := hb.w2
    refine loop_up (fun i => ⟨[.und, .t (tL area), I t, .bp 0 0, .und, .ref 1 0 L.length, I k, B ((b.worlds.take i).any fun w => (lookF w k area t).2), I i], [.box [.t (.sl (b.worlds.map World.e))], .arr 1 false 0 (ints L)]⟩) b.worlds.length rfl ?_ ?_ (by simp)
    · intro i hi
      rw [any_take hi]
      have g1 : (b.worlds.map World.e)[i]? = some (nth b.worlds i).e := map_nth _ hi
      have ww := (hb.ws _ (nth_mem hi)).wh
      have g2 : ((nth b.worlds i).whr.map Wh.e)[k]? = some (nth (nth b.worlds i).whr k).e := map_nth _ (by omega)
      have st := state_ok (nth (nth b.worlds i).whr k) ((bsz.2 _ (nth_mem hi)).2.2 _ (nth_mem (by omega))) area ha t
      have ic := isF_can (w := nth (nth b.worlds i).whr k) (area := area) (t := t)
      have lk : (lookF (nth b.worlds i) k area t).2 = canF (nth (nth b.worlds i).whr k) area t := by unfold lookF; rw [if_neg (by omega)]
      rw [lk]
      unfold stF at st
      generalize ((b.worlds.take i).any fun w => (lookF w k area t).2) = c0 at *
      generalize isF (nth (nth b.worlds i).whr k) area t = c1 at *
      generalize canF (nth (nth b.worlds i).whr k) area t = c2 at *
      generalize nth (nth b.worlds i).whr k = w at *
      generalize nth b.worlds i = x at *
      obtain ⟨tags, whr⟩ := x
      obtain ⟨time, frm⟩ := w
      simp only [ints] at *
      cases c0 <;> cases c1 <;> cases c2 <;> simp only [↓reduceIte, Bool.false_eq_true] at st <;>
        first
        | exact absurd (ic rfl) Bool.false_ne_true
        | simp (disch := omega) only [go_sem, K.ref27_Maybe_l2b, ↓reduceIte, g1, g2, st, Nat.reduceAdd, Nat.reduceSub]
    · generalize ((b.worlds.take b.worlds.length).any fun w => (lookF w k area t).2) = c0 at *
      simp (disch := omega) only [go_sem, K.ref27_Maybe_l2b, ↓reduceIte, ints, Nat.reduceAdd, Nat.reduceSub]
  simp only [any_full] at inner
  have loop : ∀ a c e f : D, exS CALL K.ref27_Maybe_l1 ⟨[a, .t (tL area), I t, .bp 0 0, c, .ref 1 0 0, I 0, e, f], [.box [.t (.sl (b.worlds.map World.e))], .arr 1 false 0 []]⟩ =
      some (.exit 0, ⟨[.und, .t (tL area), I t, .bp 0 0, .und, .ref 1 0 (whereF n fun i => b.worlds.any fun w => (lookF w i area t).2).length, I n, .und, .und], [.box [.t (.sl (b.worlds.map World.e))], .arr 1 false 0 (ints (whereF n fun i => b.worlds.any fun w => (lookF w i area t).2))]⟩) := by
    intro a c e f
    refine loop_up (fun k => ⟨[.und, .t (tL area), I t, .bp 0 0, .und, .ref 1 0 (whereF k fun i => b.worlds.any fun w => (lookF w i area t).2).length, I k, .und, .und], [.box [.t (.sl (b.worlds.map World.e))], .arr 1 false 0 (ints (whereF k fun i => b.worlds.any fun w => (lookF w i area t).2))]⟩) n rfl ?_ ?_ (by simp)
    · intro k hk
      have wl := wlen k (fun i => b.worlds.any fun w => (lookF w i area t).2)
      rw [whereF_succ]
      have inner := fun a c => inner k hk (whereF k fun i => b.worlds.any fun w => (lookF w i area t).2) a c
      generalize (whereF k fun i => b.worlds.any fun w => (lookF w i area t).2) = L at *
      generalize (b.worlds.any fun w => (lookF w k area t).2) = c0 at *
      obtain ⟨ws⟩ := b
      simp only [ints] at *
      cases c0 <;> simp (disch := omega) only [go_sem, K.ref27_Maybe_l1b, ↓reduceIte, pp, inner, Nat.reduceAdd, Nat.reduceSub, Bool.false_eq_true]
    · have wl := wlen n (fun i => b.worlds.any fun w => (lookF w i area t).2)
      generalize (whereF n fun i => b.worlds.any fun w => (lookF w i area t).2) = L at *
      obtain ⟨ws⟩ := b
      simp only [ints] at *
      simp (disch := omega) only [go_sem, K.ref27_Maybe_l1b, ↓reduceIte, pp, Nat.reduceAdd, Nat.reduceSub]
  have wl := wlen n (fun i => b.worlds.any fun w => (lookF w i area t).2)
  generalize (whereF n fun i => b.worlds.any fun w => (lookF w i area t).2) = L at *
  obtain ⟨ws⟩ := b
  simp only [ints] at *
  simp (disch := omega) only [go_sem, K.ref27_Maybe, ↓reduceIte, loop, Nat.reduceAdd, Nat.reduceSub]

omit ha in
theorem refMiss_ok (most : Int) : CALL 0 N.ref27_Missing [.t b.e, I t, I most] [] = some (.t (tL (missF b t most)), []) := by
  refine CALL_of K.t_ref27_Missing rfl ?_
  have pp := people_ok b
  have pe := pers_eq hb
  have n2 := hb.n2
  unfold missF
  have wlen := whereF_len
  rw [pe] at pp ⊢
  have loop : ∀ a c : D, exS CALL K.ref27_Missing_l1 ⟨[a, I t, I most, .bp 0 0, c, .ref 1 0 0, I 0], [.box [.t (.sl (b.worlds.map World.e))], .arr 1 false 0 []]⟩ =
      some (.exit 0, ⟨[.und, I t, I most, .bp 0 0, .und, .ref 1 0 (whereF n fun i => decide (most < (possB b i t).length)).length, I n], [.box [.t (.sl (b.worlds.map World.e))], .arr 1 false 0 (ints (whereF n fun i => decide (most < (possB b i t).length)))]⟩) := by
    intro a c
    refine loop_up (fun k => ⟨[.und, I t, I most, .bp 0 0, .und, .ref 1 0 (whereF k fun i => decide (most < (possB b i t).length)).length, I k], [.box [.t (.sl (b.worlds.map World.e))], .arr 1 false 0 (ints (whereF k fun i => decide (most < (possB b i t).length)))]⟩) n rfl ?_ ?_ (by simp)
    · intro k hk
      have wl := wlen k (fun i => decide (most < (possB b i t).length))
      rw [whereF_succ]
      have ps := possible26_ok b bsz k t
      have pl := possB_len b k t
      generalize (whereF k fun i => decide (most < (possB b i t).length)) = L at *
      generalize possB b k t = r at *
      obtain ⟨ws⟩ := b
      simp only [ints] at *
      by_cases c : most < (r.length : Int)
      · simp (disch := omega) only [go_sem, K.ref27_Missing_l1b, ↓reduceIte, pp, ps, c, Nat.reduceAdd, Nat.reduceSub]
      · simp (disch := omega) only [go_sem, K.ref27_Missing_l1b, ↓reduceIte, pp, ps, c, Nat.reduceAdd, Nat.reduceSub]
    · have wl := wlen n (fun i => decide (most < (possB b i t).length))
      generalize (whereF n fun i => decide (most < (possB b i t).length)) = L at *
      obtain ⟨ws⟩ := b
      simp only [ints] at *
      simp (disch := omega) only [go_sem, K.ref27_Missing_l1b, ↓reduceIte, pp, Nat.reduceAdd, Nat.reduceSub]
  have wl := wlen n (fun i => decide (most < (possB b i t).length))
  generalize (whereF n fun i => decide (most < (possB b i t).length)) = L at *
  obtain ⟨ws⟩ := b
  simp only [ints] at *
  simp (disch := omega) only [go_sem, K.ref27_Missing, ↓reduceIte, loop, Nat.reduceAdd, Nat.reduceSub]
end

end Go.Ev

/- More about operations, and searches. -/
namespace Go.Ev
open Go
variable [Lib] [Has1] [Has2]

@[go_sem] theorem opBs_3n (H : Heap) (a b : List T) : opBs H 1 [.t (.sl a), .t (.sl b), .nil] = some (.t (.sl [.sl a, .sl b, .sl []]), H) := by
  simp only [opBs, List.all_cons, List.all_nil, D.cells, T.cells, List.map_cons, List.map_nil, List.length_cons, List.length_nil, mapO, frz, depth, arrs, List.flatMap_cons, List.flatMap_nil, pins]
  rfl
/- equality of numbers side by side -/
def eqAnd (c : Bool) : Option Bool → Option Bool
  | some d => some (c && d)
  | none => none
@[go_sem] theorem eqAnd_some (c d : Bool) : eqAnd c (some d) = some (c && d) := (rfl)
@[go_sem] theorem eqInts_nil : eqInts [] [] = some true := (rfl)
@[go_sem] theorem eqInts_cons (k : IntKind) (a b : Int) (xs ys : List T) : eqInts (.int k a :: xs) (.int k b :: ys) = eqAnd (decide (a = b)) (eqInts xs ys) := by
  simp only [eqInts, if_true, beqI]
  cases eqInts xs ys <;> rfl
def eqOut (H : Heap) (neg : Bool) : Option Bool → Option (D × Heap)
  | some r => some (.t (.bool (bif neg then !r else r)), H)
  | none => none
@[go_sem] theorem eqOut_true (H : Heap) (r : Bool) : eqOut H true (some r) = some (.t (.bool (!r)), H) := (rfl)
@[go_sem] theorem eqOut_false (H : Heap) (r : Bool) : eqOut H false (some r) = some (.t (.bool r), H) := (rfl)
@[go_sem] theorem opEqk_intsG (H : Heap) (n : Nat) (neg : Bool) (xs ys : List T) : opEqk H (.ints n) neg (some (.t (.agg xs))) (some (.t (.agg ys))) = if xs.length = n then eqOut H neg (eqInts xs ys) else none := by
  simp only [opEqk, Option.bind_some, eqD]
  by_cases h : xs.length = n
  · rw [if_pos h, if_pos h]
    cases eqInts xs ys with
    | none => rfl
    | some r => cases neg <;> rfl
  · rw [if_neg h, if_neg h]; rfl

@[go_sem] theorem q_cast_two : ((2 : Nat) : Int) = 2 := (rfl)
@[go_sem] theorem q_cast_three : ((3 : Nat) : Int) = 3 := (rfl)

/- A search: the first round that leaves, or the end. -/
def firstN (n : Nat) (p : Nat → Bool) : Nat := ((List.range n).find? p).getD 0
theorem loop_srch {gc : Bool} {dead : List Nat} {c : C} {vs : List D} {H : Heap} (s : Nat → St) (n : Nat) (p : Nat → Bool) (e : Nat → Ex × St) (eN : Ex × St)
    (h0 : (⟨dropV dead vs, H⟩ : St) = s 0)
    (hs : ∀ j, j < n → p j = false → roundC gc dead (s j).H.length (exS CALL c (s j)) = some (s (j + 1)))
    (he : ∀ j, j < n → p j = true → exS CALL c (s j) = some (e j) ∧ (e j).1 ≠ .normal)
    (hN : exS CALL c (s n) = some eN) (hn : eN.1 ≠ .normal) :
    exS CALL (.loop gc dead c) ⟨vs, H⟩ = some (if (List.range n).any p = true then e (firstN n p) else eN) := by
  rw [loop_first s n p e eN h0 hs he hN hn, ← find_any]
  unfold firstN
  cases hf : (List.range n).find? p with
  | none => simp
  | some k => simp
theorem any_rng {α : Type} [Dat α] (l : List α) (p : α → Bool) : ((List.range l.length).any fun j => p (nth l j)) = l.any p := by
  rw [Bool.eq_iff_iff, List.any_eq_true, List.any_eq_true]
  constructor
  · rintro ⟨j, hj, hp⟩
    exact ⟨_, nth_mem (List.mem_range.1 hj), hp⟩
  · rintro ⟨x, hx, hp⟩
    obtain ⟨j, hj, rfl⟩ := List.getElem_of_mem hx
    exact ⟨j, List.mem_range.2 hj, by rw [nth_eq (List.getElem?_eq_getElem hj)]; exact hp⟩
theorem all_rng (n : Nat) (p : Nat → Bool) : (List.range n).all p = !((List.range n).any fun j => !p j) := by
  rw [List.all_eq_not_any_not]
end Go.Ev

/- HeadsAll. -/
namespace Go.Ev
open Go
variable [Lib] [Has1] [Has2] [Has3] [Has5]

abbrev tLL (l : List (List Int)) : T := .sl (l.map tL)

abbrev hallH (n0 n1 : Int) (d : Dice) (m : Mine) (b : Bel) : Heap := [.box [I n0, I n1], d.obj, .box (mineCells m), .box [.t (.sl (b.worlds.map World.e))]]

section
variable {m : Mine} (hm : m.ok) {n : Nat} {b : Bel} (hb : BOk m n b)
include hm hb

theorem hall_l2 (n0 n1 at_ : Int) (d : Dice) (l : List Int) (hl : l.length ≤ 1000) (ls : List (List Int)) (j : Nat) (x y z u v w p : D) :
    exS CALL K.law27_HeadsAll_l2 ⟨[x, y, z, .bp 0 0, u, v, w, .bp 3 0, I at_, .t (tL l), p, .t (tLL ls), I ls.length, I j, .t (tL [at_, n0]), I 2, I 0], hallH n0 n1 d m b⟩ =
    some (.exit 2, ⟨[.und, .und, .und, .bp 0 0, .und, .und, .und, .bp 3 0, I at_, .t (tL l), .und, .t (tLL ls), I ls.length, I j, .t (tL [at_, n0]), I 2, I 2], hallH n0 n1 d m b⟩) := by
  have bsz := hb.sz hm
  have pe := pers_eq hb
  have n2 := hb.n2
  refine loop_up (fun i => ⟨[.und, .und, .und, .bp 0 0, .und, .und, .und, .bp 3 0, I at_, .t (tL l), .und, .t (tLL ls), I ls.length, I j, .t (tL [at_, n0]), I 2, I i], hallH n0 n1 d m b⟩) 2 rfl ?_ ?_ (by simp)
  · intro i hi
    have key : ∀ s : Int, CALL 0 N.heads_Count [.t b.e, .t (tL l), I s] [] = some (.t (cntF b l s).e, []) ∧ CALL 0 N.ref27_Count [.t b.e, .t (tL l), I s] [] = some (.t (cntF b l s).e, []) ∧
        CALL 0 N.heads_Sure [.t b.e, .t (tL l), I s] [] = some (.t (tL (sureF b l s)), []) ∧ CALL 0 N.ref27_Sure [.t b.e, .t (tL l), I s] [] = some (.t (tL (sureF b l s)), []) ∧
        CALL 0 N.heads_Maybe [.t b.e, .t (tL l), I s] [] = some (.t (tL (maybeF b l s)), []) ∧ CALL 0 N.ref27_Maybe [.t b.e, .t (tL l), I s] [] = some (.t (tL (maybeF b l s)), []) ∧
        CALL 0 N.ref23_SameInts [.t (tL (sureF b l s)), .t (tL (sureF b l s))] [] = some (B true, []) ∧ CALL 0 N.ref23_SameInts [.t (tL (maybeF b l s)), .t (tL (maybeF b l s))] [] = some (B true, []) := fun s => by
      have sl := sureF_len b l s
      have ml := maybeF_len b l s
      have s1 := same_ok (sureF b l s) (sureF b l s) (by omega)
      have s2 := same_ok (maybeF b l s) (maybeF b l s) (by omega)
      simp only [decide_true] at s1 s2
      exact ⟨count_ok b bsz l (by omega) s, refCount_ok b bsz l (by omega) s, sure_ok b bsz l (by omega) s, refSure_ok hb bsz l (by omega) s, maybe_ok b bsz l (by omega) s, refMaybe_ok hb bsz l (by omega) s, s1, s2⟩
    obtain rfl | rfl : i = 0 ∨ i = 1 := by omega
    · obtain ⟨k1, k2, k3, k4, k5, k6, k7, k8⟩ := key at_
      clear key
      generalize cntF b l at_ = c at *
      generalize sureF b l at_ = s at *
      generalize maybeF b l at_ = ma at *
      obtain ⟨c1, c2⟩ := c
      obtain ⟨ws⟩ := b
      simp only [hallH, tL, Spn.e, List.map_cons, List.map_nil] at *
      simp (disch := omega) only [go_sem, K.law27_HeadsAll_l2b, ↓reduceIte, Spn.e, k1, k2, k3, k4, k5, k6, k7, k8, Nat.reduceAdd, Nat.reduceSub, Nat.reduceMul]
    · obtain ⟨k1, k2, k3, k4, k5, k6, k7, k8⟩ := key n0
      clear key
      generalize cntF b l n0 = c at *
      generalize sureF b l n0 = s at *
      generalize maybeF b l n0 = ma at *
      obtain ⟨c1, c2⟩ := c
      obtain ⟨ws⟩ := b
      simp only [hallH, tL, Spn.e, List.map_cons, List.map_nil] at *
      simp (disch := omega) only [go_sem, K.law27_HeadsAll_l2b, ↓reduceIte, Spn.e, k1, k2, k3, k4, k5, k6, k7, k8, Nat.reduceAdd, Nat.reduceSub, Nat.reduceMul]
      rfl
  · simp (disch := omega) only [go_sem, K.law27_HeadsAll_l2b, ↓reduceIte, hallH, Nat.reduceAdd, Nat.reduceSub, Nat.reduceMul]

theorem hall_l1 (n0 n1 at_ : Int) (d : Dice) (ls : List (List Int)) (h3 : ls.length ≤ 100) (hls : ∀ l ∈ ls, l.length ≤ 1000) (x y z u v w p q r s o : D) :
    exS CALL K.law27_HeadsAll_l1 ⟨[x, y, z, .bp 0 0, u, v, w, .bp 3 0, I at_, p, q, .t (tLL ls), I ls.length, I 0, r, s, o], hallH n0 n1 d m b⟩ =
    some (.exit 0, ⟨[.und, .und, .und, .bp 0 0, .und, .und, .und, .bp 3 0, I at_, .und, .und, .t (tLL ls), I ls.length, I ls.length, .und, .und, .und], hallH n0 n1 d m b⟩) := by
  refine loop_up (fun i => ⟨[.und, .und, .und, .bp 0 0, .und, .und, .und, .bp 3 0, I at_, .und, .und, .t (tLL ls), I ls.length, I i, .und, .und, .und], hallH n0 n1 d m b⟩) ls.length rfl ?_ ?_ (by simp)
  · intro i hi
    have l2 := fun x y z u v w p => hall_l2 hm hb n0 n1 at_ d (nth ls i) (hls _ (nth_mem hi)) ls i x y z u v w p
    have g1 : (ls.map tL)[i]? = some (tL (nth ls i)) := map_nth _ hi
    generalize nth ls i = l at *
    simp only [hallH, tL, List.map_cons, List.map_nil] at *
    simp (disch := omega) only [go_sem, K.law27_HeadsAll_l1b, ↓reduceIte, g1, l2, Nat.reduceAdd, Nat.reduceSub, Nat.reduceMul]
  · simp (disch := omega) only [go_sem, K.law27_HeadsAll_l1b, ↓reduceIte, hallH, Nat.reduceAdd, Nat.reduceSub, Nat.reduceMul]
end

theorem HeadsAll_law (aw : CALL 0 N.law27_awake [] [] = some (B true, [])) (li raw : List Int) (n0 n1 : Int) : CALL 0 N.law27_HeadsAll [.t (tL li), .t (tL raw), .t (.agg [tI n0, tI n1])] [] = some (B true, []) := by
  refine CALL_of K.t_law27_HeadsAll rfl ?_
  have lo := light_ok li
  by_cases c : li.length ≤ 400
  · simp only [c, decide_true] at lo
    by_cases cr : raw.length ≤ 100
    · have ro := roll_ok li
      have d0 : (Dice.mk li 0).light := c
      generalize (Dice.mk li 0) = d at *
      have mo := mine_ok d d0
      have hm := d.mine_good
      have mp := d.mine_places
      have mb := d.mineN_bd
      have d1 := Dice.mine_light d0
      generalize d.mineN = n at *
      generalize d.mine = r1 at *
      obtain ⟨m, e1⟩ := r1
      simp only at mo hm mp d1
      have np := hm.np
      have bo := belief_ok hm (by omega) e1 d1
      obtain ⟨bg, d2⟩ := belF_good hm (by omega) d1
      generalize e1.belP = NN at *
      generalize e1.belief m = r2 at *
      obtain ⟨b, e2⟩ := r2
      simp only at bo bg d2
      have bsz := bg.sz hm
      have la := last_ok b bsz
      have li2 := lastN_in bg.ws b.worlds.length (Nat.le_refl _)
      have le : lastN b.worlds b.worlds.length = lastF b := rfl
      rw [le] at li2
      unfold inT at li2
      generalize lastF b = tl at *
      have m0 := mod_ok n0 200 (by omega)
      have m1 := mod_ok n1 5 (by omega)
      have b1 := Mod_lo n0 200
      have b2 := Mod_hi n0 200 (by omega)
      generalize Mod n0 200 = q0 at *
      generalize Mod n1 5 = q1 at *
      have so := some_ok e2 m.places.length (by omega) d2
      have sl := e2.someN_len m.places.length
      generalize e2.someN m.places.length = r4 at *
      obtain ⟨area, e3⟩ := r4
      simp only at so sl
      have loop := fun x y z u v w p q r s o => hall_l1 hm bg n0 n1 (tl + q0 - 20) e3 [raw, area, []] (by simp) (by
        intro l hl
        simp only [List.mem_cons, List.not_mem_nil, or_false] at hl
        rcases hl with rfl | rfl | rfl
        · omega
        · omega
        · simp) x y z u v w p q r s o
      have pe := pers_eq bg
      have n2 := bg.n2
      have mm : ∀ s k : Int, CALL 0 N.heads_Missing [.t b.e, I s, I k] [] = some (.t (tL (missF b s k)), []) ∧ CALL 0 N.ref27_Missing [.t b.e, I s, I k] [] = some (.t (tL (missF b s k)), []) ∧ CALL 0 N.ref23_SameInts [.t (tL (missF b s k)), .t (tL (missF b s k))] [] = some (B true, []) := fun s k => by
        have wl : (missF b s k).length ≤ persF b := whereF_len _ _
        have sm := same_ok (missF b s k) (missF b s k) (by omega)
        simp only [decide_true] at sm
        exact ⟨miss_ok b bsz s k, refMiss_ok bg bsz s k, sm⟩
      obtain ⟨u1, u2, u3⟩ := mm (tl + q0 - 20) q1
      obtain ⟨v1, v2, v3⟩ := mm n0 n1
      clear mm
      generalize missF b (tl + q0 - 20) q1 = f1 at *
      generalize missF b n0 n1 = f2 at *
      obtain ⟨ws⟩ := b
      simp only [hallH, tLL, tL, List.map_cons, List.map_nil, List.length_cons, List.length_nil, Nat.reduceAdd, Nat.zero_add, q_cast_three] at *
      simp (disch := omega) only [go_sem, K.law27_HeadsAll, ↓reduceIte, lo, cr, ro, mo, bo, la, m0, m1, so, loop, u1, u2, u3, v1, v2, v3, aw, Nat.reduceAdd, Nat.reduceSub, Nat.reduceMul]
    · simp (disch := omega) only [go_sem, K.law27_HeadsAll, ↓reduceIte, lo, cr, aw, Nat.reduceAdd, Nat.reduceSub, Nat.reduceMul]
  · simp only [c, decide_false] at lo
    simp (disch := omega) only [go_sem, K.law27_HeadsAll, ↓reduceIte, lo, aw, Nat.reduceAdd, Nat.reduceSub, Nat.reduceMul]

end Go.Ev

