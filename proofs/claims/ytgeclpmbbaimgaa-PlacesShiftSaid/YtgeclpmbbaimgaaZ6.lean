/- Parts of the proof: see the text that holds the theorem. -/
import Derived.Test.YtgeclpmbbaimgaaZ5
set_option linter.all false
set_option maxRecDepth 100000
/- MADE BY PROGRAM (lib.py): the compact code of functions. -/
namespace Go.Ev.K
open Go.Ev
/-- /ref34.Valid -/
def ref34_Valid : Fn := { nargs := 2, vars := [0, 1, 2, 3, 4], body := (.seq (.reg [{ o := .bx (.v 0) 3, d := some 2 }, { o := .bx (.v 1) 4, d := some 3 }, { o := .mv (.b false), d := some 4 }] []) (.seq (.ite [{ o := .ld (.v 2) 3 true }, { o := .ca N.ref34_blast 0 [] [.l 0] }, { o := .un .not (.l 0) }, { o := .mv (.l 0) }, { o := .fa (.v 3) 0, g := some (0, false) }, { o := .ld (.l 0) 1 false, g := some (1, false) }, { o := .bin .lss (.l 0) (.i 0), g := some (2, false) }, { o := .pk (.l 3) (.b true) (.l 0) }, { o := .mv (.l 0) }, { o := .fa (.v 3) 0, g := some (0, false) }, { o := .ld (.l 0) 1 false, g := some (1, false) }, { o := .bin .gtr (.l 0) (.i 4), g := some (2, false) }, { o := .pk (.l 3) (.b true) (.l 0) }, { o := .mv (.l 0) }, { o := .fa (.v 3) 3, g := some (0, false) }, { o := .ld (.l 0) 1 false, g := some (1, false) }, { o := .bin .lss (.l 0) (.i 0), g := some (2, false) }, { o := .pk (.l 3) (.b true) (.l 0) }, { o := .mv (.l 0) }, { o := .fa (.v 3) 3, g := some (0, false) }, { o := .ld (.l 0) 1 false, g := some (1, false) }, { o := .bin .gtr (.l 0) (.i 2147483648), g := some (2, false) }, { o := .pk (.l 3) (.b true) (.l 0) }] [] 0 (.seq (.reg [{ o := .mv (.b false), d := some 4 }] []) .ret) .skip) (.seq (.ite [{ o := .fa (.v 3) 0 }, { o := .ld (.l 0) 1 false }, { o := .bin .eql (.l 0) (.i 0) }] [] 0 (.seq (.reg [{ o := .ld (.v 3) 4 true }, { o := .bd [.t (.int .i64 (0)), .t (.int .i64 (0)), .t (.int .i64 (0)), .t (.int .i64 (0))] [] }, { o := .eqk (.ints 4) false (.l 1) (.l 0) }, { o := .mv (.l 0), d := some 4 }] []) .ret) .skip) (.seq (.ite [{ o := .fa (.v 3) 0 }, { o := .ld (.l 0) 1 false }, { o := .bin .eql (.l 0) (.i 1) }] [] 0 (.seq (.reg [{ o := .fa (.v 3) 1 }, { o := .ld (.l 0) 1 false }, { o := .bin .gtr (.l 0) (.i 0) }, { o := .mv (.l 0) }, { o := .fa (.v 3) 2, g := some (0, true) }, { o := .ld (.l 0) 1 false, g := some (1, true) }, { o := .bin .eql (.l 0) (.i 0), g := some (2, true) }, { o := .pk (.l 3) (.l 0) (.b false) }, { o := .mv (.l 0), d := some 4 }] []) .ret) .skip) (.seq (.reg [{ o := .fa (.v 3) 1 }, { o := .ld (.l 0) 1 false }, { o := .bin .gtr (.l 0) (.i 0) }, { o := .mv (.l 0) }, { o := .fa (.v 3) 2, g := some (0, true) }, { o := .ld (.l 0) 1 false, g := some (1, true) }, { o := .bin .gtr (.l 0) (.i 0), g := some (2, true) }, { o := .pk (.l 3) (.l 0) (.b false) }, { o := .mv (.l 0) }, { o := .fa (.v 3) 1, g := some (0, true) }, { o := .ld (.l 0) 1 false, g := some (1, true) }, { o := .fa (.v 3) 2, g := some (2, true) }, { o := .ld (.l 0) 1 false, g := some (3, true) }, { o := .bin .neq (.l 2) (.l 0), g := some (4, true) }, { o := .pk (.l 5) (.l 0) (.b false) }, { o := .mv (.l 0), d := some 4 }] []) .ret))))), res := [(4, none)] }
/-- /firing.Safe -/
def firing_Safe : Fn := { nargs := 3, vars := [0, 1, 2, 3, 4, 5, 6], body := (.seq (.reg [{ o := .bx (.v 0) 3, d := some 3 }, { o := .bx (.v 1) 3, d := some 4 }, { o := .bx (.v 2) 1, d := some 5 }, { o := .mv (.b false), d := some 6 }] []) (.seq (.reg [{ o := .ld (.v 3) 3 true }, { o := .bd [.t (.int .i64 (0)), .t (.int .i64 (0)), .t (.int .i64 (0)), .t (.int .i64 (0))] [] }, { o := .ca N.firing_Valid 0 [] [.l 1, .l 0] }, { o := .mv (.l 0) }, { o := .ld (.v 4) 3 true, g := some (0, true) }, { o := .ca N.keys_Valid 0 [] [.l 0], g := some (1, true) }, { o := .pk (.l 2) (.l 0) (.b false) }, { o := .mv (.l 0) }, { o := .fa (.v 4) 2, g := some (0, true) }, { o := .ld (.l 0) 1 false, g := some (1, true) }, { o := .pk (.l 2) (.l 0) (.b false) }, { o := .mv (.l 0) }, { o := .fa (.v 5) 0, g := some (0, true) }, { o := .ld (.l 0) 1 false, g := some (1, true) }, { o := .ln (.l 0), g := some (2, true) }, { o := .bin .gtr (.l 0) (.i 0), g := some (3, true) }, { o := .pk (.l 4) (.l 0) (.b false) }, { o := .mv (.l 0) }, { o := .ld (.v 5) 1 true, g := some (0, true) }, { o := .fa (.v 3) 0, g := some (1, true) }, { o := .ld (.l 0) 1 false, g := some (2, true) }, { o := .ca N.area_Clear 0 [] [.l 2, .l 0], g := some (3, true) }, { o := .pk (.l 4) (.l 0) (.b false) }, { o := .mv (.l 0), d := some 6 }] []) .ret)), res := [(6, none)] }
/-- /ref34.Safe -/
def ref34_Safe : Fn := { nargs := 3, vars := [0, 1, 2, 3, 4, 5, 6], body := (.seq (.reg [{ o := .bx (.v 0) 3, d := some 3 }, { o := .bx (.v 1) 3, d := some 4 }, { o := .bx (.v 2) 1, d := some 5 }, { o := .mv (.b false), d := some 6 }] []) (.seq (.reg [{ o := .ld (.v 3) 3 true }, { o := .ca N.ref34_blast 0 [] [.l 0] }, { o := .mv (.l 0) }, { o := .ld (.v 4) 3 true, g := some (0, true) }, { o := .ca N.ref33_Valid 0 [] [.l 0], g := some (1, true) }, { o := .pk (.l 2) (.l 0) (.b false) }, { o := .mv (.l 0) }, { o := .fa (.v 4) 2, g := some (0, true) }, { o := .ld (.l 0) 1 false, g := some (1, true) }, { o := .pk (.l 2) (.l 0) (.b false) }, { o := .mv (.l 0) }, { o := .fa (.v 5) 0, g := some (0, true) }, { o := .ld (.l 0) 1 false, g := some (1, true) }, { o := .ln (.l 0), g := some (2, true) }, { o := .bin .gtr (.l 0) (.i 0), g := some (3, true) }, { o := .pk (.l 4) (.l 0) (.b false) }, { o := .mv (.l 0) }, { o := .ld (.v 5) 1 true, g := some (0, true) }, { o := .fa (.v 3) 0, g := some (1, true) }, { o := .ld (.l 0) 1 false, g := some (2, true) }, { o := .ca N.ref32_Clear 0 [] [.l 2, .l 0], g := some (3, true) }, { o := .pk (.l 4) (.l 0) (.b false) }, { o := .mv (.l 0), d := some 6 }] []) .ret)), res := [(6, none)] }
/-- /ref34.Due -/
def ref34_Due : Fn := { nargs := 3, vars := [0, 1, 2, 3, 4, 6, 18, 19], body := (.seq (.reg [{ o := .bx (.v 0) 3, d := some 3 }, { o := .bx (.v 1) 4, d := some 4 }, { o := .mv (.i 0), d := some 5 }] []) (.seq (.ite [{ o := .ld (.v 3) 3 true }, { o := .ld (.v 4) 4 true }, { o := .ca N.ref34_Valid 0 [] [.l 1, .l 0] }, { o := .un .not (.l 0) }, { o := .mv (.l 0) }, { o := .mv (.v 2), g := some (0, false) }, { o := .fa (.v 4) 3, g := some (1, false) }, { o := .ld (.l 0) 1 false, g := some (2, false) }, { o := .bin .lss (.l 2) (.l 0), g := some (3, false) }, { o := .pk (.l 4) (.b true) (.l 0) }] [] 0 (.seq (.reg [{ o := .mv (.i 0), d := some 5 }] []) .ret) .skip) (.seq (.seq (.reg [{ o := .fa (.v 4) 0 }, { o := .ld (.l 0) 1 false, d := some 6 }] []) (.blk 0 (.seq (.seq (.reg [{ o := .bin .eql (.v 6) (.i 1) }, { o := .mv (.l 0), d := some 7 }] []) (.itv 7 .skip (.reg [{ o := .bin .eql (.v 6) (.i 2) }, { o := .mv (.l 0), d := some 7 }] []))) (.itv 7 (.seq (.reg [{ o := .fa (.v 3) 1 }, { o := .ld (.l 0) 1 false }, { o := .mv (.v 2) }, { o := .fa (.v 4) 3 }, { o := .ld (.l 0) 1 false }, { o := .bin .sub (.l 2) (.l 0) }, { o := .bin .sub (.l 4) (.l 0) }, { o := .mx [.i 0, .l 0] }, { o := .mv (.l 0), d := some 5 }] []) .ret) (.ite [{ o := .bin .eql (.v 6) (.i 4) }, { o := .mv (.l 0) }] [] 0 (.seq (.reg [{ o := .fa (.v 3) 2 }, { o := .ld (.l 0) 1 false }, { o := .mv (.v 2) }, { o := .fa (.v 4) 3 }, { o := .ld (.l 0) 1 false }, { o := .bin .sub (.l 2) (.l 0) }, { o := .bin .sub (.l 4) (.l 0) }, { o := .mx [.i 0, .l 0] }, { o := .mv (.l 0), d := some 5 }] []) .ret) .skip))))) (.seq (.reg [{ o := .mv (.i 0), d := some 5 }] []) .ret)))), res := [(5, none)] }
/-- (/firing.request).check -/
def firing_request_check : Fn := { nargs := 2, vars := [0, 1, 2, 4], body := (.seq (.reg [{ o := .bx (.v 0) 13, d := some 2 }, { o := .mv (.i 0), d := some 3 }] []) (.seq (.blk 0 (.ite [{ o := .fa (.v 2) 0 }, { o := .ld (.l 0) 3 true }, { o := .fa (.v 2) 3 }, { o := .ld (.l 0) 4 true }, { o := .ca N.firing_Valid 0 [] [.l 2, .l 0] }, { o := .un .not (.l 0) }, { o := .mv (.l 0) }] [] 0 (.seq (.reg [{ o := .mv (.i 6), d := some 3 }] []) .ret) (.ite [{ o := .fa (.v 2) 3 }, { o := .fa (.l 0) 0 }, { o := .ld (.l 0) 1 false }, { o := .fa (.v 2) 12 }, { o := .ld (.l 0) 1 false }, { o := .bin .neq (.l 2) (.l 0) }, { o := .mv (.l 0) }] [] 0 (.seq (.reg [{ o := .mv (.i 10), d := some 3 }] []) .ret) (.ite [{ o := .fa (.v 2) 11 }, { o := .ld (.l 0) 1 false }, { o := .bin .lss (.l 0) (.i 0) }, { o := .mv (.l 0) }, { o := .fa (.v 2) 3, g := some (0, false) }, { o := .ld (.l 0) 4 true, g := some (1, false) }, { o := .fa (.v 2) 11, g := some (2, false) }, { o := .ld (.l 0) 1 false, g := some (3, false) }, { o := .ca N.firing_timely 0 [] [.l 2, .l 0], g := some (4, false) }, { o := .un .not (.l 0), g := some (5, false) }, { o := .pk (.l 6) (.b true) (.l 0) }, { o := .mv (.l 0) }] [] 0 (.seq (.reg [{ o := .mv (.i 8), d := some 3 }] []) .ret) (.ite [{ o := .mv (.v 1) }, { o := .mv (.l 0) }] [] 0 (.seq (.reg [{ o := .mv (.i 19), d := some 3 }] []) .ret) (.ite [{ o := .fa (.v 2) 12 }, { o := .ld (.l 0) 1 false }, { o := .bin .neq (.l 0) (.i 0) }, { o := .mv (.l 0) }, { o := .fa (.v 2) 11, g := some (0, true) }, { o := .ld (.l 0) 1 false, g := some (1, true) }, { o := .fa (.v 2) 3, g := some (2, true) }, { o := .fa (.l 0) 3, g := some (3, true) }, { o := .ld (.l 0) 1 false, g := some (4, true) }, { o := .bin .sub (.l 3) (.l 0), g := some (5, true) }, { o := .fa (.v 2) 0, g := some (6, true) }, { o := .fa (.l 0) 1, g := some (7, true) }, { o := .ld (.l 0) 1 false, g := some (8, true) }, { o := .bin .gtr (.l 3) (.l 0), g := some (9, true) }, { o := .pk (.l 10) (.l 0) (.b false) }, { o := .mv (.l 0) }] [] 0 (.seq (.reg [{ o := .mv (.i 10), d := some 3 }] []) .ret) (.ite [{ o := .fa (.v 2) 7 }, { o := .ld (.l 0) 3 true }, { o := .ca N.keys_Valid 0 [] [.l 0] }, { o := .un .not (.l 0) }, { o := .mv (.l 0) }, { o := .fa (.v 2) 7, g := some (0, false) }, { o := .fa (.l 0) 2, g := some (1, false) }, { o := .ld (.l 0) 1 false, g := some (2, false) }, { o := .un .not (.l 0), g := some (3, false) }, { o := .pk (.l 4) (.b true) (.l 0) }, { o := .mv (.l 0) }] [] 0 (.seq (.reg [{ o := .mv (.i 48), d := some 3 }] []) .ret) (.ite [{ o := .fa (.v 2) 0 }, { o := .ld (.l 0) 3 true }, { o := .fa (.v 2) 7 }, { o := .ld (.l 0) 3 true }, { o := .fa (.v 2) 10 }, { o := .ld (.l 0) 1 true }, { o := .ca N.firing_Safe 0 [] [.l 4, .l 2, .l 0] }, { o := .un .not (.l 0) }, { o := .mv (.l 0) }] [] 0 (.seq (.reg [{ o := .mv (.i 49), d := some 3 }] []) .ret) .skip)))))))) (.seq (.reg [{ o := .mv (.i 0), d := some 3 }] []) .ret))), res := [(3, none)] }
/-- /firing.timely -/
def firing_timely : Fn := { nargs := 2, vars := [0, 1, 2, 4], body := (.seq (.reg [{ o := .bx (.v 0) 4, d := some 2 }, { o := .mv (.b false), d := some 3 }] []) (.seq (.reg [{ o := .mv (.v 1) }, { o := .fa (.v 2) 3 }, { o := .ld (.l 0) 1 false }, { o := .bin .geq (.l 2) (.l 0) }, { o := .mv (.l 0) }, { o := .mv (.v 1), g := some (0, true) }, { o := .bin .leq (.l 0) (.i 2147483648), g := some (1, true) }, { o := .pk (.l 2) (.l 0) (.b false) }, { o := .mv (.l 0), d := some 3 }] []) .ret)), res := [(3, none)] }
def lists_Rising_l1b : C := (.its  [{ o := .bin .lss (.v 8) (.v 7) }] [] 0 .skip (.exit 0) (.seq (.blk 1 (.seq (.reg [{ o := .mv (.v 8) }, { o := .ia (.v 6) (.v 8) 1 }, { o := .ld (.l 0) 1 false }, { o := .mv (.l 2), d := some 4 }, { o := .mv (.l 1), d := some 5 }] []) (.ite [{ o := .mv (.v 5) }, { o := .mv (.v 1) }, { o := .bin .lss (.l 1) (.l 0) }, { o := .mv (.l 0) }, { o := .mv (.v 5), g := some (0, false) }, { o := .mv (.v 2), g := some (1, false) }, { o := .bin .gtr (.l 1) (.l 0), g := some (2, false) }, { o := .pk (.l 3) (.b true) (.l 0) }, { o := .mv (.l 0) }, { o := .mv (.v 4), g := some (0, false) }, { o := .bin .gtr (.l 0) (.i 0), g := some (1, false) }, { o := .mv (.l 0), g := some (2, false) }, { o := .mv (.v 5), g := some (0, true) }, { o := .mv (.v 0), g := some (1, true) }, { o := .mv (.v 4), g := some (2, true) }, { o := .bin .sub (.l 0) (.i 1), g := some (3, true) }, { o := .ia (.l 2) (.l 0) 1, g := some (4, true) }, { o := .ld (.l 0) 1 false, g := some (5, true) }, { o := .bin .leq (.l 5) (.l 0), g := some (6, true) }, { o := .pk (.l 7) (.l 0) (.b false), g := some (10, false) }, { o := .pk (.l 11) (.b true) (.l 0) }] [] 0 (.seq (.reg [{ o := .mv (.b false), d := some 3 }] []) .ret) .skip))) (.reg [{ o := .bin .add (.v 8) (.i 1) }, { o := .mv (.l 0), d := some 8 }] [])))
def lists_Rising_l1 : C := .loop true [3, 4, 5] K.lists_Rising_l1b
/-- /lists.Rising -/
def lists_Rising : Fn := { nargs := 3, vars := [0, 1, 2, 6, 7, 8, 9, 10, 11], body := (.seq (.reg [{ o := .mv (.b false), d := some 3 }] []) (.seq (.seq (.reg [{ o := .mv (.v 0), d := some 6 }, { o := .ln (.l 0), d := some 7 }, { o := .mv (.i 0), d := some 8 }] []) (.blk 0 K.lists_Rising_l1)) (.seq (.reg [{ o := .mv (.b true), d := some 3 }] []) .ret))), res := [(3, none)] }
def ref32_Barred_l1b : C := (.seq (.ite [{ o := .mv (.v 5) }, { o := .mv (.v 1) }, { o := .ln (.l 0) }, { o := .bin .lss (.l 2) (.l 0) }] [] 0 .skip (.exit 0)) (.seq (.blk 1 (.reg [{ o := .fa (.v 2) 1 }, { o := .ld (.l 0) 1 false }, { o := .mv (.v 1) }, { o := .mv (.v 5) }, { o := .ia (.l 1) (.l 0) 1 }, { o := .ld (.l 0) 1 false }, { o := .ia (.l 4) (.l 0) 10 }, { o := .fa (.l 0) 4 }, { o := .st (.l 0) (.b false) 1 [] }] [])) (.reg [{ o := .mv (.v 5) }, { o := .bin .add (.l 0) (.i 1) }, { o := .mv (.l 0), d := some 5 }] [])))
def ref32_Barred_l1 : C := .loop true [0, 4] K.ref32_Barred_l1b
/-- /ref32.Barred -/
def ref32_Barred : Fn := { nargs := 2, vars := [0, 1, 2, 4, 5, 6], body := (.seq (.reg [{ o := .bx (.v 0) 2, d := some 2 }, { o := .al [.nil, .nil] [], d := some 3 }, { o := .mv (.i 0), d := some 4 }] []) (.seq (.ite [{ o := .ld (.v 2) 2 true }, { o := .ca N.ref01_Check 0 [] [.l 0] }, { o := .bin .neq (.l 0) (.i 0) }] [] 0 (.seq (.reg [{ o := .bd [.nil, .nil] [] }, { o := .st (.v 3) (.l 0) 2 [] }, { o := .mv (.i 6), d := some 4 }] []) .ret) .skip) (.seq (.ite [{ o := .mv (.v 1) }, { o := .fa (.v 2) 1 }, { o := .ld (.l 0) 1 false }, { o := .ln (.l 0) }, { o := .ca N.ref23_Set 0 [] [.l 3, .l 0] }, { o := .un .not (.l 0) }] [] 0 (.seq (.reg [{ o := .bd [.nil, .nil] [] }, { o := .st (.v 3) (.l 0) 2 [] }, { o := .mv (.i 4), d := some 4 }] []) .ret) .skip) (.seq (.reg [{ o := .ld (.v 2) 2 true }, { o := .ca N.ref31_Copy 1 [] [.l 0] }, { o := .st (.v 2) (.l 0) 2 [] }] []) (.seq (.seq (.reg [{ o := .mv (.i 0), d := some 5 }] []) (.blk 0 K.ref32_Barred_l1)) (.seq (.reg [{ o := .ld (.v 2) 2 true }, { o := .st (.v 3) (.l 0) 2 [] }, { o := .mv (.i 0), d := some 4 }] []) .ret)))))), res := [(3, some (2, true)), (4, none)] }
def ref32_seal_l1b : C := (.seq (.ite [{ o := .mv (.v 7) }, { o := .mv (.v 6) }, { o := .ln (.l 0) }, { o := .bin .lss (.l 2) (.l 0) }] [] 0 .skip (.exit 0)) (.seq (.blk 1 (.ite [{ o := .mv (.v 6) }, { o := .mv (.v 7) }, { o := .ia (.l 1) (.l 0) 1 }, { o := .ld (.l 0) 1 false }, { o := .mv (.v 2) }, { o := .bin .gtr (.l 1) (.l 0) }] [] 0 (.reg [{ o := .mv (.v 6) }, { o := .mv (.v 7) }, { o := .ia (.l 1) (.l 0) 1 }, { o := .st (.l 0) (.i 1099511627776) 1 [] }] []) .skip)) (.reg [{ o := .mv (.v 7) }, { o := .bin .add (.l 0) (.i 1) }, { o := .mv (.l 0), d := some 7 }] [])))
def ref32_seal_l1 : C := .loop true [0, 1, 4] K.ref32_seal_l1b
/-- /ref32.seal -/
def ref32_seal : Fn := { nargs := 3, vars := [0, 1, 2, 3, 4, 6, 7, 8], body := (.seq (.reg [{ o := .bx (.v 0) 2, d := some 3 }, { o := .bx (.v 1) 2, d := some 4 }, { o := .al [.t (.int .i64 (0)), .nil] [], d := some 5 }] []) (.seq (.reg [{ o := .fa (.v 4) 1 }, { o := .ld (.l 0) 1 false }, { o := .app (.c (.nil)) (.l 0) true 1 }, { o := .mv (.l 0), d := some 6 }] []) (.seq (.seq (.reg [{ o := .mv (.i 0), d := some 7 }] []) (.blk 0 K.ref32_seal_l1)) (.seq (.reg [{ o := .mv (.v 2) }, { o := .ld (.v 3) 2 true }, { o := .mv (.v 6) }, { o := .mv (.v 2) }, { o := .ca N.ref25_Close 0 [] [.l 2, .l 1, .l 0] }, { o := .bd [.t (.int .i64 (0)), .nil] [(0, 1, .l 4), (1, 1, .l 0)] }, { o := .st (.v 5) (.l 0) 2 [] }] []) .ret)))), res := [(5, some (2, true))] }
/-- /ref34.step -/
def ref34_step : Fn := { nargs := 7, vars := [0, 1, 2, 3, 4, 5, 6, 7, 8, 9, 10, 14], body := (.seq (.reg [{ o := .bx (.v 0) 3, d := some 7 }, { o := .bx (.v 1) 4, d := some 8 }, { o := .bx (.v 2) 3, d := some 9 }, { o := .bx (.v 3) 1, d := some 10 }, { o := .mv (.i 0), d := some 11 }] []) (.seq (.blk 0 (.ite [{ o := .ld (.v 7) 3 true }, { o := .ld (.v 8) 4 true }, { o := .ca N.ref34_Valid 0 [] [.l 1, .l 0] }, { o := .un .not (.l 0) }, { o := .mv (.l 0) }] [] 0 (.seq (.reg [{ o := .mv (.i 6), d := some 11 }] []) .ret) (.ite [{ o := .fa (.v 8) 0 }, { o := .ld (.l 0) 1 false }, { o := .mv (.v 4) }, { o := .bin .neq (.l 1) (.l 0) }, { o := .mv (.l 0) }] [] 0 (.seq (.reg [{ o := .mv (.i 10), d := some 11 }] []) .ret) (.ite [{ o := .mv (.v 6) }, { o := .bin .lss (.l 0) (.i 0) }, { o := .mv (.l 0) }, { o := .mv (.v 6), g := some (0, false) }, { o := .bin .gtr (.l 0) (.i 2147483648), g := some (1, false) }, { o := .pk (.l 2) (.b true) (.l 0) }, { o := .mv (.l 0) }, { o := .mv (.v 6), g := some (0, false) }, { o := .fa (.v 8) 3, g := some (1, false) }, { o := .ld (.l 0) 1 false, g := some (2, false) }, { o := .bin .lss (.l 2) (.l 0), g := some (3, false) }, { o := .pk (.l 4) (.b true) (.l 0) }, { o := .mv (.l 0) }] [] 0 (.seq (.reg [{ o := .mv (.i 8), d := some 11 }] []) .ret) (.ite [{ o := .mv (.v 5) }, { o := .bin .leq (.l 0) (.i 0) }, { o := .mv (.l 0) }, { o := .mv (.v 4), g := some (0, false) }, { o := .bin .eql (.l 0) (.i 1), g := some (1, false) }, { o := .mv (.l 0), g := some (2, false) }, { o := .mv (.v 5), g := some (0, true) }, { o := .fa (.v 8) 1, g := some (1, true) }, { o := .ld (.l 0) 1 false, g := some (2, true) }, { o := .bin .eql (.l 2) (.l 0), g := some (3, true) }, { o := .pk (.l 4) (.l 0) (.b false), g := some (7, false) }, { o := .pk (.l 8) (.b true) (.l 0) }, { o := .mv (.l 0) }] [] 0 (.seq (.reg [{ o := .mv (.i 19), d := some 11 }] []) .ret) (.ite [{ o := .mv (.v 4) }, { o := .bin .neq (.l 0) (.i 0) }, { o := .mv (.l 0) }, { o := .mv (.v 6), g := some (0, true) }, { o := .fa (.v 8) 3, g := some (1, true) }, { o := .ld (.l 0) 1 false, g := some (2, true) }, { o := .bin .sub (.l 2) (.l 0), g := some (3, true) }, { o := .fa (.v 7) 1, g := some (4, true) }, { o := .ld (.l 0) 1 false, g := some (5, true) }, { o := .bin .gtr (.l 2) (.l 0), g := some (6, true) }, { o := .pk (.l 7) (.l 0) (.b false) }, { o := .mv (.l 0) }] [] 0 (.seq (.reg [{ o := .mv (.i 10), d := some 11 }] []) .ret) (.ite [{ o := .ld (.v 9) 3 true }, { o := .ca N.ref33_Valid 0 [] [.l 0] }, { o := .un .not (.l 0) }, { o := .mv (.l 0) }, { o := .fa (.v 9) 2, g := some (0, false) }, { o := .ld (.l 0) 1 false, g := some (1, false) }, { o := .un .not (.l 0), g := some (2, false) }, { o := .pk (.l 3) (.b true) (.l 0) }, { o := .mv (.l 0) }] [] 0 (.seq (.reg [{ o := .mv (.i 48), d := some 11 }] []) .ret) (.ite [{ o := .ld (.v 7) 3 true }, { o := .ld (.v 9) 3 true }, { o := .ld (.v 10) 1 true }, { o := .ca N.ref34_Safe 0 [] [.l 2, .l 1, .l 0] }, { o := .un .not (.l 0) }, { o := .mv (.l 0) }] [] 0 (.seq (.reg [{ o := .mv (.i 49), d := some 11 }] []) .ret) .skip)))))))) (.seq (.reg [{ o := .mv (.i 0), d := some 11 }] []) .ret))), res := [(11, none)] }
/-- /ref34.blast -/
def ref34_blast : Fn := { nargs := 1, vars := [0, 1, 2], body := (.seq (.reg [{ o := .bx (.v 0) 3, d := some 1 }, { o := .mv (.b false), d := some 2 }] []) (.seq (.reg [{ o := .fa (.v 1) 0 }, { o := .ld (.l 0) 1 false }, { o := .ln (.l 0) }, { o := .bin .gtr (.l 0) (.i 0) }, { o := .mv (.l 0) }, { o := .fa (.v 1) 0, g := some (0, true) }, { o := .ld (.l 0) 1 false, g := some (1, true) }, { o := .ca N.ref23_Set 0 [] [.l 0, .i 64], g := some (2, true) }, { o := .pk (.l 3) (.l 0) (.b false) }, { o := .mv (.l 0) }, { o := .fa (.v 1) 1, g := some (0, true) }, { o := .ld (.l 0) 1 false, g := some (1, true) }, { o := .bin .geq (.l 0) (.i 1), g := some (2, true) }, { o := .pk (.l 3) (.l 0) (.b false) }, { o := .mv (.l 0) }, { o := .fa (.v 1) 1, g := some (0, true) }, { o := .ld (.l 0) 1 false, g := some (1, true) }, { o := .bin .leq (.l 0) (.i 100000), g := some (2, true) }, { o := .pk (.l 3) (.l 0) (.b false) }, { o := .mv (.l 0) }, { o := .fa (.v 1) 2, g := some (0, true) }, { o := .ld (.l 0) 1 false, g := some (1, true) }, { o := .bin .geq (.l 0) (.i 1), g := some (2, true) }, { o := .pk (.l 3) (.l 0) (.b false) }, { o := .mv (.l 0) }, { o := .fa (.v 1) 2, g := some (0, true) }, { o := .ld (.l 0) 1 false, g := some (1, true) }, { o := .bin .leq (.l 0) (.i 100000), g := some (2, true) }, { o := .pk (.l 3) (.l 0) (.b false) }, { o := .mv (.l 0), d := some 2 }] []) .ret)), res := [(2, none)] }
/-- /keys.Valid -/
def keys_Valid : Fn := { nargs := 1, vars := [0, 1, 2, 3], body := (.seq (.reg [{ o := .bx (.v 0) 3, d := some 1 }, { o := .mv (.b false), d := some 2 }] []) (.seq (.reg [{ o := .mv (.c (.fn N.keys_Valid_1 [])), d := some 3 }] []) (.seq (.reg [{ o := .fa (.v 1) 0 }, { o := .ld (.l 0) 1 false }, { o := .ca N.keys_roads 0 [] [.l 0] }, { o := .mv (.l 0) }, { o := .fa (.v 1) 1, g := some (0, true) }, { o := .ld (.l 0) 1 false, g := some (1, true) }, { o := .ln (.l 0), g := some (2, true) }, { o := .fa (.v 1) 0, g := some (3, true) }, { o := .ld (.l 0) 1 false, g := some (4, true) }, { o := .ln (.l 0), g := some (5, true) }, { o := .bin .eql (.l 3) (.l 0), g := some (6, true) }, { o := .pk (.l 7) (.l 0) (.b false) }, { o := .mv (.l 0) }, { o := .fa (.v 1) 1, g := some (0, true) }, { o := .ld (.l 0) 1 false, g := some (1, true) }, { o := .mv (.v 3), g := some (2, true) }, { o := .ca N.slices_ContainsFunc_int_int 0 [] [.l 1, .l 0], g := some (3, true) }, { o := .un .not (.l 0), g := some (4, true) }, { o := .pk (.l 5) (.l 0) (.b false) }, { o := .mv (.l 0) }, { o := .fa (.v 1) 2, g := some (0, true) }, { o := .ld (.l 0) 1 false, g := some (1, true) }, { o := .un .not (.l 0), g := some (2, true) }, { o := .mv (.l 0), g := some (3, true) }, { o := .ld (.v 1) 3 true, g := some (0, false) }, { o := .ca N.keys_boxed 0 [] [.l 0], g := some (1, false) }, { o := .pk (.l 2) (.b true) (.l 0), g := some (6, true) }, { o := .pk (.l 7) (.l 0) (.b false) }, { o := .mv (.l 0), d := some 2 }] []) .ret))), res := [(2, none)] }
def area_Clear_l2b : C := (.its  [{ o := .bin .lss (.v 11) (.v 10) }] [] 0 .skip (.exit 2) (.seq (.blk 3 (.seq (.reg [{ o := .ia (.v 9) (.v 11) 2 }, { o := .ld (.l 0) 2 true }, { o := .al [.t (.int .i64 (0)), .nil] [], d := some 5 }, { o := .st (.l 0) (.l 1) 2 [] }] []) (.ite [{ o := .mv (.v 1) }, { o := .mf N.area_Clear_1 [.v 5] }, { o := .ca N.slices_ContainsFunc_int_int 0 [] [.l 1, .l 0] }] [] 0 (.seq (.reg [{ o := .mv (.b false), d := some 3 }] []) .ret) .skip))) (.reg [{ o := .bin .add (.v 11) (.i 1) }, { o := .mv (.l 0), d := some 11 }] [])))
def area_Clear_l2 : C := .loop true [0, 2, 3, 4, 5] K.area_Clear_l2b
def area_Clear_l1b : C := (.its  [{ o := .bin .lss (.v 8) (.v 7) }] [] 0 .skip (.exit 0) (.seq (.blk 1 (.seq (.reg [{ o := .ia (.v 6) (.v 8) 2 }, { o := .ld (.l 0) 2 true }, { o := .al [.nil, .nil] [], d := some 4 }, { o := .st (.l 0) (.l 1) 2 [] }] []) (.seq (.reg [{ o := .fa (.v 4) 1 }, { o := .ld (.l 0) 1 false, d := some 9 }, { o := .ln (.l 0), d := some 10 }, { o := .mv (.i 0), d := some 11 }] []) (.blk 2 K.area_Clear_l2)))) (.reg [{ o := .bin .add (.v 8) (.i 1) }, { o := .mv (.l 0), d := some 8 }] [])))
def area_Clear_l1 : C := .loop true [0, 2, 3, 4, 5, 9, 10, 11] K.area_Clear_l1b
/-- /area.Clear -/
def area_Clear : Fn := { nargs := 2, vars := [0, 1, 2, 4, 6, 8, 10, 11, 12, 17, 18, 19], body := (.seq (.reg [{ o := .bx (.v 0) 1, d := some 2 }, { o := .mv (.b false), d := some 3 }] []) (.seq (.seq (.reg [{ o := .fa (.v 2) 0 }, { o := .ld (.l 0) 1 false, d := some 6 }, { o := .ln (.l 0), d := some 7 }, { o := .mv (.i 0), d := some 8 }] []) (.blk 0 K.area_Clear_l1)) (.seq (.reg [{ o := .mv (.b true), d := some 3 }] []) .ret))), res := [(3, none)] }
def ref33_Valid_l1b : C := (.seq (.ite [{ o := .mv (.v 3) }, { o := .fa (.v 1) 1 }, { o := .ld (.l 0) 1 false }, { o := .ln (.l 0) }, { o := .bin .lss (.l 3) (.l 0) }] [] 0 .skip (.exit 0)) (.seq (.blk 1 (.ite [{ o := .fa (.v 1) 1 }, { o := .ld (.l 0) 1 false }, { o := .mv (.v 3) }, { o := .ia (.l 1) (.l 0) 1 }, { o := .ld (.l 0) 1 false }, { o := .bin .lss (.l 0) (.i 0) }, { o := .mv (.l 0) }, { o := .fa (.v 1) 1, g := some (0, false) }, { o := .ld (.l 0) 1 false, g := some (1, false) }, { o := .mv (.v 3), g := some (2, false) }, { o := .ia (.l 1) (.l 0) 1, g := some (3, false) }, { o := .ld (.l 0) 1 false, g := some (4, false) }, { o := .bin .gtr (.l 0) (.i 2), g := some (5, false) }, { o := .pk (.l 6) (.b true) (.l 0) }, { o := .mv (.l 0) }, { o := .fa (.v 1) 2, g := some (0, false) }, { o := .ld (.l 0) 1 false, g := some (1, false) }, { o := .mv (.l 0), g := some (2, false) }, { o := .fa (.v 1) 1, g := some (0, true) }, { o := .ld (.l 0) 1 false, g := some (1, true) }, { o := .mv (.v 3), g := some (2, true) }, { o := .ia (.l 1) (.l 0) 1, g := some (3, true) }, { o := .ld (.l 0) 1 false, g := some (4, true) }, { o := .bin .neq (.l 0) (.i 2), g := some (5, true) }, { o := .pk (.l 6) (.l 0) (.b false), g := some (9, false) }, { o := .pk (.l 10) (.b true) (.l 0) }] [] 0 (.seq (.reg [{ o := .mv (.b false), d := some 2 }] []) .ret) .skip)) (.reg [{ o := .mv (.v 3) }, { o := .bin .add (.l 0) (.i 1) }, { o := .mv (.l 0), d := some 3 }] [])))
def ref33_Valid_l1 : C := .loop true [0, 2] K.ref33_Valid_l1b
/-- /ref33.Valid -/
def ref33_Valid : Fn := { nargs := 1, vars := [0, 1, 2, 3], body := (.seq (.reg [{ o := .bx (.v 0) 3, d := some 1 }, { o := .mv (.b false), d := some 2 }] []) (.seq (.ite [{ o := .fa (.v 1) 0 }, { o := .ld (.l 0) 1 false }, { o := .ln (.l 0) }, { o := .bin .lss (.l 0) (.i 1) }, { o := .mv (.l 0) }, { o := .fa (.v 1) 0, g := some (0, false) }, { o := .ld (.l 0) 1 false, g := some (1, false) }, { o := .ln (.l 0), g := some (2, false) }, { o := .bin .gtr (.l 0) (.i 12), g := some (3, false) }, { o := .pk (.l 4) (.b true) (.l 0) }, { o := .mv (.l 0) }, { o := .fa (.v 1) 0, g := some (0, false) }, { o := .ld (.l 0) 1 false, g := some (1, false) }, { o := .ca N.ref23_Set 0 [] [.l 0, .i 128], g := some (2, false) }, { o := .un .not (.l 0), g := some (3, false) }, { o := .pk (.l 4) (.b true) (.l 0) }, { o := .mv (.l 0) }, { o := .fa (.v 1) 1, g := some (0, false) }, { o := .ld (.l 0) 1 false, g := some (1, false) }, { o := .ln (.l 0), g := some (2, false) }, { o := .fa (.v 1) 0, g := some (3, false) }, { o := .ld (.l 0) 1 false, g := some (4, false) }, { o := .ln (.l 0), g := some (5, false) }, { o := .bin .neq (.l 3) (.l 0), g := some (6, false) }, { o := .pk (.l 7) (.b true) (.l 0) }] [] 0 (.seq (.reg [{ o := .mv (.b false), d := some 2 }] []) .ret) .skip) (.seq (.seq (.reg [{ o := .mv (.i 0), d := some 3 }] []) (.blk 0 K.ref33_Valid_l1)) (.seq (.reg [{ o := .mv (.b true), d := some 2 }] []) .ret)))), res := [(2, none)] }
def ref32_Clear_l3b : C := (.seq (.ite [{ o := .mv (.v 7) }, { o := .mv (.v 6) }, { o := .ln (.l 0) }, { o := .bin .lss (.l 2) (.l 0) }] [] 0 .skip (.exit 4)) (.seq (.blk 5 (.ite [{ o := .mv (.v 1) }, { o := .mv (.v 7) }, { o := .ca N.ref23_Has 0 [] [.l 1, .l 0] }, { o := .mv (.l 0) }, { o := .mv (.v 6), g := some (0, true) }, { o := .mv (.v 7), g := some (1, true) }, { o := .ia (.l 1) (.l 0) 1, g := some (2, true) }, { o := .ld (.l 0) 1 false, g := some (3, true) }, { o := .bin .neq (.l 0) (.i 1099511627776), g := some (4, true) }, { o := .pk (.l 5) (.l 0) (.b false) }] [] 0 (.seq (.reg [{ o := .mv (.b false), d := some 3 }] []) .ret) .skip)) (.reg [{ o := .mv (.v 7) }, { o := .bin .add (.l 0) (.i 1) }, { o := .mv (.l 0), d := some 7 }] [])))
def ref32_Clear_l3 : C := .loop true [0, 3] K.ref32_Clear_l3b
def ref32_Clear_l2b : C := (.seq (.ite [{ o := .mv (.v 5) }, { o := .fa (.v 2) 0 }, { o := .ld (.l 0) 1 false }, { o := .mv (.v 4) }, { o := .ia (.l 1) (.l 0) 2 }, { o := .fa (.l 0) 1 }, { o := .ld (.l 0) 1 false }, { o := .ln (.l 0) }, { o := .bin .lss (.l 7) (.l 0) }] [] 0 .skip (.exit 2)) (.seq (.blk 3 (.seq (.reg [{ o := .fa (.v 2) 0 }, { o := .ld (.l 0) 1 false }, { o := .mv (.v 4) }, { o := .ia (.l 1) (.l 0) 2 }, { o := .fa (.l 0) 1 }, { o := .ld (.l 0) 1 false }, { o := .mv (.v 5) }, { o := .ia (.l 1) (.l 0) 2 }, { o := .fa (.l 0) 1 }, { o := .ld (.l 0) 1 false }, { o := .mv (.l 0), d := some 6 }] []) (.seq (.reg [{ o := .mv (.i 0), d := some 7 }] []) (.blk 4 K.ref32_Clear_l3)))) (.reg [{ o := .mv (.v 5) }, { o := .bin .add (.l 0) (.i 1) }, { o := .mv (.l 0), d := some 5 }] [])))
def ref32_Clear_l2 : C := .loop true [0, 3, 6, 7] K.ref32_Clear_l2b
def ref32_Clear_l1b : C := (.seq (.ite [{ o := .mv (.v 4) }, { o := .fa (.v 2) 0 }, { o := .ld (.l 0) 1 false }, { o := .ln (.l 0) }, { o := .bin .lss (.l 3) (.l 0) }] [] 0 .skip (.exit 0)) (.seq (.blk 1 (.seq (.reg [{ o := .mv (.i 0), d := some 5 }] []) (.blk 2 K.ref32_Clear_l2))) (.reg [{ o := .mv (.v 4) }, { o := .bin .add (.l 0) (.i 1) }, { o := .mv (.l 0), d := some 4 }] [])))
def ref32_Clear_l1 : C := .loop true [0, 3, 5, 6, 7] K.ref32_Clear_l1b
/-- /ref32.Clear -/
def ref32_Clear : Fn := { nargs := 2, vars := [0, 1, 2, 4, 5, 6, 7, 8], body := (.seq (.reg [{ o := .bx (.v 0) 1, d := some 2 }, { o := .mv (.b false), d := some 3 }] []) (.seq (.seq (.reg [{ o := .mv (.i 0), d := some 4 }] []) (.blk 0 K.ref32_Clear_l1)) (.seq (.reg [{ o := .mv (.b true), d := some 3 }] []) .ret))), res := [(3, none)] }
/-- /ref31.Copy -/
def ref31_Copy : Fn := { nargs := 1, vars := [0, 1, 2], body := (.seq (.reg [{ o := .bx (.v 0) 2, d := some 1 }, { o := .al [.nil, .nil] [], d := some 2 }] []) (.seq (.reg [{ o := .fa (.v 1) 0 }, { o := .ld (.l 0) 1 false }, { o := .app (.c (.nil)) (.l 0) true 2 }, { o := .fa (.v 1) 1 }, { o := .ld (.l 0) 1 false }, { o := .app (.c (.nil)) (.l 0) true 10 }, { o := .bd [.nil, .nil] [(0, 1, .l 3), (1, 1, .l 0)] }, { o := .st (.v 2) (.l 0) 2 [] }] [(4, 0)]) .ret)), res := [(2, some (2, true))] }
/-- /keys.Valid.1 -/
def keys_Valid_1 : Fn := { nargs := 1, vars := [0, 2], body := (.seq (.reg [{ o := .mv (.b false), d := some 1 }] []) (.seq (.reg [{ o := .mv (.v 0) }, { o := .ca N.lists_In 0 [] [.l 0, .i 0, .i 2] }, { o := .un .not (.l 0) }, { o := .mv (.l 0), d := some 1 }] []) .ret)), res := [(1, none)] }
/-- /keys.roads -/
def keys_roads : Fn := { nargs := 1, vars := [0, 2], body := (.seq (.reg [{ o := .mv (.b false), d := some 1 }] []) (.seq (.reg [{ o := .mv (.v 0) }, { o := .ln (.l 0) }, { o := .ca N.lists_In 0 [] [.l 0, .i 1, .i 12] }, { o := .mv (.l 0) }, { o := .mv (.v 0), g := some (0, true) }, { o := .ca N.lists_Rising 0 [] [.l 0, .i 0, .i 127], g := some (1, true) }, { o := .pk (.l 2) (.l 0) (.b false) }, { o := .mv (.l 0), d := some 1 }] []) .ret)), res := [(1, none)] }
/-- /keys.boxed -/
def keys_boxed : Fn := { nargs := 1, vars := [0, 1, 2], body := (.seq (.reg [{ o := .bx (.v 0) 3, d := some 1 }, { o := .mv (.b false), d := some 2 }] []) (.seq (.reg [{ o := .fa (.v 1) 1 }, { o := .ld (.l 0) 1 false }, { o := .ca N.slices_ContainsFunc_int_int 0 [] [.l 0, .c (.fn N.keys_boxed_1 [])] }, { o := .un .not (.l 0) }, { o := .mv (.l 0), d := some 2 }] []) .ret)), res := [(2, none)] }
/-- /area.Clear.1 -/
def area_Clear_1 : Fn := { nargs := 2, vars := [0, 1, 3], body := (.seq (.reg [{ o := .mv (.b false), d := some 2 }] []) (.seq (.reg [{ o := .mv (.v 0) }, { o := .fa (.v 1) 1 }, { o := .ld (.l 0) 1 false }, { o := .ln (.l 0) }, { o := .bin .sub (.l 0) (.i 1) }, { o := .ca N.lists_In 0 [] [.l 4, .i 0, .l 0] }, { o := .mv (.l 0) }, { o := .fa (.v 1) 1, g := some (0, true) }, { o := .ld (.l 0) 1 false, g := some (1, true) }, { o := .mv (.v 0), g := some (2, true) }, { o := .ia (.l 1) (.l 0) 1, g := some (3, true) }, { o := .ld (.l 0) 1 false, g := some (4, true) }, { o := .bin .neq (.l 0) (.i 1099511627776), g := some (5, true) }, { o := .pk (.l 6) (.l 0) (.b false) }, { o := .mv (.l 0), d := some 2 }] []) .ret)), res := [(2, none)] }
/-- /keys.boxed.1 -/
def keys_boxed_1 : Fn := { nargs := 1, vars := [0, 2], body := (.seq (.reg [{ o := .mv (.b false), d := some 1 }] []) (.seq (.reg [{ o := .mv (.v 0) }, { o := .bin .neq (.l 0) (.i 2) }, { o := .mv (.l 0), d := some 1 }] []) .ret)), res := [(1, none)] }
def ref26_Copy_v1_l1b : C := (.seq (.ite [{ o := .mv (.v 4) }, { o := .fa (.v 1) 0 }, { o := .ld (.l 0) 1 false }, { o := .ln (.l 0) }, { o := .bin .lss (.l 3) (.l 0) }] [] 0 .skip (.exit 0)) (.seq (.blk 1 (.reg [{ o := .fa (.v 3) 0 }, { o := .ld (.l 0) 1 false }, { o := .fa (.v 1) 0 }, { o := .ld (.l 0) 1 false }, { o := .mv (.v 4) }, { o := .ia (.l 1) (.l 0) 2 }, { o := .ld (.l 0) 2 true }, { o := .ca N.ref26_CopyWorld 1 [] [.l 0] }, { o := .bsr [.l 0] 2 }, { o := .app (.l 7) (.l 0) false 2 }, { o := .fa (.v 3) 0 }, { o := .st (.l 0) (.l 1) 1 [] }] [(1, 8), (1, 9)])) (.reg [{ o := .mv (.v 4) }, { o := .bin .add (.l 0) (.i 1) }, { o := .mv (.l 0), d := some 4 }] [])))
def ref26_Copy_v1_l1 : C := .loop false [0] K.ref26_Copy_v1_l1b
/-- /ref26.Copy -/
def ref26_Copy_v1 : Fn := { nargs := 1, vars := [0, 1, 2, 3, 4], body := (.seq (.reg [{ o := .bx (.v 0) 1, d := some 1 }, { o := .al [.nil] [], d := some 2 }] []) (.seq (.reg [{ o := .al [.nil] [(0, 2)], d := some 3 }] []) (.seq (.seq (.reg [{ o := .mv (.i 0), d := some 4 }] []) (.blk 0 K.ref26_Copy_v1_l1)) (.seq (.reg [{ o := .ld (.v 3) 1 true }, { o := .st (.v 2) (.l 0) 1 [] }] []) .ret)))), res := [(2, some (1, true))] }
def ref26_Copy_v2_l1b : C := (.seq (.ite [{ o := .mv (.v 4) }, { o := .fa (.v 1) 0 }, { o := .ld (.l 0) 1 false }, { o := .ln (.l 0) }, { o := .bin .lss (.l 3) (.l 0) }] [] 0 .skip (.exit 0)) (.seq (.blk 1 (.reg [{ o := .fa (.v 3) 0 }, { o := .ld (.l 0) 1 false }, { o := .fa (.v 1) 0 }, { o := .ld (.l 0) 1 false }, { o := .mv (.v 4) }, { o := .ia (.l 1) (.l 0) 2 }, { o := .ld (.l 0) 2 true }, { o := .ca N.ref26_CopyWorld_v2 2 [] [.l 0] }, { o := .bsr [.l 0] 2 }, { o := .app (.l 7) (.l 0) false 2 }, { o := .fa (.v 3) 0 }, { o := .st (.l 0) (.l 1) 1 [] }] [(1, 8), (1, 9)])) (.reg [{ o := .mv (.v 4) }, { o := .bin .add (.l 0) (.i 1) }, { o := .mv (.l 0), d := some 4 }] [])))
def ref26_Copy_v2_l1 : C := .loop false [0] K.ref26_Copy_v2_l1b
/-- /ref26.Copy -/
def ref26_Copy_v2 : Fn := { nargs := 1, vars := [0, 1, 2, 3, 4], body := (.seq (.reg [{ o := .bx (.v 0) 1, d := some 1 }, { o := .al [.nil] [], d := some 2 }] []) (.seq (.reg [{ o := .al [.nil] [(0, 2)], d := some 3 }] []) (.seq (.seq (.reg [{ o := .mv (.i 0), d := some 4 }] []) (.blk 0 K.ref26_Copy_v2_l1)) (.seq (.reg [{ o := .ld (.v 3) 1 true }, { o := .st (.v 2) (.l 0) 1 [] }] []) .ret)))), res := [(2, some (1, true))] }
def ref26_CopyWorld_v2_l1b : C := (.seq (.ite [{ o := .mv (.v 4) }, { o := .fa (.v 1) 1 }, { o := .ld (.l 0) 1 false }, { o := .ln (.l 0) }, { o := .bin .lss (.l 3) (.l 0) }] [] 0 .skip (.exit 0)) (.seq (.blk 1 (.reg [{ o := .fa (.v 3) 1 }, { o := .ld (.l 0) 1 false }, { o := .fa (.v 1) 1 }, { o := .ld (.l 0) 1 false }, { o := .mv (.v 4) }, { o := .ia (.l 1) (.l 0) 2 }, { o := .ld (.l 0) 2 true }, { o := .ca N.ref25_Copy 1 [] [.l 0] }, { o := .bsr [.l 0] 2 }, { o := .app (.l 7) (.l 0) false 2 }, { o := .fa (.v 3) 1 }, { o := .st (.l 0) (.l 1) 1 [] }] [(1, 8), (1, 9)])) (.reg [{ o := .mv (.v 4) }, { o := .bin .add (.l 0) (.i 1) }, { o := .mv (.l 0), d := some 4 }] [])))
def ref26_CopyWorld_v2_l1 : C := .loop false [0] K.ref26_CopyWorld_v2_l1b
/-- /ref26.CopyWorld -/
def ref26_CopyWorld_v2 : Fn := { nargs := 1, vars := [0, 1, 2, 3, 4], body := (.seq (.reg [{ o := .bx (.v 0) 2, d := some 1 }, { o := .al [.nil, .nil] [], d := some 2 }] []) (.seq (.reg [{ o := .fa (.v 1) 0 }, { o := .ld (.l 0) 1 false }, { o := .app (.c (.nil)) (.l 0) false 1 }, { o := .bd [.nil, .nil] [(0, 1, .l 0)] }, { o := .al [.nil, .nil] [(1, 2)], d := some 3 }, { o := .st (.l 0) (.l 1) 2 [(1, 2)] }] []) (.seq (.seq (.reg [{ o := .mv (.i 0), d := some 4 }] []) (.blk 0 K.ref26_CopyWorld_v2_l1)) (.seq (.reg [{ o := .ld (.v 3) 2 true }, { o := .st (.v 2) (.l 0) 2 [] }] []) .ret)))), res := [(2, some (2, true))] }
end Go.Ev.K
namespace Go.Ev
class Has4 [Lib] : Prop where
  t_ref34_Valid : Lib.fs N.ref34_Valid = some K.ref34_Valid
  t_firing_Safe : Lib.fs N.firing_Safe = some K.firing_Safe
  t_ref34_Safe : Lib.fs N.ref34_Safe = some K.ref34_Safe
  t_ref34_Due : Lib.fs N.ref34_Due = some K.ref34_Due
  t_firing_request_check : Lib.fs N.firing_request_check = some K.firing_request_check
  t_firing_timely : Lib.fs N.firing_timely = some K.firing_timely
  t_lists_Rising : Lib.fs N.lists_Rising = some K.lists_Rising
  t_ref32_Barred : Lib.fs N.ref32_Barred = some K.ref32_Barred
  t_ref32_seal : Lib.fs N.ref32_seal = some K.ref32_seal
  t_ref34_step : Lib.fs N.ref34_step = some K.ref34_step
  t_ref34_blast : Lib.fs N.ref34_blast = some K.ref34_blast
  t_keys_Valid : Lib.fs N.keys_Valid = some K.keys_Valid
  t_area_Clear : Lib.fs N.area_Clear = some K.area_Clear
  t_ref33_Valid : Lib.fs N.ref33_Valid = some K.ref33_Valid
  t_ref32_Clear : Lib.fs N.ref32_Clear = some K.ref32_Clear
  t_ref31_Copy : Lib.fs N.ref31_Copy = some K.ref31_Copy
  t_keys_Valid_1 : Lib.fs N.keys_Valid_1 = some K.keys_Valid_1
  t_keys_roads : Lib.fs N.keys_roads = some K.keys_roads
  t_keys_boxed : Lib.fs N.keys_boxed = some K.keys_boxed
  t_area_Clear_1 : Lib.fs N.area_Clear_1 = some K.area_Clear_1
  t_keys_boxed_1 : Lib.fs N.keys_boxed_1 = some K.keys_boxed_1
  t_ref26_Copy_v1 : Lib.fs N.ref26_Copy_v1 = some K.ref26_Copy_v1
  t_ref26_Copy_v2 : Lib.fs N.ref26_Copy_v2 = some K.ref26_Copy_v2
  t_ref26_CopyWorld_v2 : Lib.fs N.ref26_CopyWorld_v2 = some K.ref26_CopyWorld_v2
namespace K
variable [Lib] [Has4]
theorem t_ref34_Valid : Lib.fs N.ref34_Valid = some K.ref34_Valid := Has4.t_ref34_Valid
theorem t_firing_Safe : Lib.fs N.firing_Safe = some K.firing_Safe := Has4.t_firing_Safe
theorem t_ref34_Safe : Lib.fs N.ref34_Safe = some K.ref34_Safe := Has4.t_ref34_Safe
theorem t_ref34_Due : Lib.fs N.ref34_Due = some K.ref34_Due := Has4.t_ref34_Due
theorem t_firing_request_check : Lib.fs N.firing_request_check = some K.firing_request_check := Has4.t_firing_request_check
theorem t_firing_timely : Lib.fs N.firing_timely = some K.firing_timely := Has4.t_firing_timely
theorem t_lists_Rising : Lib.fs N.lists_Rising = some K.lists_Rising := Has4.t_lists_Rising
theorem t_ref32_Barred : Lib.fs N.ref32_Barred = some K.ref32_Barred := Has4.t_ref32_Barred
theorem t_ref32_seal : Lib.fs N.ref32_seal = some K.ref32_seal := Has4.t_ref32_seal
theorem t_ref34_step : Lib.fs N.ref34_step = some K.ref34_step := Has4.t_ref34_step
theorem t_ref34_blast : Lib.fs N.ref34_blast = some K.ref34_blast := Has4.t_ref34_blast
theorem t_keys_Valid : Lib.fs N.keys_Valid = some K.keys_Valid := Has4.t_keys_Valid
theorem t_area_Clear : Lib.fs N.area_Clear = some K.area_Clear := Has4.t_area_Clear
theorem t_ref33_Valid : Lib.fs N.ref33_Valid = some K.ref33_Valid := Has4.t_ref33_Valid
theorem t_ref32_Clear : Lib.fs N.ref32_Clear = some K.ref32_Clear := Has4.t_ref32_Clear
theorem t_ref31_Copy : Lib.fs N.ref31_Copy = some K.ref31_Copy := Has4.t_ref31_Copy
theorem t_keys_Valid_1 : Lib.fs N.keys_Valid_1 = some K.keys_Valid_1 := Has4.t_keys_Valid_1
theorem t_keys_roads : Lib.fs N.keys_roads = some K.keys_roads := Has4.t_keys_roads
theorem t_keys_boxed : Lib.fs N.keys_boxed = some K.keys_boxed := Has4.t_keys_boxed
theorem t_area_Clear_1 : Lib.fs N.area_Clear_1 = some K.area_Clear_1 := Has4.t_area_Clear_1
theorem t_keys_boxed_1 : Lib.fs N.keys_boxed_1 = some K.keys_boxed_1 := Has4.t_keys_boxed_1
theorem t_ref26_Copy_v1 : Lib.fs N.ref26_Copy_v1 = some K.ref26_Copy_v1 := Has4.t_ref26_Copy_v1
theorem t_ref26_Copy_v2 : Lib.fs N.ref26_Copy_v2 = some K.ref26_Copy_v2 := Has4.t_ref26_Copy_v2
theorem t_ref26_CopyWorld_v2 : Lib.fs N.ref26_CopyWorld_v2 = some K.ref26_CopyWorld_v2 := Has4.t_ref26_CopyWorld_v2
end K
end Go.Ev

/- Shots: what the program and the reference say. -/
namespace Go.Ev
open Go
variable [Lib] [Has1] [Has2] [Has3] [Has4]

def risP (l : List Int) (lo hi : Int) (j : Nat) : Bool := !decide (lo ≤ nth l j ∧ nth l j ≤ hi ∧ (0 < j → nth l (j - 1) < nth l j))
def risB (l : List Int) (lo hi : Int) : Bool := !((List.range l.length).any (risP l lo hi))
theorem rising_ok (l : List Int) (lo hi : Int) (hl : l.length ≤ 4294967296) : CALL 0 N.lists_Rising [.t (tL l), I lo, I hi] [] = some (B (risB l lo hi), []) := by
  refine CALL_of K.t_lists_Rising rfl ?_
  have loop : ∀ a b c : D, exS CALL K.lists_Rising_l1 ⟨[.t (tL l), I lo, I hi, a, b, c, .t (tL l), I l.length, I 0], []⟩ =
      some (if (List.range l.length).any (risP l lo hi) = true
        then (.ret, ⟨[.t (tL l), I lo, I hi, B false, I (firstN l.length (risP l lo hi)), I (nth l (firstN l.length (risP l lo hi))), .t (tL l), I l.length, I (firstN l.length (risP l lo hi))], []⟩)
        else (.exit 0, ⟨[.t (tL l), I lo, I hi, .und, .und, .und, .t (tL l), I l.length, I l.length], []⟩)) := by
    intro a b c
    refine loop_srch (fun j => ⟨[.t (tL l), I lo, I hi, .und, .und, .und, .t (tL l), I l.length, I j], []⟩) l.length (risP l lo hi) (fun j => (.ret, ⟨[.t (tL l), I lo, I hi, B false, I j, I (nth l j), .t (tL l), I l.length, I j], []⟩)) _ rfl ?_ ?_ ?_ (by simp)
    · intro j hj hp
      simp only [risP, Bool.not_eq_false', decide_eq_true_eq] at hp
      obtain ⟨h1, h2, h3⟩ := hp
      cases j with
      | zero => simp (disch := omega) only [go_sem, K.lists_Rising_l1b, ↓reduceIte]
      | succ j =>
        have h3 := h3 (by omega)
        rw [Nat.add_sub_cancel] at h3
        simp (disch := omega) only [go_sem, K.lists_Rising_l1b, ↓reduceIte]
    · intro j hj hp
      simp only [risP, Bool.not_eq_true', decide_eq_false_iff_not] at hp
      refine ⟨?_, by simp⟩
      by_cases h1 : lo ≤ nth l j
      · by_cases h2 : nth l j ≤ hi
        · cases j with
          | zero => exact absurd ⟨h1, h2, fun h => absurd h (by omega)⟩ hp
          | succ j =>
            have h3 : ¬ nth l j < nth l (j + 1) := fun h => hp ⟨h1, h2, fun _ => by simpa using h⟩
            simp (disch := omega) only [go_sem, K.lists_Rising_l1b, ↓reduceIte]
        · simp (disch := omega) only [go_sem, K.lists_Rising_l1b, ↓reduceIte]
      · simp (disch := omega) only [go_sem, K.lists_Rising_l1b, ↓reduceIte]
    · simp (disch := omega) only [go_sem, K.lists_Rising_l1b, ↓reduceIte]
  unfold risB
  simp (disch := omega) only [go_sem, K.lists_Rising, ↓reduceIte, loop]
  cases hf : (List.range l.length).any (risP l lo hi) with
  | true => simp (disch := omega) only [go_sem, ↓reduceIte]
  | false => simp (disch := omega) only [go_sem, ↓reduceIte, Bool.false_eq_true]
theorem ris_set (l : List Int) (n : Int) : risB l 0 (n - 1) = setB l n := by
  unfold risB setB
  rw [all_rng]
  refine congrArg (!·) (congrArg _ (funext fun j => ?_))
  unfold risP
  refine congrArg (!·) (decide_eq_decide.2 ⟨fun h => ⟨h.1, by omega, h.2.2⟩, fun h => ⟨h.1, by omega, h.2.2⟩⟩)

structure Shot where
  st : Int
  fi : Int
  se : Int
  ti : Int
abbrev Shot.e (s : Shot) : T := .agg [tI s.st, tI s.fi, tI s.se, tI s.ti]
structure Blast where
  area : List Int
  hold : Int
  mis : Int
abbrev Blast.e (x : Blast) : T := .agg [tL x.area, tI x.hold, tI x.mis]
structure Keys where
  roads : List Int
  keys : List Int
  out : Bool
abbrev Keys.e (k : Keys) : T := .agg [tL k.roads, tL k.keys, .bool k.out]

/- keys -/
def boxedF (l : List Int) : Bool := !l.any fun x => !decide (x = 2)
def kroadsF (l : List Int) : Bool := decide (1 ≤ (l.length : Int) ∧ (l.length : Int) ≤ 12) && risB l 0 127
def keysF (k : Keys) : Bool := kroadsF k.roads && decide (k.keys.length = k.roads.length) && !(k.keys.any fun x => !decide (0 ≤ x ∧ x ≤ 2)) && (!k.out || boxedF k.keys)
/- shots -/
def stateF (s : Shot) : Bool := if s.st = 0 then decide (s.fi = 0 ∧ s.se = 0 ∧ s.ti = 0) else if s.st = 1 then decide (0 < s.fi ∧ s.se = 0)
  else if s.st = 2 ∨ s.st = 3 ∨ s.st = 4 then decide (0 < s.fi ∧ 0 < s.se ∧ s.fi ≠ s.se) else false
def shotF (x : Blast) (s : Shot) : Bool := !decide (x.area.length = 0) && risB x.area 0 63 && decide (1 ≤ x.hold ∧ x.hold ≤ 100000) && decide (1 ≤ x.mis ∧ x.mis ≤ 100000) && decide (0 ≤ s.ti ∧ s.ti ≤ 2147483648) && stateF s

end Go.Ev

/- The program: whereabouts. -/
namespace Go.Ev
open Go
variable [Lib] [Has1] [Has2] [Has3] [Has4] [Has6] [Has7] [Has8] [Has9]

theorem shaped1_ok (x : Int) : CALL 0 N.places_shaped_1 [I x] [] = some (B (!decide (plT x)), []) := by
  refine CALL_of K.t_places_shaped_1 rfl ?_
  have i := in_ok x 0 2147483648
  unfold plT inT
  by_cases c : x = 1099511627776
  · subst c
    simp (disch := omega) only [go_sem, K.places_shaped_1, ↓reduceIte, Nat.reduceAdd, Nat.reduceSub]
  · by_cases c2 : 0 ≤ x ∧ x ≤ 2147483648
    · simp only [c2, and_self, decide_true] at i
      simp (disch := omega) only [go_sem, K.places_shaped_1, ↓reduceIte, i, c, c2, false_or, and_self, decide_true, Nat.reduceAdd, Nat.reduceSub]
    · simp only [c2, decide_false] at i
      simp (disch := omega) only [go_sem, K.places_shaped_1, ↓reduceIte, i, c, c2, false_or, decide_false, Nat.reduceAdd, Nat.reduceSub]
theorem shaped_ok (m : Mine) (hm : m.places.length ≤ 1000000) (w : Wh) (hl : w.frm.length ≤ 1000000) : CALL 0 N.places_shaped [.t m.e, .t w.e] [] = some (B (plainB w m.places.length), []) := by
  refine CALL_of K.t_places_shaped rfl ?_
  have i := in_ok w.time 0 2147483648
  have cf : CALL 0 N.slices_ContainsFunc_int_int [.t (tL w.frm), .fn N.places_shaped_1 []] [] = some (B (w.frm.any fun x => !decide (plT x)), []) := containsFunc_ok w.frm (by omega) N.places_shaped_1 [] (fun x => !decide (plT x)) (fun x _ => shaped1_ok x)
  have e : plainB w m.places.length = (decide ((w.frm.length : Int) = m.places.length ∧ inT w.time) && !(w.frm.any fun x => !decide (plT x))) := by
    unfold plainB
    rw [all_rng, any_rng w.frm (fun x => !decide (plT x))]
  rw [e]
  unfold inT
  generalize (w.frm.any fun x => !decide (plT x)) = r at *
  obtain ⟨places, roads⟩ := m
  obtain ⟨time, frm⟩ := w
  simp only at *
  clear e
  by_cases c1 : (frm.length : Int) = places.length
  · by_cases c2 : 0 ≤ time ∧ time ≤ 2147483648
    · simp only [c2, and_self, decide_true] at i
      cases r <;> simp (disch := omega) only [go_sem, K.places_shaped, ↓reduceIte, i, cf, c1, c2, and_self, decide_true, Bool.true_and, Nat.reduceAdd, Nat.reduceSub]
    · simp only [c2, decide_false] at i
      simp (disch := omega) only [go_sem, K.places_shaped, ↓reduceIte, i, cf, c1, c2, and_false, decide_false, Bool.false_and, Nat.reduceAdd, Nat.reduceSub]
  · simp (disch := omega) only [go_sem, K.places_shaped, ↓reduceIte, c1, false_and, decide_false, Bool.false_and, Nat.reduceAdd, Nat.reduceSub]
theorem pvalid_ok {m : Mine} (h : m.ok) (w : Wh) (hl : w.frm.length ≤ 1000000) : CALL 0 N.places_Valid [.t m.e, .t w.e] [] = some (B (validB m w), []) := by
  refine CALL_of K.t_places_Valid rfl ?_
  have np := h.np
  have v := planValid_ok h
  have s := shaped_ok m (by omega) w hl
  unfold validB
  cases hp : plainB w m.places.length with
  | false =>
    rw [hp] at s
    obtain ⟨places, roads⟩ := m
    obtain ⟨time, frm⟩ := w
    simp only at *
    simp (disch := omega) only [go_sem, K.places_Valid, ↓reduceIte, v, s, Bool.false_and, Nat.reduceAdd, Nat.reduceSub]
  | true =>
    rw [hp] at s
    obtain ⟨p1, p2, p3⟩ := plainB_spec hp
    have hb : bnd w.frm := fun x hx => plT_bnd (p3 x hx)
    have lo := (lowered_ok h w.time (by unfold inT at p2; omega) (by unfold inT at p2; omega) w.frm (by omega) hb).1
    have ll := closeF_len h w.time p2 none (by simp) (l := w.frm) (by omega) hb
    have eq := equal_ok (closeF m w.time none w.frm) w.frm (by omega) (by omega)
    generalize closeF m w.time none w.frm = c at *
    obtain ⟨places, roads⟩ := m
    obtain ⟨time, frm⟩ := w
    simp only at *
    clear hb p3
    simp (disch := omega) only [go_sem, K.places_Valid, ↓reduceIte, v, s, lo, eq, Bool.true_and, Nat.reduceAdd, Nat.reduceSub]

theorem pstart_ok {m : Mine} (h : m.ok) (h1 : 1 ≤ m.places.length) (p t : Int) : CALL 0 N.places_Start [.t m.e, I p, I t] [] = some (.tup [.t (startF m p t).1.e, I (startF m p t).2], []) := by
  refine CALL_of K.t_places_Start rfl ?_
  have np := h.np
  have v := planValid_ok h
  have i1 := in_ok p 0 (m.places.length - 1)
  have i2 := in_ok t 0 2147483648
  have nw := nowhere1_ok h h1
  have nl := neverL_len m.places.length
  unfold startF
  by_cases c1 : p < 0 ∨ (m.places.length : Int) ≤ p
  · rw [if_pos c1]
    rw [decide_eq_false (by omega)] at i1
    obtain ⟨places, roads⟩ := m
    simp only at *
    simp (disch := omega) only [go_sem, K.places_Start, ↓reduceIte, v, i1, Nat.reduceAdd, Nat.reduceSub]
    rfl
  · rw [if_neg c1]
    rw [decide_eq_true (by omega)] at i1
    by_cases c2 : inT t
    · rw [if_pos c2]
      rw [decide_eq_true (show 0 ≤ t ∧ t ≤ 2147483648 from c2)] at i2
      have hb : bnd ((neverL m.places.length).set p.toNat t) := bnd_set (neverL_bnd _) (by unfold inT at c2; omega) (by unfold inT at c2; omega)
      have lo := (lowered_ok h t (by unfold inT at c2; omega) (by unfold inT at c2; omega) ((neverL m.places.length).set p.toNat t) (by simp) hb).1
      generalize closeF m t none ((neverL m.places.length).set p.toNat t) = c at *
      generalize neverL m.places.length = ne at *
      obtain ⟨places, roads⟩ := m
      simp only at *
      clear hb
      simp (disch := omega) only [go_sem, K.places_Start, ↓reduceIte, v, i1, i2, nw, lo, Nat.reduceAdd, Nat.reduceSub]
    · rw [if_neg c2]
      rw [decide_eq_false (show ¬ (0 ≤ t ∧ t ≤ 2147483648) from c2)] at i2
      obtain ⟨places, roads⟩ := m
      simp only at *
      simp (disch := omega) only [go_sem, K.places_Start, ↓reduceIte, v, i1, i2, Nat.reduceAdd, Nat.reduceSub]
      rfl

theorem given25_ok {m : Mine} (h : m.ok) (w : Wh) (hl : w.frm.length ≤ 1000000) (places : List Int) (hp : places.length ≤ 1000000) (a b : Int) :
    CALL 0 N.places_given [.t m.e, .t w.e, .t (tL places), I a, I b] [] = some (I (askedF m w places a b), []) := by
  refine CALL_of K.t_places_given rfl ?_
  have np := h.np
  have v := pvalid_ok h w hl
  have s := rising_ok places 0 (m.places.length - 1) (by omega)
  rw [ris_set] at s
  have i1 := in_ok a 0 2147483648
  have i2 := in_ok b 0 2147483648
  have e0 : (places ≠ []) ↔ (places.length : Int) ≠ 0 := by rw [ne_eq, ← List.length_eq_zero_iff]; omega
  unfold askedF
  cases hv : validB m w with
  | false =>
    rw [hv] at v
    rw [if_neg (by simp)]
    obtain ⟨pl, roads⟩ := m
    obtain ⟨time, frm⟩ := w
    simp only at *
    simp (disch := omega) only [go_sem, K.places_given, ↓reduceIte, v, Nat.reduceAdd, Nat.reduceSub]
  | true =>
    rw [hv] at v
    by_cases c0 : (places.length : Int) = 0
    · rw [if_neg (fun h => e0.1 h.2.1 c0)]
      obtain ⟨pl, roads⟩ := m
      obtain ⟨time, frm⟩ := w
      simp only at *
      simp (disch := omega) only [go_sem, K.places_given, ↓reduceIte, v, c0, Nat.reduceAdd, Nat.reduceSub]
    · cases hs : setB places m.places.length with
      | false =>
        rw [hs] at s
        rw [if_neg (by simp)]
        obtain ⟨pl, roads⟩ := m
        obtain ⟨time, frm⟩ := w
        simp only at *
        simp (disch := omega) only [go_sem, K.places_given, ↓reduceIte, v, s, c0, Nat.reduceAdd, Nat.reduceSub]
      | true =>
        rw [hs] at s
        rw [if_pos ⟨rfl, e0.2 c0, rfl⟩]
        obtain ⟨pl, roads⟩ := m
        obtain ⟨time, frm⟩ := w
        simp only at *
        by_cases c1 : inT a
        · rw [decide_eq_true (show 0 ≤ a ∧ a ≤ 2147483648 from c1)] at i1
          by_cases c2 : inT b
          · rw [decide_eq_true (show 0 ≤ b ∧ b ≤ 2147483648 from c2)] at i2
            by_cases c3 : a ≤ b
            · rw [if_pos ⟨c1, c2, c3⟩]
              simp (disch := omega) only [go_sem, K.places_given, ↓reduceIte, v, s, c0, i1, i2, c3, Nat.reduceAdd, Nat.reduceSub]
            · rw [if_neg (fun h => c3 h.2.2)]
              simp (disch := omega) only [go_sem, K.places_given, ↓reduceIte, v, s, c0, i1, i2, c3, Nat.reduceAdd, Nat.reduceSub]
          · rw [decide_eq_false (show ¬ (0 ≤ b ∧ b ≤ 2147483648) from c2)] at i2
            rw [if_neg (fun h => c2 h.2.1)]
            simp (disch := omega) only [go_sem, K.places_given, ↓reduceIte, v, s, c0, i1, i2, Nat.reduceAdd, Nat.reduceSub]
        · rw [decide_eq_false (show ¬ (0 ≤ a ∧ a ≤ 2147483648) from c1)] at i1
          rw [if_neg (fun h => c1 h.1)]
          simp (disch := omega) only [go_sem, K.places_given, ↓reduceIte, v, s, c0, i1, Nat.reduceAdd, Nat.reduceSub]
def renewF (m : Mine) (w : Wh) (t : Int) : Wh × Int := if plainB w m.places.length = false then (w, 6) else if t < w.time ∨ 2147483648 < t then (w, 8) else (⟨t, closeF m t none w.frm⟩, 0)
end Go.Ev

/- The program: sights, absences, joins of whereabouts. -/
namespace Go.Ev
open Go
variable [Lib] [Has1] [Has2] [Has3] [Has4] [Has6] [Has7] [Has8] [Has9]

theorem psee_ok {m : Mine} (h : m.ok) (h1 : 1 ≤ m.places.length) (w : Wh) (hl : w.frm.length ≤ 1000000) (l : List Int) (hp : l.length ≤ 1000000) (a b : Int) :
    CALL 0 N.places_See [.t m.e, .t w.e, .t (tL l), I a, I b] [] = some (.tup [.t (seeF m w l a b).1.e, I (seeF m w l a b).2], []) := by
  refine CALL_of K.t_places_See rfl ?_
  have np := h.np
  have g := given25_ok h w hl l hp a b
  have nw := nowhere1_ok h h1
  unfold seeF
  by_cases c0 : askedF m w l a b = 0
  · rw [if_neg (by simpa using c0)]
    rw [c0] at g
    obtain ⟨hv, h0, hs, ia, ib, hab⟩ := askedF_0 c0
    obtain ⟨v1, v2, v3, -⟩ := validB_spec hv
    by_cases c1 : a < w.time
    · rw [if_pos c1]
      obtain ⟨places, roads⟩ := m
      obtain ⟨time, frm⟩ := w
      simp only at *
      simp (disch := omega) only [go_sem, K.places_See, ↓reduceIte, g, c1, Nat.reduceAdd, Nat.reduceSub]
    · rw [if_neg c1]
      have hb : bnd w.frm := fun x hx => plT_bnd (v3 x hx)
      have lm := fun {j : Nat} (hj : j < l.length) => setB_nth hs hj
      have sl := seeN_len w l b m.places.length
      have sb := seeN_bnd (n := m.places.length) hb l b (fun p hp => by
        obtain ⟨j, hj⟩ := List.mem_iff_getElem?.1 hp
        have := lm (List.getElem?_eq_some_iff.1 hj).1
        rw [nth_eq hj] at this
        omega) l.length (Nat.le_refl _)
      have loop : ∀ z0 z1 z2 z8 z9 z12 : D, exS CALL K.places_See_l1 ⟨[z0, z1, z2, I a, I b, .bp 0 0, .bp 1 0, .bp 2 0, z8, z9, .ref 3 0 m.places.length, B false, z12, .t (tL l), I l.length, I 0], [.box (mineCells m), .box [I w.time, .t (tL w.frm)], .box [I 0, .nil], arr1 (neverL m.places.length)]⟩ =
          some (.exit 0, ⟨[.und, .und, .und, I a, I b, .bp 0 0, .bp 1 0, .bp 2 0, .und, .und, .ref 3 0 m.places.length, B (seeN w l b m.places.length l.length).2, .und, .t (tL l), I l.length, I l.length], [.box (mineCells m), .box [I w.time, .t (tL w.frm)], .box [I 0, .nil], arr1 (seeN w l b m.places.length l.length).1]⟩) := by
        intro z0 z1 z2 z8 z9 z12
        refine loop_up (fun j => ⟨[.und, .und, .und, I a, I b, .bp 0 0, .bp 1 0, .bp 2 0, .und, .und, .ref 3 0 m.places.length, B (seeN w l b m.places.length j).2, .und, .t (tL l), I l.length, I j], [.box (mineCells m), .box [I w.time, .t (tL w.frm)], .box [I 0, .nil], arr1 (seeN w l b m.places.length j).1]⟩) l.length rfl ?_ ?_ (by simp)
        · intro j hj
          have lj := sl j
          have nj := lm hj
          simp only [seeN, seeStep]
          generalize seeN w l b m.places.length j = r at *
          obtain ⟨r1, r2⟩ := r
          obtain ⟨places, roads⟩ := m
          obtain ⟨time, frm⟩ := w
          simp only [mineCells] at *
          by_cases c : nth frm (nth l j).toNat ≤ b
          · simp (disch := omega) only [go_sem, K.places_See_l1b, ↓reduceIte, c, Nat.reduceAdd, Nat.reduceSub]
          · simp (disch := omega) only [go_sem, K.places_See_l1b, ↓reduceIte, c, Nat.reduceAdd, Nat.reduceSub]
        · obtain ⟨places, roads⟩ := m
          obtain ⟨time, frm⟩ := w
          simp only [mineCells] at *
          simp (disch := omega) only [go_sem, K.places_See_l1b, ↓reduceIte, Nat.reduceAdd, Nat.reduceSub]
      have sl := sl l.length
      have lo := (lowered_ok h a (by unfold inT at ia; omega) (by unfold inT at ia; omega) (seeN w l b m.places.length l.length).1 sl sb).1
      clear sb lm hb v3
      cases c2 : (seeN w l b m.places.length l.length).2 with
      | false =>
        rw [if_neg (by simp)]
        rw [c2] at loop
        generalize (seeN w l b m.places.length l.length).1 = r at *
        generalize neverL m.places.length = ne at *
        obtain ⟨places, roads⟩ := m
        obtain ⟨time, frm⟩ := w
        simp only [mineCells] at *
        simp (disch := omega) only [go_sem, K.places_See, ↓reduceIte, g, c1, nw, loop, Nat.reduceAdd, Nat.reduceSub]
      | true =>
        rw [if_pos rfl]
        rw [c2] at loop
        generalize closeF m a none (seeN w l b m.places.length l.length).1 = cl at *
        generalize (seeN w l b m.places.length l.length).1 = r at *
        generalize neverL m.places.length = ne at *
        obtain ⟨places, roads⟩ := m
        obtain ⟨time, frm⟩ := w
        simp only [mineCells] at *
        simp (disch := omega) only [go_sem, K.places_See, ↓reduceIte, g, c1, nw, loop, lo, sl, Nat.reduceAdd, Nat.reduceSub]
  · rw [if_pos c0]
    generalize askedF m w l a b = q at *
    obtain ⟨places, roads⟩ := m
    obtain ⟨time, frm⟩ := w
    simp only at *
    simp (disch := omega) only [go_sem, K.places_See, ↓reduceIte, g, c0, Nat.reduceAdd, Nat.reduceSub]

theorem pabs_ok {m : Mine} (h : m.ok) (w : Wh) (hl : w.frm.length ≤ 1000000) (l : List Int) (hp : l.length ≤ 1000000) (a b bl : Int) :
    CALL 0 N.places_Absent [.t m.e, .t w.e, .t (tL l), I a, I b, I bl] [] = some (.tup [.t (absF m w l a b bl).1.e, I (absF m w l a b bl).2], []) := by
  refine CALL_of K.t_places_Absent rfl ?_
  have np := h.np
  have g := given25_ok h w hl l hp a b
  have ib := in_ok bl 0 2147483648
  unfold absF
  by_cases c0 : askedF m w l a b = 0
  · rw [if_neg (by simpa using c0)]
    rw [c0] at g
    obtain ⟨hv, h0, hs, ia, ibb, hab⟩ := askedF_0 c0
    obtain ⟨v1, v2, v3, -⟩ := validB_spec hv
    unfold inT at v2 ia ibb
    by_cases c1 : inT bl
    · rw [if_neg (fun x => x c1)]
      rw [decide_eq_true (show 0 ≤ bl ∧ bl ≤ 2147483648 from c1)] at ib
      unfold inT at c1
      by_cases c2 : b < w.time
      · rw [if_pos c2]
        obtain ⟨places, roads⟩ := m
        obtain ⟨time, frm⟩ := w
        simp only at *
        simp (disch := omega) only [go_sem, K.places_Absent, ↓reduceIte, g, ib, c2, Nat.reduceAdd, Nat.reduceSub]
      · rw [if_neg c2]
        by_cases c3 : b - max a w.time ≤ bl
        · rw [if_pos c3]
          obtain ⟨places, roads⟩ := m
          obtain ⟨time, frm⟩ := w
          simp only at *
          simp (disch := omega) only [go_sem, K.places_Absent, ↓reduceIte, g, ib, c2, c3, Nat.reduceAdd, Nat.reduceSub]
        · rw [if_neg c3]
          have hb : bnd w.frm := fun x hx => plT_bnd (v3 x hx)
          have lm := fun {j : Nat} (hj : j < l.length) => setB_nth hs hj
          have ll := setB_len (n := m.places.length) hs
          have al := absN_len w.frm l
          have ab := absN_bnd hb l l.length
          have cl := clone1_ok w.frm hl
          have ht : inT (b - bl) := by unfold inT; omega
          have lo1 := (lowered_ok h (b - bl) ht.1 (by unfold inT at ht; omega) (absN w.frm l l.length) (by rw [al]; exact v1) ab).2 l (by omega)
          have hin : ∀ s, some l = some s → s ≠ [] ∧ s.length ≤ 64 := by intro s h; cases h; exact ⟨h0, by omega⟩
          have c1l := closeF_len h (b - bl) ht (some l) hin (l := absN w.frm l l.length) (by rw [al]; exact v1) ab
          have c1b := closeF_bnd h (b - bl) ht (some l) hin (l := absN w.frm l l.length) (by rw [al]; exact v1) ab
          have lo2 := (lowered_ok h b ibb.1 (by omega) _ c1l c1b).1
          have loop : ∀ z0 z1 z2 z3 z7 z10 z11 z13 : D, exS CALL K.places_Absent_l1 ⟨[z0, z1, z2, z3, I b, I bl, .bp 0 0, z7, .bp 2 0, .bp 3 0, z10, z11, .ref 4 0 w.frm.length, z13, .t (tL l), I l.length, I 0], [.box (mineCells m), .box [I w.time, .t (tL w.frm)], .box [.t (tL l)], .box [I 0, .nil], arr1 w.frm]⟩ =
              some (.exit 1, ⟨[.und, .und, .und, .und, I b, I bl, .bp 0 0, .und, .bp 2 0, .bp 3 0, .und, .und, .ref 4 0 w.frm.length, .und, .t (tL l), I l.length, I l.length], [.box (mineCells m), .box [I w.time, .t (tL w.frm)], .box [.t (tL l)], .box [I 0, .nil], arr1 (absN w.frm l l.length)]⟩) := by
            intro z0 z1 z2 z3 z7 z10 z11 z13
            refine loop_up (fun j => ⟨[.und, .und, .und, .und, I b, I bl, .bp 0 0, .und, .bp 2 0, .bp 3 0, .und, .und, .ref 4 0 w.frm.length, .und, .t (tL l), I l.length, I j], [.box (mineCells m), .box [I w.time, .t (tL w.frm)], .box [.t (tL l)], .box [I 0, .nil], arr1 (absN w.frm l j)]⟩) l.length rfl ?_ ?_ (by simp)
            · intro j hj
              have lj := al j
              have nj := lm hj
              simp only [absN]
              generalize absN w.frm l j = r at *
              obtain ⟨places, roads⟩ := m
              obtain ⟨time, frm⟩ := w
              simp only [mineCells] at *
              simp (disch := omega) only [go_sem, K.places_Absent_l1b, ↓reduceIte, Nat.reduceAdd, Nat.reduceSub]
            · obtain ⟨places, roads⟩ := m
              obtain ⟨time, frm⟩ := w
              simp only [mineCells] at *
              simp (disch := omega) only [go_sem, K.places_Absent_l1b, ↓reduceIte, Nat.reduceAdd, Nat.reduceSub]
          have al := al l.length
          clear ab lm hb v3 hin c1b
          generalize closeF m b none (closeF m (b - bl) (some l) (absN w.frm l l.length)) = r3 at *
          generalize closeF m (b - bl) (some l) (absN w.frm l l.length) = r2 at *
          generalize absN w.frm l l.length = r1 at *
          obtain ⟨places, roads⟩ := m
          obtain ⟨time, frm⟩ := w
          simp only [mineCells] at *
          have e2 : r2.length = frm.length := by omega
          simp (disch := omega) only [go_sem, K.places_Absent, ↓reduceIte, g, ib, c2, c3, cl, loop, lo1, lo2, al, e2, Nat.reduceAdd, Nat.reduceSub]
    · rw [if_pos c1]
      rw [decide_eq_false (show ¬ (0 ≤ bl ∧ bl ≤ 2147483648) from c1)] at ib
      obtain ⟨places, roads⟩ := m
      obtain ⟨time, frm⟩ := w
      simp only at *
      simp (disch := omega) only [go_sem, K.places_Absent, ↓reduceIte, g, ib, Nat.reduceAdd, Nat.reduceSub]
  · rw [if_pos c0]
    generalize askedF m w l a b = q at *
    obtain ⟨places, roads⟩ := m
    obtain ⟨time, frm⟩ := w
    simp only at *
    simp (disch := omega) only [go_sem, K.places_Absent, ↓reduceIte, g, c0, Nat.reduceAdd, Nat.reduceSub]
end Go.Ev

/- Chapter 26 of the references: who bears a tag; possible places; meetings. -/
namespace Go.Ev
open Go
variable [Lib] [Has1] [Has2]

def borneF (m : Mine) (b : Bel) (tag : Int) : Int := if belB m b = false then 6 else if bearerF (nth b.worlds 0).tags tag < 0 then 41 else 0

def meetB (a b : Wh) (t : Int) : Bool := (List.range (min a.frm.length b.frm.length)).any fun p => decide (nth a.frm p ≤ t ∧ nth b.frm p ≤ t)

def mayB (b : Bel) (person t : Int) (p : Nat) : Bool := (List.range b.worlds.length).any fun i => decide (0 ≤ person ∧ person < (nth b.worlds i).whr.length) && decide ((p : Int) ∈ possF (nth (nth b.worlds i).whr person.toNat) t)
def possB (b : Bel) (person t : Int) : List Int := whereF 64 (mayB b person t)

end Go.Ev

/- Chapter 26 of the references: starts. -/
namespace Go.Ev
open Go
variable [Lib] [Has1] [Has2]

def startWs (m : Mine) (starts : List Int) (t : Int) (j : Nat) : List Wh := (List.range j).map fun i => (startF m (nth starts i) t).1
@[simp] theorem startWs_len (m : Mine) (starts : List Int) (t : Int) (j : Nat) : (startWs m starts t j).length = j := by simp [startWs]

def startBel (m : Mine) (tags starts : List Int) (t : Int) : Bel × Int :=
  if tags.length = starts.length ∧ 1 ≤ tags.length ∧ tags.length ≤ 12 then
    if properB tags = true then match (List.range tags.length).find? (fun i => !decide ((startF m (nth starts i) t).2 = 0)) with
      | some i => (⟨[]⟩, (startF m (nth starts i) t).2)
      | none => (⟨[⟨tags, startWs m starts t tags.length⟩]⟩, 0)
    else (⟨[]⟩, 41)
  else (⟨[]⟩, 6)

abbrev stH (m : Mine) (tags : List Int) (r : D) (ws : List Wh) : Heap := [.box (mineCells m), .box [r], .arr 1 false 0 ((tags.map (T.int .i64)).map .t), .box [.ref 2 0 tags.length, .ref 5 0 ws.length], .arr 2 false 0 [], .arr 2 false 0 ((ws.map Wh.e).map .t)]

end Go.Ev

/- Chapter 26 of the references: sights. -/
namespace Go.Ev
open Go
variable [Lib] [Has1] [Has2]

@[go_sem] theorem allS_nil : ([] : List D).all scalarD = true := (rfl)
@[go_sem] theorem allS_cons (d : D) (r : List D) : (d :: r).all scalarD = (scalarD d && r.all scalarD) := (rfl)
@[go_sem] theorem scalarD_agg (cs : List T) : scalarD (.t (.agg cs)) = false := (rfl)
@[go_sem] theorem scalarD_sl (cs : List T) : scalarD (.t (.sl cs)) = false := (rfl)
@[go_sem] theorem scalarD_int (k : IntKind) (n : Int) : scalarD (.t (.int k n)) = true := (rfl)
@[go_sem] theorem scalarD_bool (b : Bool) : scalarD (.t (.bool b)) = true := (rfl)
@[go_sem] theorem set_wh (l : List Wh) (k : Nat) (a : Int) (b : List Int) : (List.map D.t (List.map Wh.e l)).set k (D.t (T.agg [tI a, tL b])) = List.map D.t (List.map Wh.e (l.set k ⟨a, b⟩)) := by
  rw [List.map_set, List.map_set]

/-- What a sight makes of one world: whether it is left out, and the new one. -/
def seeW (m : Mine) (tag : Int) (l : List Int) (a b : Int) (x : World) : Wh × Int := seeF m (nth x.whr (bearerF x.tags tag).toNat) l a b
def putW (tag : Int) (x : World) (w : Wh) : World := ⟨x.tags, x.whr.set (bearerF x.tags tag).toNat w⟩
def stepW (tag : Int) (r : Wh × Int) (x : World) (out : List World) : List World :=
  if r.2 = 43 then out else out ++ [if r.2 = 0 then putW tag x r.1 else x]
def seeNb (m : Mine) (tag : Int) (l : List Int) (a b : Int) (ws : List World) : Nat → List World
  | 0 => []
  | j + 1 => stepW tag (seeW m tag l a b (nth ws j)) (nth ws j) (seeNb m tag l a b ws j)

abbrev seeH (m : Mine) (ws out : List World) : Heap := [.box (mineCells m), .box [.t (.sl (ws.map World.e))], .box [.nil], .box [.ref 4 0 out.length], .arr 2 false 0 ((out.map World.e).map .t)]

def seeBad (m : Mine) (tag : Int) (l : List Int) (a b : Int) (ws : List World) (j : Nat) : Bool := decide ((seeW m tag l a b (nth ws j)).2 = 6 ∨ (seeW m tag l a b (nth ws j)).2 = 8)
def seeBel (m : Mine) (b : Bel) (tag : Int) (l : List Int) (a c : Int) : Bel × Int :=
  if borneF m b tag ≠ 0 then (b, borneF m b tag) else match (List.range b.worlds.length).find? (seeBad m tag l a c b.worlds) with
    | some i => (b, (seeW m tag l a c (nth b.worlds i)).2)
    | none => if (seeNb m tag l a c b.worlds b.worlds.length).length = 0 then (b, 43) else (⟨seeNb m tag l a c b.worlds b.worlds.length⟩, 0)

end Go.Ev

/- Chapter 26 of the references: absences. -/
namespace Go.Ev
open Go
variable [Lib] [Has1] [Has2]

def absW (m : Mine) (tag : Int) (l : List Int) (a b bl : Int) (x : World) : Wh × Int := absF m (nth x.whr (bearerF x.tags tag).toNat) l a b bl
def stepA (tag : Int) (r : Wh × Int) (x : World) (out : List World) : List World := out ++ [if r.2 = 0 then putW tag x r.1 else x]
def absNb (m : Mine) (tag : Int) (l : List Int) (a b bl : Int) (ws : List World) : Nat → List World
  | 0 => []
  | j + 1 => stepA tag (absW m tag l a b bl (nth ws j)) (nth ws j) (absNb m tag l a b bl ws j)
def absBad (m : Mine) (tag : Int) (l : List Int) (a b bl : Int) (ws : List World) (j : Nat) : Bool := decide ((absW m tag l a b bl (nth ws j)).2 = 6 ∨ (absW m tag l a b bl (nth ws j)).2 = 8)
def absBel (m : Mine) (b : Bel) (tag : Int) (l : List Int) (a c bl : Int) : Bel × Int :=
  if borneF m b tag ≠ 0 then (b, borneF m b tag) else match (List.range b.worlds.length).find? (absBad m tag l a c bl b.worlds) with
    | some i => (b, (absW m tag l a c bl (nth b.worlds i)).2)
    | none => (⟨absNb m tag l a c bl b.worlds b.worlds.length⟩, 0)

end Go.Ev

/- Chapter 26 of the references: worlds are tidied. -/
namespace Go.Ev
open Go
variable [Lib] [Has1] [Has2]

abbrev ints (l : List Int) : List D := (l.map (T.int .i64)).map .t
abbrev whs (l : List Wh) : List D := (l.map Wh.e).map .t

/-- Where a world belongs in an ordered list. -/
def tidyK (out : List World) (x : World) : Nat := match (List.range out.length).find? (fun k => !lessB (nth out k).tags x.tags) with
  | some k => k
  | none => out.length
def joinN (a b : List Wh) : Nat → List Wh
  | 0 => a
  | p + 1 => (joinN a b p).set p (joinF (nth a p) (nth b p)).1
def joinWs (a b : List Wh) : List Wh := joinN a b (min a.length b.length)
def tidy1 (out : List World) (x : World) : List World :=
  if tidyK out x < out.length ∧ (nth out (tidyK out x)).tags = x.tags then out.set (tidyK out x) ⟨x.tags, joinWs (nth out (tidyK out x)).whr x.whr⟩
  else out.take (tidyK out x) ++ [x] ++ out.drop (tidyK out x)
def tidyN (l : List World) : Nat → List World
  | 0 => []
  | j + 1 => tidy1 (tidyN l j) (nth l j)
def tidyF (l : List World) : List World := tidyN l l.length

/-- A list of worlds in a heap: an array of pairs of arrays. -/
structure Rp (H : Heap) (id : Nat) (es : List D) (fa fb : Nat → Nat) (out : List World) : Prop where
  arr : H[id]? = some (.arr 2 false 0 es)
  len : es.length = out.length
  el : ∀ j, j < out.length → es[j]? = some (.agg [.ref (fa j) 0 (nth out j).tags.length, .ref (fb j) 0 (nth out j).whr.length])
  ha : ∀ j, j < out.length → H[fa j]? = some (.arr 1 false 0 (ints (nth out j).tags))
  hb : ∀ j, j < out.length → H[fb j]? = some (.arr 2 false 0 (whs (nth out j).whr))
  na : ∀ j, j < out.length → fa j ≠ id
  nb : ∀ j, j < out.length → fb j ≠ id
  nab : ∀ i j, i < out.length → j < out.length → fa i ≠ fb j
  nbb : ∀ i j, i < out.length → j < out.length → i ≠ j → fb i ≠ fb j

def Rep (H : Heap) (v : D) (out : List World) : Prop := (v = .nil ∧ out = []) ∨ ∃ id es fa fb, v = .ref id 0 out.length ∧ 0 < out.length ∧ Rp H id es fa fb out

@[go_sem] theorem joinT_eq (a b : Wh) : (joinF a b).1.e = .agg [tI (joinF a b).1.time, tL (joinF a b).1.frm] := rfl

theorem Rp.size {H : Heap} {id : Nat} {es : List D} {fa fb : Nat → Nat} {out : List World} (hr : Rp H id es fa fb out) : ∀ e ∈ es, e.cells.length = 2 := by
  intro e he
  obtain ⟨j, hj⟩ := List.mem_iff_getElem?.1 he
  have hl := (List.getElem?_eq_some_iff.1 hj).1
  rw [hr.el j (by rw [← hr.len]; exact hl)] at hj
  cases hj; rfl

theorem set_nth {α : Type} [Dat α] (l : List α) (k : Nat) (hk : k < l.length) (x : α) (j : Nat) : nth (l.set k x) j = if j = k then x else nth l j := by
  unfold nth
  rw [List.getD_eq_getElem?_getD]
  by_cases h : j = k
  · rw [if_pos h, h, List.getElem?_set_self hk]; rfl
  · rw [if_neg h, List.getElem?_set_ne (fun e => h e.symm), List.getD_eq_getElem?_getD]

theorem Rp.merge {H : Heap} {id : Nat} {es : List D} {fa fb : Nat → Nat} {out : List World} (hr : Rp H id es fa fb out) {k : Nat} (hk : k < out.length) (x : World) (ht : (nth out k).tags = x.tags) (hw : x.whr.length = (nth out k).whr.length) :
    Rp (H.set (fb k) (.arr 2 false 0 (whs x.whr))) id es fa fb (out.set k x) := by
  have ol : (out.set k x).length = out.length := List.length_set
  have nk := hr.nb k hk
  have kl := hp_lt (hr.hb k hk)
  refine ⟨by rw [hp_set_ne nk]; exact hr.arr, by rw [ol]; exact hr.len, ?_, ?_, ?_, by rw [ol]; exact hr.na, by rw [ol]; exact hr.nb, by rw [ol]; exact hr.nab, by rw [ol]; exact hr.nbb⟩
  · intro j hj
    rw [ol] at hj
    rw [hr.el j hj, set_nth out k hk]
    by_cases h : j = k
    · rw [if_pos h, h, ht, hw]
    · rw [if_neg h]
  · intro j hj
    rw [ol] at hj
    rw [hp_set_ne (fun e => hr.nab j k hj hk e.symm), hr.ha j hj, set_nth out k hk]
    by_cases h : j = k
    · rw [if_pos h, h, ht]
    · rw [if_neg h]
  · intro j hj
    rw [ol] at hj
    rw [set_nth out k hk]
    by_cases h : j = k
    · rw [if_pos h, h, hp_set_get kl]
    · rw [if_neg h, hp_set_ne (fun e => hr.nbb j k hj hk h e.symm)]; exact hr.hb j hj

theorem Rp.frz {H : Heap} {id : Nat} {es : List D} {fa fb : Nat → Nat} {out : List World} (hr : Rp H id es fa fb out) :
    mapO (frz H 8) es = some (out.map World.e) ∧ ∀ i ∈ es.flatMap (arrs H 8), i ≠ id := by
  have hl := hr.len
  have key : ∀ (j : Nat) (hj : j < out.length), Go.Ev.frz H 8 (.agg [.ref (fa j) 0 (nth out j).tags.length, .ref (fb j) 0 (nth out j).whr.length]) = some (nth out j).e ∧
      arrs H 8 (.agg [.ref (fa j) 0 (nth out j).tags.length, .ref (fb j) 0 (nth out j).whr.length]) = [fa j, fb j] := by
    intro j hj
    have h1 := hr.ha j hj
    have h2 := hr.hb j hj
    simp (disch := omega) only [go_sem, h1, h2, ints, whs, ↓reduceIte]
  constructor
  · have : ∀ (es : List D) (ts : List T), es.length = ts.length → (∀ (j : Nat) e t, es[j]? = some e → ts[j]? = some t → Go.Ev.frz H 8 e = some t) → mapO (Go.Ev.frz H 8) es = some ts := by
      intro es
      induction es with
      | nil => intro ts h _; cases ts with
        | nil => rfl
        | cons => simp at h
      | cons e es ih =>
        intro ts h hh
        cases ts with
        | nil => simp at h
        | cons t ts =>
          have h1 := hh 0 e t rfl rfl
          have h2 := ih ts (by simpa using h) fun j e t he ht => hh (j + 1) e t (by simpa using he) (by simpa using ht)
          simp only [mapO, h1, Option.bind_some, h2, Option.map_some]
    refine this es _ (by rw [List.length_map, hl]) fun j e t he ht => ?_
    have hj : j < out.length := by rw [← hl]; exact (List.getElem?_eq_some_iff.1 he).1
    rw [hr.el j hj] at he
    rw [map_nth _ hj] at ht
    cases he; cases ht
    exact (key j hj).1
  · intro i hi
    obtain ⟨e, he, hi⟩ := List.mem_flatMap.1 hi
    obtain ⟨j, hj⟩ := List.mem_iff_getElem?.1 he
    have hjl : j < out.length := by rw [← hl]; exact (List.getElem?_eq_some_iff.1 hj).1
    rw [hr.el j hjl] at hj
    cases hj
    rw [(key j hjl).2] at hi
    simp only [List.mem_cons, List.not_mem_nil, or_false] at hi
    rcases hi with rfl | rfl
    · exact hr.na j hjl
    · exact hr.nb j hjl

end Go.Ev

/- Chapter 26 of the references: exchanges. -/
namespace Go.Ev
open Go
variable [Lib] [Has1] [Has2]

@[go_sem] theorem map2_nth_set {α β γ : Type} [Dat α] (f : β → γ) (g : α → β) {l : List α} {i j : Nat} {x : α} (h : j < l.length) : (((l.set i x).map g).map f)[j]? = some (f (g (nth (l.set i x) j))) := map2_nth f g (by rw [List.length_set]; exact h)

def swapL (l : List Int) (i j : Nat) : List Int := (l.set i (nth l j)).set j (nth l i)
def exchW (i j : Nat) (t : Int) (x : World) : World := ⟨swapL x.tags i j, (x.whr.set i (raiseF (nth x.whr i) t).1).set j (raiseF (nth x.whr j) t).1⟩
def exchS (i j : Nat) (t : Int) (x : World) (out : List World) : List World := if meetB (nth x.whr i) (nth x.whr j) t = true then out ++ [exchW i j t x] else out
def exchNb (i j : Nat) (t : Int) (ws : List World) : Nat → List World
  | 0 => ws
  | k + 1 => exchS i j t (nth ws k) (exchNb i j t ws k)
def exchBel (m : Mine) (b : Bel) (i j t : Int) : Bel × Int :=
  if belB m b = false then (b, 6) else if i < 0 ∨ ((nth b.worlds 0).tags.length : Int) ≤ i ∨ j < 0 ∨ ((nth b.worlds 0).tags.length : Int) ≤ j ∨ i = j then (b, 19)
  else if ¬ inT t then (b, 8) else if 24 < (tidyF (exchNb i.toNat j.toNat t b.worlds b.worlds.length)).length then (b, 44) else (⟨tidyF (exchNb i.toNat j.toNat t b.worlds b.worlds.length)⟩, 0)

abbrev exH (m : Mine) (ws out : List World) : Heap := [.box (mineCells m), .box [.t (.sl (ws.map World.e))], .box [.nil], .arr 2 false 0 ((out.map World.e).map .t)]

end Go.Ev

/- Made inputs: beliefs. -/
namespace Go.Ev
open Go
variable [Lib] [Has1] [Has2]

def tagsN : Nat → List Int
  | 0 => []
  | k + 1 => tagsN k ++ [3 + (k : Int) * 2]
def Dice.nextsN (d : Dice) (n : Int) : Nat → List Int × Dice
  | 0 => ([], d)
  | k + 1 => ((d.nextsN n k).1 ++ [((d.nextsN n k).2.next n).1], ((d.nextsN n k).2.next n).2)
structure BSt where
  b : Bel
  t : Int
  d : Dice

def Dice.belStep (m : Mine) (n : Int) (s : BSt) : BSt :=
  let a := s.d.next 60
  let c := a.2.next 3
  if c.1 = 0 then
    let i := c.2.next n
    let j := i.2.next n
    let r := exchBel m s.b i.1 j.1 (s.t + a.1)
    ⟨if r.2 = 0 then r.1 else s.b, s.t + a.1, j.2⟩
  else if c.1 = 1 then
    let g := c.2.next n
    let l := g.2.someN m.places.length
    let e := l.2.next 9
    let r := seeBel m s.b (3 + 2 * g.1) l.1 (s.t + a.1) (s.t + a.1 + e.1)
    ⟨if r.2 = 0 then r.1 else s.b, s.t + a.1, e.2⟩
  else
    let g := c.2.next n
    let l := g.2.someN m.places.length
    let e := l.2.next 40
    let r := absBel m s.b (3 + 2 * g.1) l.1 (s.t + a.1) (s.t + a.1 + 50) e.1
    ⟨if r.2 = 0 then r.1 else s.b, s.t + a.1, e.2⟩
def Dice.belN (m : Mine) (n : Int) (s : BSt) : Nat → BSt
  | 0 => s
  | k + 1 => Dice.belStep m n (Dice.belN m n s k)

def Dice.belP (d : Dice) : Nat := (1 + (d.next 3).1).toNat
def Dice.belS (d : Dice) (m : Mine) : List Int × Dice := (d.next 3).2.nextsN m.places.length d.belP
def Dice.bel0 (d : Dice) (m : Mine) : BSt := ⟨(startBel m (tagsN d.belP) (d.belS m).1 ((d.belS m).2.next 100).1).1, 100, (((d.belS m).2.next 100).2.next 5).2⟩
def Dice.belK (d : Dice) (m : Mine) : Nat := (((d.belS m).2.next 100).2.next 5).1.toNat
def Dice.belF (d : Dice) (m : Mine) : BSt := Dice.belN m d.belP (d.bel0 m) (d.belK m)
def Dice.belief (d : Dice) (m : Mine) : Bel × Dice := ((d.belF m).b, (d.belF m).d)

/-- What beliefs keep: sizes. -/
structure WOk (m : Mine) (N : Nat) (x : World) : Prop where
  tg : x.tags.length = N
  wh : x.whr.length = N
  fr : ∀ w ∈ x.whr, w.frm.length = m.places.length
  ti : ∀ w ∈ x.whr, inT w.time
structure BOk (m : Mine) (N : Nat) (b : Bel) : Prop where
  w1 : 1 ≤ b.worlds.length
  w2 : b.worlds.length ≤ 24
  n1 : 1 ≤ N
  n2 : N ≤ 12
  ws : ∀ x ∈ b.worlds, WOk m N x

theorem WOk.sz {m : Mine} {N : Nat} {x : World} (h : WOk m N x) (hm : m.ok) (hn : N ≤ 12) : x.sz := by
  have np := hm.np
  obtain ⟨t1, t2, t3, -⟩ := h
  exact ⟨by omega, by omega, fun w hw => by rw [t3 w hw]; omega⟩
theorem BOk.sz {m : Mine} {N : Nat} {b : Bel} (h : BOk m N b) (hm : m.ok) : b.sz :=
  ⟨by have := h.w2; omega, fun x hx => (h.ws x hx).sz hm h.n2⟩

abbrev blH (m : Mine) (p1 p2 : Bool) (tags starts : List Int) (s : BSt) : Heap := [s.d.obj, .box (mineCells m), .box [.nil], .arr 1 p1 0 (ints tags), .arr 1 p2 0 (ints starts), .box [.t (.sl (s.b.worlds.map World.e))]]

end Go.Ev

/- Made inputs: beliefs and smoke, by the code. -/
namespace Go.Ev
open Go
variable [Lib] [Has1] [Has2]

end Go.Ev

/- Made inputs: smoke that spreads; machines. -/
namespace Go.Ev
open Go
variable [Lib] [Has1] [Has2]

def Dice.spread (d : Dice) (m : Mine) (fl : List Spn) : Wh × Dice :=
  let p := d.next m.places.length
  let t := p.2.next 200
  let s := startS m fl [p.1] t.1
  let o := t.2.one 2
  if o.1 = true then
    let f := o.2.flows m
    let a := f.2.next 100
    let r := changeS m fl m f.1 s.1 (s.1.time + a.1)
    if r.2 = 0 then (r.1, a.2) else (s.1, a.2)
  else (s.1, o.2)

/-- Machines. -/
structure Mch where
  kind : Int
  num : Int
  pl : List Int
instance : Dat Mch := ⟨⟨0, 0, []⟩⟩
abbrev Mch.e (x : Mch) : T := .agg [tI x.kind, tI x.num, tL x.pl]
@[go_sem] theorem appOK_mch (l : List Mch) : appOK 3 (l.map Mch.e) = true := by cases l <;> rfl

def Dice.mch (d : Dice) (n : Nat) : Mch × Dice :=
  let a := d.next 2
  let b := a.2.next 5
  let l := b.2.someN n
  if l.1.length = 0 then (⟨1 + a.1, b.1, [(l.2.next n).1]⟩, (l.2.next n).2) else (⟨1 + a.1, b.1, l.1⟩, l.2)
def Dice.mchN (d : Dice) (n : Nat) : Nat → List Mch × Dice
  | 0 => ([], d)
  | k + 1 => ((d.mchN n k).1 ++ [((d.mchN n k).2.mch n).1], ((d.mchN n k).2.mch n).2)
def Dice.mchs (d : Dice) (n : Nat) : List Mch × Dice := (d.next 4).2.mchN n (d.next 4).1.toNat

end Go.Ev

/- The program: possible places of persons; places with smoke; the fire rules. -/
namespace Go.Ev
open Go
variable [Lib] [Has1] [Has2]

def mayW (person t : Int) (p : Nat) (x : World) : Bool := decide (0 ≤ person ∧ person < x.whr.length) && (decide (p < (nth x.whr person.toNat).frm.length) && decide (nth (nth x.whr person.toNat).frm p ≤ t))

def meetsB (a b : List Int) : Bool := a.any fun p => decide (p ∈ b)
def nearF (x : Mch) (b : Bel) (t : Int) : List Int := if b.worlds.length = 0 then [] else whereF (nth b.worlds 0).whr.length fun i => meetsB (possB b i t) x.pl
def cmdF (x : Mch) (s : Wh) (b : Bel) (t ahead : Int) : Int :=
  if meetsB (possF s t) x.pl = true then 2 else if meetsB (possF s (t + ahead)) x.pl = true then 1
  else if x.kind = 2 ∧ (possF s (t + ahead)).length ≠ 0 ∧ (nearF x b (t + ahead)).length ≠ 0 then 3 else 0

def drawnF (x : Mch) (s : Wh) (b : Bel) (t ahead : Int) : List Int := if cmdF x s b t ahead = 2 ∨ cmdF x s b t ahead = 1 then nearF x b (t + ahead) else []
end Go.Ev

/- FireRulesStay. -/
namespace Go.Ev
open Go
variable [Lib] [Has1] [Has2]

/- plain facts about the commands -/
abbrev stayH (d : Dice) (m : Mine) (s : Wh) (b : Bel) : Heap := [d.obj, .box (mineCells m), .box [I s.time, .t (tL s.frm)], .box [.t (.sl (b.worlds.map World.e))]]

section
variable {m : Mine} (hm : m.ok) {N : Nat} {b : Bel} (hb : BOk m N b) {s : Wh} (hs : s.frm.length = m.places.length) {l : List Mch}
variable (hl : ∀ y ∈ l, y.pl.length ≤ m.places.length ∧ 1 ≤ y.pl.length ∧ ∀ x ∈ y.pl, 0 ≤ x ∧ x < m.places.length) {t a : Int} (t0 : 0 ≤ t) (t1 : t ≤ 10000) (a0 : 0 ≤ a) (a1 : a ≤ 10000) (d : Dice)
include hm hb hs hl t0 t1 a0 a1

omit hm hb t0 t1 a1 in
end

def Dice.skip (d : Dice) (n : Int) : Nat → Dice
  | 0 => d
  | k + 1 => ((d.skip n k).next n).2
end Go.Ev

/- MADE BY PROGRAM (lib.py): the compact code of functions. -/
namespace Go.Ev.K
open Go.Ev
def law27_HeadsMore_l1b : C := (.seq (.ite [{ o := .mv (.v 9) }, { o := .fa (.v 3) 0 }, { o := .ld (.l 0) 1 false }, { o := .ln (.l 0) }, { o := .bin .lss (.l 3) (.l 0) }] [] 0 .skip (.exit 0)) (.seq (.blk 1 (.seq (.reg [{ o := .mv (.v 7) }, { o := .mv (.v 9) }, { o := .bs [.l 0] 1 }, { o := .app (.l 2) (.l 0) true 1 }, { o := .mv (.l 0), d := some 7 }] []) (.ite [{ o := .mv (.v 6) }, { o := .mv (.v 9) }, { o := .ca N.ref23_Has 0 [] [.l 1, .l 0] }, { o := .mv (.l 0) }, { o := .mv (.v 2), g := some (0, false) }, { o := .ca N.made_Dice_One 0 [] [.l 0, .i 2], g := some (1, false) }, { o := .pk (.l 2) (.b true) (.l 0) }] [] 0 (.reg [{ o := .mv (.v 8) }, { o := .mv (.v 9) }, { o := .bs [.l 0] 1 }, { o := .app (.l 2) (.l 0) true 1 }, { o := .mv (.l 0), d := some 8 }] []) .skip))) (.reg [{ o := .mv (.v 9) }, { o := .bin .add (.l 0) (.i 1) }, { o := .mv (.l 0), d := some 9 }] [])))
def law27_HeadsMore_l1 : C := .loop true [0, 1, 10, 11, 12, 13, 14, 15] K.law27_HeadsMore_l1b
def law27_HeadsMore_l3b : C := (.seq (.ite [{ o := .mv (.v 11) }, { o := .fa (.v 4) 0 }, { o := .ld (.l 0) 1 false }, { o := .mv (.v 10) }, { o := .ia (.l 1) (.l 0) 2 }, { o := .fa (.l 0) 1 }, { o := .ld (.l 0) 1 false }, { o := .ln (.l 0) }, { o := .bin .lss (.l 7) (.l 0) }] [] 0 .skip (.exit 4)) (.seq (.blk 5 (.ite [{ o := .fa (.v 4) 0 }, { o := .ld (.l 0) 1 false }, { o := .mv (.v 10) }, { o := .ia (.l 1) (.l 0) 2 }, { o := .fa (.l 0) 1 }, { o := .ld (.l 0) 1 false }, { o := .mv (.v 11) }, { o := .ia (.l 1) (.l 0) 2 }, { o := .ld (.l 0) 2 true }, { o := .mv (.v 5) }, { o := .ca N.ref25_Possible 0 [] [.l 1, .l 0] }, { o := .ln (.l 0) }, { o := .bin .eql (.l 0) (.i 0) }] [] 0 (.seq (.reg [{ o := .ca N.law27_awake 0 [] [] }, { o := .mv (.l 0), d := some 1 }] []) .ret) .skip)) (.reg [{ o := .mv (.v 11) }, { o := .bin .add (.l 0) (.i 1) }, { o := .mv (.l 0), d := some 11 }] [])))
def law27_HeadsMore_l3 : C := .loop true [0, 1, 2, 3, 9, 12, 13, 14, 15] K.law27_HeadsMore_l3b
def law27_HeadsMore_l2b : C := (.seq (.ite [{ o := .mv (.v 10) }, { o := .fa (.v 4) 0 }, { o := .ld (.l 0) 1 false }, { o := .ln (.l 0) }, { o := .bin .lss (.l 3) (.l 0) }] [] 0 .skip (.exit 2)) (.seq (.blk 3 (.seq (.reg [{ o := .mv (.i 0), d := some 11 }] []) (.blk 4 K.law27_HeadsMore_l3))) (.reg [{ o := .mv (.v 10) }, { o := .bin .add (.l 0) (.i 1) }, { o := .mv (.l 0), d := some 10 }] [])))
def law27_HeadsMore_l2 : C := .loop true [0, 1, 2, 3, 9, 11, 12, 13, 14, 15] K.law27_HeadsMore_l2b
/-- /law27.HeadsMore -/
def law27_HeadsMore : Fn := { nargs := 1, vars := [0, 2, 3, 4, 5, 6, 7, 8, 9, 10, 11, 12, 13, 14, 15, 16], body := (.seq (.reg [{ o := .mv (.b false), d := some 1 }] []) (.seq (.ite [{ o := .mv (.v 0) }, { o := .ca N.made_Light 0 [] [.l 0] }, { o := .un .not (.l 0) }] [] 0 (.seq (.reg [{ o := .ca N.law27_awake 0 [] [] }, { o := .mv (.l 0), d := some 1 }] []) .ret) .skip) (.seq (.reg [{ o := .mv (.v 0) }, { o := .ca N.made_Roll 0 [] [.l 0] }, { o := .mv (.l 0), d := some 2 }] []) (.seq (.reg [{ o := .mv (.v 2) }, { o := .ca N.made_Dice_Mine 0 [] [.l 0] }, { o := .al [.nil, .nil] [], d := some 3 }, { o := .st (.l 0) (.l 1) 2 [] }] []) (.seq (.reg [{ o := .mv (.v 2) }, { o := .ld (.v 3) 2 true }, { o := .ca N.made_Dice_Belief 0 [] [.l 1, .l 0] }, { o := .al [.nil] [], d := some 4 }, { o := .st (.l 0) (.l 1) 1 [] }] []) (.seq (.reg [{ o := .ld (.v 4) 1 true }, { o := .ca N.made_Last 0 [] [.l 0] }, { o := .mv (.v 2) }, { o := .ca N.made_Dice_Next 0 [] [.l 0, .i 100] }, { o := .bin .add (.l 2) (.l 0) }, { o := .mv (.l 0), d := some 5 }] []) (.seq (.reg [{ o := .mv (.v 2) }, { o := .fa (.v 3) 0 }, { o := .ld (.l 0) 1 false }, { o := .ln (.l 0) }, { o := .ca N.made_Dice_Some 0 [] [.l 3, .l 0] }, { o := .mv (.l 0), d := some 6 }] []) (.seq (.reg [{ o := .nw 1, d := some 7 }, { o := .nw 1, d := some 8 }] []) (.seq (.seq (.reg [{ o := .mv (.i 0), d := some 9 }] []) (.blk 0 K.law27_HeadsMore_l1)) (.seq (.seq (.reg [{ o := .mv (.i 0), d := some 10 }] []) (.blk 2 K.law27_HeadsMore_l2)) (.seq (.reg [{ o := .al [.t (.int .i64 (0)), .t (.int .i64 (0))] [], d := some 12 }, { o := .al [.t (.int .i64 (0)), .t (.int .i64 (0))] [], d := some 13 }, { o := .al [.t (.int .i64 (0)), .t (.int .i64 (0))] [], d := some 14 }, { o := .ld (.v 4) 1 true }, { o := .mv (.v 6) }, { o := .mv (.v 5) }, { o := .ca N.heads_Count 0 [] [.l 2, .l 1, .l 0] }, { o := .ld (.v 4) 1 true }, { o := .mv (.v 8) }, { o := .mv (.v 5) }, { o := .ca N.heads_Count 0 [] [.l 2, .l 1, .l 0] }, { o := .ld (.v 4) 1 true }, { o := .mv (.v 7) }, { o := .mv (.v 5) }, { o := .ca N.heads_Count 0 [] [.l 2, .l 1, .l 0] }, { o := .st (.l 14) (.l 8) 2 [] }, { o := .st (.l 14) (.l 5) 2 [] }, { o := .st (.l 14) (.l 2) 2 [] }] [(0, 7), (0, 11), (0, 15), (1, 7), (1, 11), (1, 15), (2, 7), (2, 11), (2, 15), (7, 3), (11, 3), (11, 7)]) (.seq (.reg [{ o := .fa (.v 4) 0 }, { o := .ld (.l 0) 1 false }, { o := .ia (.l 0) (.i 0) 2 }, { o := .fa (.l 0) 0 }, { o := .ld (.l 0) 1 false }, { o := .ln (.l 0) }, { o := .mv (.l 0), d := some 15 }] []) (.seq (.reg [{ o := .ca N.law27_awake 0 [] [] }, { o := .mv (.l 0) }, { o := .fa (.v 12) 0, g := some (0, true) }, { o := .ld (.l 0) 1 false, g := some (1, true) }, { o := .fa (.v 13) 0, g := some (2, true) }, { o := .ld (.l 0) 1 false, g := some (3, true) }, { o := .bin .leq (.l 2) (.l 0), g := some (4, true) }, { o := .pk (.l 5) (.l 0) (.b false) }, { o := .mv (.l 0) }, { o := .fa (.v 12) 1, g := some (0, true) }, { o := .ld (.l 0) 1 false, g := some (1, true) }, { o := .fa (.v 13) 1, g := some (2, true) }, { o := .ld (.l 0) 1 false, g := some (3, true) }, { o := .bin .leq (.l 2) (.l 0), g := some (4, true) }, { o := .pk (.l 5) (.l 0) (.b false) }, { o := .mv (.l 0) }, { o := .fa (.v 14) 0, g := some (0, true) }, { o := .ld (.l 0) 1 false, g := some (1, true) }, { o := .mv (.v 15), g := some (2, true) }, { o := .bin .eql (.l 1) (.l 0), g := some (3, true) }, { o := .pk (.l 4) (.l 0) (.b false) }, { o := .mv (.l 0) }, { o := .fa (.v 14) 1, g := some (0, true) }, { o := .ld (.l 0) 1 false, g := some (1, true) }, { o := .mv (.v 15), g := some (2, true) }, { o := .bin .eql (.l 1) (.l 0), g := some (3, true) }, { o := .pk (.l 4) (.l 0) (.b false) }, { o := .mv (.l 0), d := some 1 }] []) .ret))))))))))))), res := [(1, none)] }
def law27_HeadsSplit_l1b : C := (.seq (.ite [{ o := .mv (.v 9) }, { o := .fa (.v 3) 0 }, { o := .ld (.l 0) 1 false }, { o := .ln (.l 0) }, { o := .bin .lss (.l 3) (.l 0) }] [] 0 .skip (.exit 0)) (.seq (.blk 1 (.seq (.reg [{ o := .mv (.v 2) }, { o := .ca N.made_Dice_Next 0 [] [.l 0, .i 3], d := some 13 }] []) (.blk 2 (.ite [{ o := .bin .eql (.v 13) (.i 0) }, { o := .mv (.l 0) }] [] 0 (.reg [{ o := .mv (.v 6) }, { o := .mv (.v 9) }, { o := .bs [.l 0] 1 }, { o := .app (.l 2) (.l 0) true 1 }, { o := .mv (.v 8) }, { o := .mv (.v 9) }, { o := .bs [.l 0] 1 }, { o := .app (.l 2) (.l 0) true 1 }, { o := .mv (.l 4), d := some 6 }, { o := .mv (.l 1), d := some 8 }] []) (.ite [{ o := .bin .eql (.v 13) (.i 1) }, { o := .mv (.l 0) }] [] 0 (.reg [{ o := .mv (.v 7) }, { o := .mv (.v 9) }, { o := .bs [.l 0] 1 }, { o := .app (.l 2) (.l 0) true 1 }, { o := .mv (.v 8) }, { o := .mv (.v 9) }, { o := .bs [.l 0] 1 }, { o := .app (.l 2) (.l 0) true 1 }, { o := .mv (.l 4), d := some 7 }, { o := .mv (.l 1), d := some 8 }] []) .skip))))) (.reg [{ o := .mv (.v 9) }, { o := .bin .add (.l 0) (.i 1) }, { o := .mv (.l 0), d := some 9 }] [])))
def law27_HeadsSplit_l1 : C := .loop true [0, 1, 10, 11, 12, 13] K.law27_HeadsSplit_l1b
/-- /law27.HeadsSplit -/
def law27_HeadsSplit : Fn := { nargs := 1, vars := [0, 2, 3, 4, 5, 6, 7, 8, 9, 10, 11, 12, 13, 38], body := (.seq (.reg [{ o := .mv (.b false), d := some 1 }] []) (.seq (.ite [{ o := .mv (.v 0) }, { o := .ca N.made_Light 0 [] [.l 0] }, { o := .un .not (.l 0) }] [] 0 (.seq (.reg [{ o := .ca N.law27_awake 0 [] [] }, { o := .mv (.l 0), d := some 1 }] []) .ret) .skip) (.seq (.reg [{ o := .mv (.v 0) }, { o := .ca N.made_Roll 0 [] [.l 0] }, { o := .mv (.l 0), d := some 2 }] []) (.seq (.reg [{ o := .mv (.v 2) }, { o := .ca N.made_Dice_Mine 0 [] [.l 0] }, { o := .al [.nil, .nil] [], d := some 3 }, { o := .st (.l 0) (.l 1) 2 [] }] []) (.seq (.reg [{ o := .mv (.v 2) }, { o := .ld (.v 3) 2 true }, { o := .ca N.made_Dice_Belief 0 [] [.l 1, .l 0] }, { o := .al [.nil] [], d := some 4 }, { o := .st (.l 0) (.l 1) 1 [] }] []) (.seq (.reg [{ o := .ld (.v 4) 1 true }, { o := .ca N.made_Last 0 [] [.l 0] }, { o := .mv (.v 2) }, { o := .ca N.made_Dice_Next 0 [] [.l 0, .i 100] }, { o := .bin .add (.l 2) (.l 0) }, { o := .mv (.l 0), d := some 5 }] []) (.seq (.reg [{ o := .nw 1, d := some 6 }, { o := .nw 1, d := some 7 }, { o := .nw 1, d := some 8 }] []) (.seq (.seq (.reg [{ o := .mv (.i 0), d := some 9 }] []) (.blk 0 K.law27_HeadsSplit_l1)) (.seq (.reg [{ o := .al [.t (.int .i64 (0)), .t (.int .i64 (0))] [], d := some 10 }, { o := .al [.t (.int .i64 (0)), .t (.int .i64 (0))] [], d := some 11 }, { o := .al [.t (.int .i64 (0)), .t (.int .i64 (0))] [], d := some 12 }, { o := .ld (.v 4) 1 true }, { o := .mv (.v 6) }, { o := .mv (.v 5) }, { o := .ca N.heads_Count 0 [] [.l 2, .l 1, .l 0] }, { o := .ld (.v 4) 1 true }, { o := .mv (.v 7) }, { o := .mv (.v 5) }, { o := .ca N.heads_Count 0 [] [.l 2, .l 1, .l 0] }, { o := .ld (.v 4) 1 true }, { o := .mv (.v 8) }, { o := .mv (.v 5) }, { o := .ca N.heads_Count 0 [] [.l 2, .l 1, .l 0] }, { o := .st (.l 14) (.l 8) 2 [] }, { o := .st (.l 14) (.l 5) 2 [] }, { o := .st (.l 14) (.l 2) 2 [] }] [(0, 7), (0, 11), (0, 15), (1, 7), (1, 11), (1, 15), (2, 7), (2, 11), (2, 15), (7, 3), (11, 3), (11, 7)]) (.seq (.reg [{ o := .ca N.law27_awake 0 [] [] }, { o := .mv (.l 0) }, { o := .fa (.v 12) 0, g := some (0, true) }, { o := .ld (.l 0) 1 false, g := some (1, true) }, { o := .fa (.v 10) 0, g := some (2, true) }, { o := .ld (.l 0) 1 false, g := some (3, true) }, { o := .fa (.v 11) 0, g := some (4, true) }, { o := .ld (.l 0) 1 false, g := some (5, true) }, { o := .bin .add (.l 2) (.l 0), g := some (6, true) }, { o := .bin .geq (.l 5) (.l 0), g := some (7, true) }, { o := .pk (.l 8) (.l 0) (.b false) }, { o := .mv (.l 0) }, { o := .fa (.v 12) 1, g := some (0, true) }, { o := .ld (.l 0) 1 false, g := some (1, true) }, { o := .fa (.v 10) 1, g := some (2, true) }, { o := .ld (.l 0) 1 false, g := some (3, true) }, { o := .fa (.v 11) 1, g := some (4, true) }, { o := .ld (.l 0) 1 false, g := some (5, true) }, { o := .bin .add (.l 2) (.l 0), g := some (6, true) }, { o := .bin .leq (.l 5) (.l 0), g := some (7, true) }, { o := .pk (.l 8) (.l 0) (.b false) }, { o := .mv (.l 0) }, { o := .fa (.v 12) 0, g := some (0, true) }, { o := .ld (.l 0) 1 false, g := some (1, true) }, { o := .fa (.v 12) 1, g := some (2, true) }, { o := .ld (.l 0) 1 false, g := some (3, true) }, { o := .bin .leq (.l 2) (.l 0), g := some (4, true) }, { o := .pk (.l 5) (.l 0) (.b false) }, { o := .mv (.l 0), d := some 1 }] []) .ret)))))))))), res := [(1, none)] }
def law27_HeadsAll_l2b : C := (.its  [{ o := .bin .lss (.v 16) (.v 15) }] [] 0 .skip (.exit 2) (.seq (.blk 3 (.seq (.reg [{ o := .ia (.v 14) (.v 16) 1 }, { o := .ld (.l 0) 1 false }, { o := .mv (.l 0), d := some 10 }] []) (.ite [{ o := .ld (.v 7) 1 true }, { o := .mv (.v 9) }, { o := .mv (.v 10) }, { o := .ca N.heads_Count 0 [] [.l 2, .l 1, .l 0] }, { o := .ld (.v 7) 1 true }, { o := .mv (.v 9) }, { o := .mv (.v 10) }, { o := .ca N.ref27_Count 0 [] [.l 2, .l 1, .l 0] }, { o := .eqk (.ints 2) true (.l 4) (.l 0) }, { o := .mv (.l 0) }, { o := .ld (.v 7) 1 true, g := some (0, false) }, { o := .mv (.v 9), g := some (1, false) }, { o := .mv (.v 10), g := some (2, false) }, { o := .ca N.heads_Sure 0 [] [.l 2, .l 1, .l 0], g := some (3, false) }, { o := .ld (.v 7) 1 true, g := some (4, false) }, { o := .mv (.v 9), g := some (5, false) }, { o := .mv (.v 10), g := some (6, false) }, { o := .ca N.ref27_Sure 0 [] [.l 2, .l 1, .l 0], g := some (7, false) }, { o := .ca N.ref23_SameInts 0 [] [.l 4, .l 0], g := some (8, false) }, { o := .un .not (.l 0), g := some (9, false) }, { o := .pk (.l 10) (.b true) (.l 0) }, { o := .mv (.l 0) }, { o := .ld (.v 7) 1 true, g := some (0, false) }, { o := .mv (.v 9), g := some (1, false) }, { o := .mv (.v 10), g := some (2, false) }, { o := .ca N.heads_Maybe 0 [] [.l 2, .l 1, .l 0], g := some (3, false) }, { o := .ld (.v 7) 1 true, g := some (4, false) }, { o := .mv (.v 9), g := some (5, false) }, { o := .mv (.v 10), g := some (6, false) }, { o := .ca N.ref27_Maybe 0 [] [.l 2, .l 1, .l 0], g := some (7, false) }, { o := .ca N.ref23_SameInts 0 [] [.l 4, .l 0], g := some (8, false) }, { o := .un .not (.l 0), g := some (9, false) }, { o := .pk (.l 10) (.b true) (.l 0) }] [(4, 0), (14, 8), (26, 19)] 0 (.seq (.reg [{ o := .mv (.b false), d := some 4 }] []) .ret) .skip))) (.reg [{ o := .bin .add (.v 16) (.i 1) }, { o := .mv (.l 0), d := some 16 }] [])))
def law27_HeadsAll_l2 : C := .loop true [0, 1, 2, 4, 5, 6, 10] K.law27_HeadsAll_l2b
def law27_HeadsAll_l1b : C := (.its  [{ o := .bin .lss (.v 13) (.v 12) }] [] 0 .skip (.exit 0) (.seq (.blk 1 (.seq (.reg [{ o := .ia (.v 11) (.v 13) 1 }, { o := .ld (.l 0) 1 false }, { o := .mv (.l 0), d := some 9 }] []) (.seq (.reg [{ o := .mv (.v 8) }, { o := .iaa (.v 3) (.i 0) 2 1 }, { o := .ld (.l 0) 1 false }, { o := .bs [.l 2, .l 0] 1, d := some 14 }, { o := .ln (.l 0), d := some 15 }, { o := .mv (.i 0), d := some 16 }] []) (.blk 2 K.law27_HeadsAll_l2)))) (.reg [{ o := .bin .add (.v 13) (.i 1) }, { o := .mv (.l 0), d := some 13 }] [])))
def law27_HeadsAll_l1 : C := .loop true [0, 1, 2, 4, 5, 6, 9, 10, 14, 15, 16] K.law27_HeadsAll_l1b
/-- /law27.HeadsAll -/
def law27_HeadsAll : Fn := { nargs := 3, vars := [0, 1, 2, 5, 6, 7, 8, 9, 10, 12, 14, 44, 45, 46, 53, 54, 55], body := (.seq (.reg [{ o := .bx (.v 2) 2, d := some 3 }, { o := .mv (.b false), d := some 4 }] []) (.seq (.ite [{ o := .mv (.v 0) }, { o := .ca N.made_Light 0 [] [.l 0] }, { o := .un .not (.l 0) }, { o := .mv (.l 0) }, { o := .mv (.v 1), g := some (0, false) }, { o := .ln (.l 0), g := some (1, false) }, { o := .bin .gtr (.l 0) (.i 100), g := some (2, false) }, { o := .pk (.l 3) (.b true) (.l 0) }] [] 0 (.seq (.reg [{ o := .ca N.law27_awake 0 [] [] }, { o := .mv (.l 0), d := some 4 }] []) .ret) .skip) (.seq (.reg [{ o := .mv (.v 0) }, { o := .ca N.made_Roll 0 [] [.l 0] }, { o := .mv (.l 0), d := some 5 }] []) (.seq (.reg [{ o := .mv (.v 5) }, { o := .ca N.made_Dice_Mine 0 [] [.l 0] }, { o := .al [.nil, .nil] [], d := some 6 }, { o := .st (.l 0) (.l 1) 2 [] }] []) (.seq (.reg [{ o := .mv (.v 5) }, { o := .ld (.v 6) 2 true }, { o := .ca N.made_Dice_Belief 0 [] [.l 1, .l 0] }, { o := .al [.nil] [], d := some 7 }, { o := .st (.l 0) (.l 1) 1 [] }] []) (.seq (.reg [{ o := .ld (.v 7) 1 true }, { o := .ca N.made_Last 0 [] [.l 0] }, { o := .iaa (.v 3) (.i 0) 2 1 }, { o := .ld (.l 0) 1 false }, { o := .ca N.made_Mod 0 [] [.l 0, .i 200] }, { o := .bin .add (.l 3) (.l 0) }, { o := .bin .sub (.l 0) (.i 20) }, { o := .mv (.l 0), d := some 8 }] [(3, 0)]) (.seq (.seq (.reg [{ o := .mv (.v 1) }, { o := .mv (.v 5) }, { o := .fa (.v 6) 0 }, { o := .ld (.l 0) 1 false }, { o := .ln (.l 0) }, { o := .ca N.made_Dice_Some 0 [] [.l 3, .l 0] }, { o := .bs [.l 5, .l 0, .c (.nil)] 1, d := some 11 }, { o := .ln (.l 0), d := some 12 }, { o := .mv (.i 0), d := some 13 }] []) (.blk 0 K.law27_HeadsAll_l1)) (.seq (.reg [{ o := .ca N.law27_awake 0 [] [] }, { o := .mv (.l 0) }, { o := .ld (.v 7) 1 true, g := some (0, true) }, { o := .mv (.v 8), g := some (1, true) }, { o := .iaa (.v 3) (.i 1) 2 1, g := some (2, true) }, { o := .ld (.l 0) 1 false, g := some (3, true) }, { o := .ca N.made_Mod 0 [] [.l 0, .i 5], g := some (4, true) }, { o := .ca N.heads_Missing 0 [] [.l 4, .l 3, .l 0], g := some (5, true) }, { o := .ld (.v 7) 1 true, g := some (6, true) }, { o := .mv (.v 8), g := some (7, true) }, { o := .iaa (.v 3) (.i 1) 2 1, g := some (8, true) }, { o := .ld (.l 0) 1 false, g := some (9, true) }, { o := .ca N.made_Mod 0 [] [.l 0, .i 5], g := some (10, true) }, { o := .ca N.ref27_Missing 0 [] [.l 4, .l 3, .l 0], g := some (11, true) }, { o := .ca N.ref23_SameInts 0 [] [.l 6, .l 0], g := some (12, true) }, { o := .pk (.l 13) (.l 0) (.b false) }, { o := .mv (.l 0) }, { o := .ld (.v 7) 1 true, g := some (0, true) }, { o := .iaa (.v 3) (.i 0) 2 1, g := some (1, true) }, { o := .ld (.l 0) 1 false, g := some (2, true) }, { o := .iaa (.v 3) (.i 1) 2 1, g := some (3, true) }, { o := .ld (.l 0) 1 false, g := some (4, true) }, { o := .ca N.heads_Missing 0 [] [.l 4, .l 2, .l 0], g := some (5, true) }, { o := .ld (.v 7) 1 true, g := some (6, true) }, { o := .iaa (.v 3) (.i 0) 2 1, g := some (7, true) }, { o := .ld (.l 0) 1 false, g := some (8, true) }, { o := .iaa (.v 3) (.i 1) 2 1, g := some (9, true) }, { o := .ld (.l 0) 1 false, g := some (10, true) }, { o := .ca N.ref27_Missing 0 [] [.l 4, .l 2, .l 0], g := some (11, true) }, { o := .ca N.ref23_SameInts 0 [] [.l 6, .l 0], g := some (12, true) }, { o := .pk (.l 13) (.l 0) (.b false) }, { o := .mv (.l 0), d := some 4 }] [(2, 7), (8, 1), (8, 7), (8, 13), (11, 1), (11, 7), (23, 15), (25, 15), (27, 15)]) .ret)))))))), res := [(4, none)] }
def law27_HeadsTrue_l1b : C := (.seq (.ite [{ o := .mv (.v 9) }, { o := .fa (.v 7) 1 }, { o := .ld (.l 0) 1 false }, { o := .ln (.l 0) }, { o := .bin .lss (.l 3) (.l 0) }] [] 0 .skip (.exit 0)) (.seq (.blk 1 (.seq (.reg [{ o := .fa (.v 7) 1 }, { o := .ld (.l 0) 1 false }, { o := .mv (.v 9) }, { o := .ia (.l 1) (.l 0) 2 }, { o := .ld (.l 0) 2 true }, { o := .mv (.v 5) }, { o := .ca N.ref25_Possible 0 [] [.l 1, .l 0] }, { o := .mv (.l 0), d := some 10 }] []) (.seq (.ite [{ o := .mv (.v 10) }, { o := .ln (.l 0) }, { o := .bin .eql (.l 0) (.i 0) }] [] 0 (.seq (.reg [{ o := .ca N.law27_awake 0 [] [] }, { o := .mv (.l 0), d := some 1 }] []) .ret) .skip) (.seq (.reg [{ o := .mv (.v 6) }, { o := .mv (.v 10) }, { o := .mv (.v 2) }, { o := .mv (.v 10) }, { o := .ln (.l 0) }, { o := .ca N.made_Dice_Next 0 [] [.l 2, .l 0] }, { o := .ia (.l 4) (.l 0) 1 }, { o := .ld (.l 0) 1 false }, { o := .ca N.ref23_Has 0 [] [.l 7, .l 0] }, { o := .mv (.l 0), d := some 11 }] []) (.seq (.ite [{ o := .mv (.v 11) }] [] 0 (.reg [{ o := .mv (.v 8) }, { o := .bin .add (.l 0) (.i 1) }, { o := .mv (.l 0), d := some 8 }] []) .skip) (.ite [{ o := .mv (.v 11) }, { o := .un .not (.l 0) }, { o := .mv (.l 0) }, { o := .ld (.v 4) 1 true, g := some (0, true) }, { o := .mv (.v 6), g := some (1, true) }, { o := .mv (.v 5), g := some (2, true) }, { o := .ca N.heads_Sure 0 [] [.l 2, .l 1, .l 0], g := some (3, true) }, { o := .mv (.v 9), g := some (4, true) }, { o := .ca N.ref23_Has 0 [] [.l 1, .l 0], g := some (5, true) }, { o := .pk (.l 6) (.l 0) (.b false) }, { o := .mv (.l 0) }, { o := .mv (.v 11), g := some (0, false) }, { o := .mv (.l 0), g := some (1, false) }, { o := .ld (.v 4) 1 true, g := some (0, true) }, { o := .mv (.v 6), g := some (1, true) }, { o := .mv (.v 5), g := some (2, true) }, { o := .ca N.heads_Maybe 0 [] [.l 2, .l 1, .l 0], g := some (3, true) }, { o := .mv (.v 9), g := some (4, true) }, { o := .ca N.ref23_Has 0 [] [.l 1, .l 0], g := some (5, true) }, { o := .un .not (.l 0), g := some (6, true) }, { o := .pk (.l 7) (.l 0) (.b false), g := some (9, false) }, { o := .pk (.l 10) (.b true) (.l 0) }] [] 0 (.seq (.reg [{ o := .mv (.b false), d := some 1 }] []) .ret) .skip)))))) (.reg [{ o := .mv (.v 9) }, { o := .bin .add (.l 0) (.i 1) }, { o := .mv (.l 0), d := some 9 }] [])))
def law27_HeadsTrue_l1 : C := .loop true [0, 1, 3, 10, 11, 12] K.law27_HeadsTrue_l1b
/-- /law27.HeadsTrue -/
def law27_HeadsTrue : Fn := { nargs := 1, vars := [0, 2, 3, 4, 5, 6, 7, 8, 9, 10, 11, 12, 13], body := (.seq (.reg [{ o := .mv (.b false), d := some 1 }] []) (.seq (.ite [{ o := .mv (.v 0) }, { o := .ca N.made_Light 0 [] [.l 0] }, { o := .un .not (.l 0) }] [] 0 (.seq (.reg [{ o := .ca N.law27_awake 0 [] [] }, { o := .mv (.l 0), d := some 1 }] []) .ret) .skip) (.seq (.reg [{ o := .mv (.v 0) }, { o := .ca N.made_Roll 0 [] [.l 0] }, { o := .mv (.l 0), d := some 2 }] []) (.seq (.reg [{ o := .mv (.v 2) }, { o := .ca N.made_Dice_Mine 0 [] [.l 0] }, { o := .al [.nil, .nil] [], d := some 3 }, { o := .st (.l 0) (.l 1) 2 [] }] []) (.seq (.reg [{ o := .mv (.v 2) }, { o := .ld (.v 3) 2 true }, { o := .ca N.made_Dice_Belief 0 [] [.l 1, .l 0] }, { o := .al [.nil] [], d := some 4 }, { o := .st (.l 0) (.l 1) 1 [] }] []) (.seq (.reg [{ o := .ld (.v 4) 1 true }, { o := .ca N.made_Last 0 [] [.l 0] }, { o := .mv (.v 2) }, { o := .ca N.made_Dice_Next 0 [] [.l 0, .i 100] }, { o := .bin .add (.l 2) (.l 0) }, { o := .mv (.l 0), d := some 5 }] []) (.seq (.reg [{ o := .mv (.v 2) }, { o := .fa (.v 3) 0 }, { o := .ld (.l 0) 1 false }, { o := .ln (.l 0) }, { o := .ca N.made_Dice_Some 0 [] [.l 3, .l 0] }, { o := .mv (.l 0), d := some 6 }] []) (.seq (.reg [{ o := .al [.nil, .nil] [], d := some 7 }, { o := .fa (.v 4) 0 }, { o := .ld (.l 0) 1 false }, { o := .mv (.v 2) }, { o := .fa (.v 4) 0 }, { o := .ld (.l 0) 1 false }, { o := .ln (.l 0) }, { o := .ca N.made_Dice_Next 0 [] [.l 3, .l 0] }, { o := .ia (.l 5) (.l 0) 2 }, { o := .ld (.l 0) 2 true }, { o := .st (.l 9) (.l 0) 2 [] }] [(0, 8), (2, 8)]) (.seq (.reg [{ o := .mv (.i 0), d := some 8 }] []) (.seq (.seq (.reg [{ o := .mv (.i 0), d := some 9 }] []) (.blk 0 K.law27_HeadsTrue_l1)) (.seq (.reg [{ o := .ld (.v 4) 1 true }, { o := .mv (.v 6) }, { o := .mv (.v 5) }, { o := .ca N.heads_Count 0 [] [.l 2, .l 1, .l 0] }, { o := .al [.t (.int .i64 (0)), .t (.int .i64 (0))] [], d := some 12 }, { o := .st (.l 0) (.l 1) 2 [] }] []) (.seq (.reg [{ o := .ca N.law27_awake 0 [] [] }, { o := .mv (.l 0) }, { o := .fa (.v 12) 0, g := some (0, true) }, { o := .ld (.l 0) 1 false, g := some (1, true) }, { o := .mv (.v 8), g := some (2, true) }, { o := .bin .leq (.l 1) (.l 0), g := some (3, true) }, { o := .pk (.l 4) (.l 0) (.b false) }, { o := .mv (.l 0) }, { o := .mv (.v 8), g := some (0, true) }, { o := .fa (.v 12) 1, g := some (1, true) }, { o := .ld (.l 0) 1 false, g := some (2, true) }, { o := .bin .leq (.l 2) (.l 0), g := some (3, true) }, { o := .pk (.l 4) (.l 0) (.b false) }, { o := .mv (.l 0), d := some 1 }] []) .ret)))))))))))), res := [(1, none)] }
/-- /law27.awake -/
def law27_awake : Fn := { nargs := 0, vars := [0, 1, 2, 3], body := (.seq (.reg [{ o := .mv (.b false), d := some 0 }] []) (.seq (.reg [{ o := .bs [.i 1, .i 2] 1 }, { o := .bs [.i 0, .i 1099511627776] 1 }, { o := .bd [.t (.int .i64 (0)), .nil] [(1, 1, .l 0)] }, { o := .bs [.i 0, .i 0] 1 }, { o := .bd [.t (.int .i64 (0)), .nil] [(1, 1, .l 0)] }, { o := .bs [.l 2, .l 0] 2 }, { o := .bd [.nil, .nil] [(0, 1, .l 5), (1, 1, .l 0)] }, { o := .bs [.l 0] 2 }, { o := .bd [.nil] [(0, 1, .l 0)] }, { o := .al [.nil] [], d := some 1 }, { o := .st (.l 0) (.l 1) 1 [] }] []) (.seq (.reg [{ o := .ld (.v 1) 1 true }, { o := .bs [.i 0] 1 }, { o := .ca N.heads_Count 0 [] [.l 1, .l 0, .i 5] }, { o := .al [.t (.int .i64 (0)), .t (.int .i64 (0))] [], d := some 2 }, { o := .st (.l 0) (.l 1) 2 [] }] []) (.seq (.reg [{ o := .ld (.v 1) 1 true }, { o := .bs [.i 0] 1 }, { o := .ca N.heads_Sure 0 [] [.l 1, .l 0, .i 5] }, { o := .mv (.l 0), d := some 3 }] []) (.seq (.reg [{ o := .fa (.v 2) 0 }, { o := .ld (.l 0) 1 false }, { o := .bin .eql (.l 0) (.i 1) }, { o := .mv (.l 0) }, { o := .fa (.v 2) 1, g := some (0, true) }, { o := .ld (.l 0) 1 false, g := some (1, true) }, { o := .bin .eql (.l 0) (.i 2), g := some (2, true) }, { o := .pk (.l 3) (.l 0) (.b false) }, { o := .mv (.l 0) }, { o := .mv (.v 3), g := some (0, true) }, { o := .ln (.l 0), g := some (1, true) }, { o := .bin .eql (.l 0) (.i 1), g := some (2, true) }, { o := .pk (.l 3) (.l 0) (.b false) }, { o := .mv (.l 0) }, { o := .ld (.v 1) 1 true, g := some (0, true) }, { o := .ca N.heads_Missing 0 [] [.l 0, .i 5, .i 1], g := some (1, true) }, { o := .ln (.l 0), g := some (2, true) }, { o := .bin .eql (.l 0) (.i 1), g := some (3, true) }, { o := .pk (.l 4) (.l 0) (.b false) }, { o := .mv (.l 0), d := some 0 }] []) .ret))))), res := [(0, none)] }
def heads_Count_l2b : C := (.its  [{ o := .bin .lss (.v 17) (.v 16) }] [] 0 .skip (.exit 2) (.seq (.blk 3 (.seq (.reg [{ o := .mv (.v 17) }, { o := .mv (.l 0), d := some 10 }] []) (.seq (.reg [{ o := .ld (.v 7) 2 true }, { o := .mv (.v 10) }, { o := .mv (.v 1) }, { o := .mv (.v 2) }, { o := .ca N.heads_look 0 [] [.l 3, .l 2, .l 1, .l 0] }, { o := .mv (.l 0) }, { o := .ex (.l 0) 0 }, { o := .ex (.l 1) 1 }, { o := .mv (.l 1), d := some 11 }, { o := .mv (.l 1), d := some 12 }] []) (.seq (.ite [{ o := .mv (.v 11) }] [] 0 (.reg [{ o := .mv (.v 8) }, { o := .bin .add (.l 0) (.i 1) }, { o := .mv (.l 0), d := some 8 }] []) .skip) (.ite [{ o := .mv (.v 12) }] [] 0 (.reg [{ o := .mv (.v 9) }, { o := .bin .add (.l 0) (.i 1) }, { o := .mv (.l 0), d := some 9 }] []) .skip))))) (.reg [{ o := .bin .add (.v 17) (.i 1) }, { o := .mv (.l 0), d := some 17 }] [])))
def heads_Count_l2 : C := .loop true [0, 3, 10, 11, 12] K.heads_Count_l2b
def heads_Count_l1b : C := (.its  [{ o := .bin .lss (.v 15) (.v 14) }] [] 0 .skip (.exit 0) (.seq (.blk 1 (.seq (.reg [{ o := .mv (.v 15) }, { o := .ia (.v 13) (.v 15) 2 }, { o := .ld (.l 0) 2 true }, { o := .al [.nil, .nil] [], d := some 7 }, { o := .mv (.l 3), d := some 6 }, { o := .st (.l 1) (.l 2) 2 [] }] []) (.seq (.reg [{ o := .mv (.i 0), d := some 8 }, { o := .mv (.i 0), d := some 9 }] []) (.seq (.seq (.reg [{ o := .fa (.v 7) 1 }, { o := .ld (.l 0) 1 false }, { o := .ln (.l 0), d := some 16 }, { o := .mv (.i 0), d := some 17 }] []) (.blk 2 K.heads_Count_l2)) (.seq (.ite [{ o := .mv (.v 6) }, { o := .bin .eql (.l 0) (.i 0) }] [] 0 (.reg [{ o := .mv (.v 8) }, { o := .mv (.v 9) }, { o := .bd [.t (.int .i64 (0)), .t (.int .i64 (0))] [(0, 1, .l 1), (1, 1, .l 0)] }, { o := .st (.v 5) (.l 0) 2 [] }] []) .skip) (.reg [{ o := .fa (.v 5) 0 }, { o := .ld (.l 0) 1 false }, { o := .mv (.v 8) }, { o := .mn [.l 1, .l 0] }, { o := .fa (.v 5) 1 }, { o := .ld (.l 0) 1 false }, { o := .mv (.v 9) }, { o := .mx [.l 1, .l 0] }, { o := .bd [.t (.int .i64 (0)), .t (.int .i64 (0))] [(0, 1, .l 4), (1, 1, .l 0)] }, { o := .st (.v 5) (.l 0) 2 [] }] [])))))) (.reg [{ o := .bin .add (.v 15) (.i 1) }, { o := .mv (.l 0), d := some 15 }] [])))
def heads_Count_l1 : C := .loop true [0, 3, 6, 7, 8, 9, 10, 11, 12, 16, 17] K.heads_Count_l1b
/-- /heads.Count -/
def heads_Count : Fn := { nargs := 3, vars := [0, 1, 2, 3, 6, 7, 8, 9, 10, 11, 12, 13, 14, 16, 17, 18, 25, 26], body := (.seq (.reg [{ o := .bx (.v 0) 1, d := some 3 }, { o := .al [.t (.int .i64 (0)), .t (.int .i64 (0))] [], d := some 4 }] []) (.seq (.reg [{ o := .al [.t (.int .i64 (0)), .t (.int .i64 (0))] [], d := some 5 }] []) (.seq (.seq (.reg [{ o := .fa (.v 3) 0 }, { o := .ld (.l 0) 1 false, d := some 13 }, { o := .ln (.l 0), d := some 14 }, { o := .mv (.i 0), d := some 15 }] []) (.blk 0 K.heads_Count_l1)) (.seq (.reg [{ o := .ld (.v 5) 2 true }, { o := .st (.v 4) (.l 0) 2 [] }] []) .ret)))), res := [(4, some (2, true))] }
def ref27_Count_l2b : C := (.seq (.ite [{ o := .mv (.v 9) }, { o := .fa (.v 3) 0 }, { o := .ld (.l 0) 1 false }, { o := .mv (.v 6) }, { o := .ia (.l 1) (.l 0) 2 }, { o := .fa (.l 0) 1 }, { o := .ld (.l 0) 1 false }, { o := .ln (.l 0) }, { o := .bin .lss (.l 7) (.l 0) }] [] 0 .skip (.exit 2)) (.seq (.blk 3 (.seq (.reg [{ o := .fa (.v 3) 0 }, { o := .ld (.l 0) 1 false }, { o := .mv (.v 6) }, { o := .ia (.l 1) (.l 0) 2 }, { o := .fa (.l 0) 1 }, { o := .ld (.l 0) 1 false }, { o := .mv (.v 9) }, { o := .ia (.l 1) (.l 0) 2 }, { o := .ld (.l 0) 2 true }, { o := .mv (.v 1) }, { o := .mv (.v 2) }, { o := .ca N.ref27_state 0 [] [.l 2, .l 1, .l 0] }, { o := .mv (.l 0), d := some 10 }] []) (.seq (.ite [{ o := .mv (.v 10) }, { o := .bin .eql (.l 0) (.i 2) }] [] 0 (.reg [{ o := .mv (.v 7) }, { o := .bin .add (.l 0) (.i 1) }, { o := .mv (.l 0), d := some 7 }] []) .skip) (.ite [{ o := .mv (.v 10) }, { o := .bin .gtr (.l 0) (.i 0) }] [] 0 (.reg [{ o := .mv (.v 8) }, { o := .bin .add (.l 0) (.i 1) }, { o := .mv (.l 0), d := some 8 }] []) .skip)))) (.reg [{ o := .mv (.v 9) }, { o := .bin .add (.l 0) (.i 1) }, { o := .mv (.l 0), d := some 9 }] [])))
def ref27_Count_l2 : C := .loop true [0, 10] K.ref27_Count_l2b
def ref27_Count_l1b : C := (.seq (.ite [{ o := .mv (.v 6) }, { o := .fa (.v 3) 0 }, { o := .ld (.l 0) 1 false }, { o := .ln (.l 0) }, { o := .bin .lss (.l 3) (.l 0) }] [] 0 .skip (.exit 0)) (.seq (.blk 1 (.seq (.reg [{ o := .mv (.i 0), d := some 7 }, { o := .mv (.i 0), d := some 8 }] []) (.seq (.seq (.reg [{ o := .mv (.i 0), d := some 9 }] []) (.blk 2 K.ref27_Count_l2)) (.seq (.ite [{ o := .mv (.v 6) }, { o := .bin .eql (.l 0) (.i 0) }, { o := .mv (.l 0) }, { o := .mv (.v 7), g := some (0, false) }, { o := .fa (.v 5) 0, g := some (1, false) }, { o := .ld (.l 0) 1 false, g := some (2, false) }, { o := .bin .lss (.l 2) (.l 0), g := some (3, false) }, { o := .pk (.l 4) (.b true) (.l 0) }] [] 0 (.reg [{ o := .mv (.v 7) }, { o := .fa (.v 5) 0 }, { o := .st (.l 0) (.l 1) 1 [] }] []) .skip) (.reg [{ o := .fa (.v 5) 1 }, { o := .ld (.l 0) 1 false }, { o := .mv (.v 8) }, { o := .mx [.l 1, .l 0] }, { o := .fa (.v 5) 1 }, { o := .st (.l 0) (.l 1) 1 [] }] []))))) (.reg [{ o := .mv (.v 6) }, { o := .bin .add (.l 0) (.i 1) }, { o := .mv (.l 0), d := some 6 }] [])))
def ref27_Count_l1 : C := .loop true [0, 7, 8, 9, 10] K.ref27_Count_l1b
/-- /ref27.Count -/
def ref27_Count : Fn := { nargs := 3, vars := [0, 1, 2, 3, 6, 7, 8, 9, 10, 11, 12], body := (.seq (.reg [{ o := .bx (.v 0) 1, d := some 3 }, { o := .al [.t (.int .i64 (0)), .t (.int .i64 (0))] [], d := some 4 }] []) (.seq (.reg [{ o := .al [.t (.int .i64 (0)), .t (.int .i64 (0))] [], d := some 5 }] []) (.seq (.seq (.reg [{ o := .mv (.i 0), d := some 6 }] []) (.blk 0 K.ref27_Count_l1)) (.seq (.reg [{ o := .ld (.v 5) 2 true }, { o := .st (.v 4) (.l 0) 2 [] }] []) .ret)))), res := [(4, some (2, true))] }
/-- /heads.Sure -/
def heads_Sure : Fn := { nargs := 3, vars := [0, 1, 2, 3, 4, 5, 6], body := (.seq (.reg [{ o := .bx (.v 0) 1, d := some 3 }, { o := .bx (.v 1) 1, d := some 4 }, { o := .bx (.v 2) 1, d := some 5 }, { o := .mv (.c (.nil)), d := some 6 }] []) (.seq (.reg [{ o := .ld (.v 3) 1 true }, { o := .ca N.heads_persons 0 [] [.l 0] }, { o := .mf N.heads_Sure_1 [.v 3, .v 4, .v 5] }, { o := .ca N.lists_Where 0 [] [.l 1, .l 0] }, { o := .mv (.l 0), d := some 6 }] []) .ret)), res := [(6, none)] }
def ref27_Sure_l2b : C := (.seq (.ite [{ o := .mv (.v 8) }, { o := .fa (.v 3) 0 }, { o := .ld (.l 0) 1 false }, { o := .ln (.l 0) }, { o := .bin .lss (.l 3) (.l 0) }] [] 0 .skip (.exit 2)) (.seq (.blk 3 (.reg [{ o := .mv (.v 7) }, { o := .mv (.l 0) }, { o := .fa (.v 3) 0, g := some (0, true) }, { o := .ld (.l 0) 1 false, g := some (1, true) }, { o := .mv (.v 8), g := some (2, true) }, { o := .ia (.l 1) (.l 0) 2, g := some (3, true) }, { o := .fa (.l 0) 1, g := some (4, true) }, { o := .ld (.l 0) 1 false, g := some (5, true) }, { o := .mv (.v 6), g := some (6, true) }, { o := .ia (.l 1) (.l 0) 2, g := some (7, true) }, { o := .ld (.l 0) 2 true, g := some (8, true) }, { o := .mv (.v 1), g := some (9, true) }, { o := .mv (.v 2), g := some (10, true) }, { o := .ca N.ref27_state 0 [] [.l 2, .l 1, .l 0], g := some (11, true) }, { o := .bin .eql (.l 0) (.i 2), g := some (12, true) }, { o := .pk (.l 13) (.l 0) (.b false) }, { o := .mv (.l 0), d := some 7 }] [])) (.reg [{ o := .mv (.v 8) }, { o := .bin .add (.l 0) (.i 1) }, { o := .mv (.l 0), d := some 8 }] [])))
def ref27_Sure_l2 : C := .loop true [0, 4] K.ref27_Sure_l2b
def ref27_Sure_l1b : C := (.seq (.ite [{ o := .mv (.v 6) }, { o := .ld (.v 3) 1 true }, { o := .ca N.ref27_people 0 [] [.l 0] }, { o := .bin .lss (.l 2) (.l 0) }] [] 0 .skip (.exit 0)) (.seq (.blk 1 (.seq (.reg [{ o := .mv (.b true), d := some 7 }] []) (.seq (.seq (.reg [{ o := .mv (.i 0), d := some 8 }] []) (.blk 2 K.ref27_Sure_l2)) (.ite [{ o := .mv (.v 7) }] [] 0 (.reg [{ o := .mv (.v 5) }, { o := .mv (.v 6) }, { o := .bs [.l 0] 1 }, { o := .app (.l 2) (.l 0) true 1 }, { o := .mv (.l 0), d := some 5 }] []) .skip)))) (.reg [{ o := .mv (.v 6) }, { o := .bin .add (.l 0) (.i 1) }, { o := .mv (.l 0), d := some 6 }] [])))
def ref27_Sure_l1 : C := .loop true [0, 4, 7, 8] K.ref27_Sure_l1b
/-- /ref27.Sure -/
def ref27_Sure : Fn := { nargs := 3, vars := [0, 1, 2, 3, 6, 7, 8, 9, 10], body := (.seq (.reg [{ o := .bx (.v 0) 1, d := some 3 }, { o := .mv (.c (.nil)), d := some 4 }] []) (.seq (.reg [{ o := .nw 1, d := some 5 }] []) (.seq (.seq (.reg [{ o := .mv (.i 0), d := some 6 }] []) (.blk 0 K.ref27_Sure_l1)) (.seq (.reg [{ o := .mv (.v 5) }, { o := .mv (.l 0), d := some 4 }] []) .ret)))), res := [(4, none)] }
/-- /heads.Maybe -/
def heads_Maybe : Fn := { nargs := 3, vars := [0, 1, 2, 3, 4, 5, 6], body := (.seq (.reg [{ o := .bx (.v 0) 1, d := some 3 }, { o := .bx (.v 1) 1, d := some 4 }, { o := .bx (.v 2) 1, d := some 5 }, { o := .mv (.c (.nil)), d := some 6 }] []) (.seq (.reg [{ o := .ld (.v 3) 1 true }, { o := .ca N.heads_persons 0 [] [.l 0] }, { o := .mf N.heads_Maybe_1 [.v 3, .v 4, .v 5] }, { o := .ca N.lists_Where 0 [] [.l 1, .l 0] }, { o := .mv (.l 0), d := some 6 }] []) .ret)), res := [(6, none)] }
def ref27_Maybe_l2b : C := (.seq (.ite [{ o := .mv (.v 8) }, { o := .fa (.v 3) 0 }, { o := .ld (.l 0) 1 false }, { o := .ln (.l 0) }, { o := .bin .lss (.l 3) (.l 0) }] [] 0 .skip (.exit 2)) (.seq (.blk 3 (.reg [{ o := .mv (.v 7) }, { o := .mv (.l 0) }, { o := .fa (.v 3) 0, g := some (0, false) }, { o := .ld (.l 0) 1 false, g := some (1, false) }, { o := .mv (.v 8), g := some (2, false) }, { o := .ia (.l 1) (.l 0) 2, g := some (3, false) }, { o := .fa (.l 0) 1, g := some (4, false) }, { o := .ld (.l 0) 1 false, g := some (5, false) }, { o := .mv (.v 6), g := some (6, false) }, { o := .ia (.l 1) (.l 0) 2, g := some (7, false) }, { o := .ld (.l 0) 2 true, g := some (8, false) }, { o := .mv (.v 1), g := some (9, false) }, { o := .mv (.v 2), g := some (10, false) }, { o := .ca N.ref27_state 0 [] [.l 2, .l 1, .l 0], g := some (11, false) }, { o := .bin .gtr (.l 0) (.i 0), g := some (12, false) }, { o := .pk (.l 13) (.b true) (.l 0) }, { o := .mv (.l 0), d := some 7 }] [])) (.reg [{ o := .mv (.v 8) }, { o := .bin .add (.l 0) (.i 1) }, { o := .mv (.l 0), d := some 8 }] [])))
def ref27_Maybe_l2 : C := .loop true [0, 4] K.ref27_Maybe_l2b
def ref27_Maybe_l1b : C := (.seq (.ite [{ o := .mv (.v 6) }, { o := .ld (.v 3) 1 true }, { o := .ca N.ref27_people 0 [] [.l 0] }, { o := .bin .lss (.l 2) (.l 0) }] [] 0 .skip (.exit 0)) (.seq (.blk 1 (.seq (.reg [{ o := .mv (.b false), d := some 7 }] []) (.seq (.seq (.reg [{ o := .mv (.i 0), d := some 8 }] []) (.blk 2 K.ref27_Maybe_l2)) (.ite [{ o := .mv (.v 7) }] [] 0 (.reg [{ o := .mv (.v 5) }, { o := .mv (.v 6) }, { o := .bs [.l 0] 1 }, { o := .app (.l 2) (.l 0) true 1 }, { o := .mv (.l 0), d := some 5 }] []) .skip)))) (.reg [{ o := .mv (.v 6) }, { o := .bin .add (.l 0) (.i 1) }, { o := .mv (.l 0), d := some 6 }] [])))
def ref27_Maybe_l1 : C := .loop true [0, 4, 7, 8] K.ref27_Maybe_l1b
/-- /ref27.Maybe -/
def ref27_Maybe : Fn := { nargs := 3, vars := [0, 1, 2, 3, 6, 7, 8, 9, 10], body := (.seq (.reg [{ o := .bx (.v 0) 1, d := some 3 }, { o := .mv (.c (.nil)), d := some 4 }] []) (.seq (.reg [{ o := .nw 1, d := some 5 }] []) (.seq (.seq (.reg [{ o := .mv (.i 0), d := some 6 }] []) (.blk 0 K.ref27_Maybe_l1)) (.seq (.reg [{ o := .mv (.v 5) }, { o := .mv (.l 0), d := some 4 }] []) .ret)))), res := [(4, none)] }
/-- /heads.Missing -/
def heads_Missing : Fn := { nargs := 3, vars := [0, 1, 2, 3, 4, 5, 6], body := (.seq (.reg [{ o := .bx (.v 0) 1, d := some 3 }, { o := .bx (.v 1) 1, d := some 4 }, { o := .bx (.v 2) 1, d := some 5 }, { o := .mv (.c (.nil)), d := some 6 }] []) (.seq (.reg [{ o := .ld (.v 3) 1 true }, { o := .ca N.heads_persons 0 [] [.l 0] }, { o := .mf N.heads_Missing_1 [.v 3, .v 4, .v 5] }, { o := .ca N.lists_Where 0 [] [.l 1, .l 0] }, { o := .mv (.l 0), d := some 6 }] []) .ret)), res := [(6, none)] }
def ref27_Missing_l1b : C := (.seq (.ite [{ o := .mv (.v 6) }, { o := .ld (.v 3) 1 true }, { o := .ca N.ref27_people 0 [] [.l 0] }, { o := .bin .lss (.l 2) (.l 0) }] [] 0 .skip (.exit 0)) (.seq (.blk 1 (.ite [{ o := .ld (.v 3) 1 true }, { o := .mv (.v 6) }, { o := .mv (.v 1) }, { o := .ca N.ref26_Possible 0 [] [.l 2, .l 1, .l 0] }, { o := .ln (.l 0) }, { o := .mv (.v 2) }, { o := .bin .gtr (.l 1) (.l 0) }] [] 0 (.reg [{ o := .mv (.v 5) }, { o := .mv (.v 6) }, { o := .bs [.l 0] 1 }, { o := .app (.l 2) (.l 0) true 1 }, { o := .mv (.l 0), d := some 5 }] []) .skip)) (.reg [{ o := .mv (.v 6) }, { o := .bin .add (.l 0) (.i 1) }, { o := .mv (.l 0), d := some 6 }] [])))
def ref27_Missing_l1 : C := .loop true [0, 4] K.ref27_Missing_l1b
/-- /ref27.Missing -/
def ref27_Missing : Fn := { nargs := 3, vars := [0, 1, 2, 3, 6, 7, 8], body := (.seq (.reg [{ o := .bx (.v 0) 1, d := some 3 }, { o := .mv (.c (.nil)), d := some 4 }] []) (.seq (.reg [{ o := .nw 1, d := some 5 }] []) (.seq (.seq (.reg [{ o := .mv (.i 0), d := some 6 }] []) (.blk 0 K.ref27_Missing_l1)) (.seq (.reg [{ o := .mv (.v 5) }, { o := .mv (.l 0), d := some 4 }] []) .ret)))), res := [(4, none)] }
/-- /heads.look -/
def heads_look : Fn := { nargs := 4, vars := [0, 1, 2, 3, 4, 6, 8, 9, 10, 11], body := (.seq (.reg [{ o := .bx (.v 0) 2, d := some 4 }, { o := .bx (.v 2) 1, d := some 5 }, { o := .mv (.b false), d := some 6 }, { o := .mv (.b false), d := some 7 }] []) (.seq (.ite [{ o := .mv (.v 1) }, { o := .fa (.v 4) 1 }, { o := .ld (.l 0) 1 false }, { o := .ln (.l 0) }, { o := .bin .geq (.l 3) (.l 0) }] [] 0 (.seq (.reg [{ o := .mv (.b false), d := some 6 }, { o := .mv (.b false), d := some 7 }] []) .ret) .skip) (.seq (.reg [{ o := .fa (.v 4) 1 }, { o := .ld (.l 0) 1 false }, { o := .mv (.v 1) }, { o := .ia (.l 1) (.l 0) 2 }, { o := .ld (.l 0) 2 true }, { o := .mv (.v 3) }, { o := .ca N.places_Possible 0 [] [.l 1, .l 0] }, { o := .mv (.l 0), d := some 8 }] []) (.seq (.reg [{ o := .mf N.heads_look_1 [.v 5] }, { o := .al [.und] [], d := some 9 }, { o := .st (.l 0) (.l 1) 1 [] }] []) (.seq (.reg [{ o := .mv (.v 8) }, { o := .ld (.v 9) 1 false }, { o := .ca N.slices_ContainsFunc_int_int 0 [] [.l 1, .l 0] }, { o := .mv (.l 0), d := some 7 }] []) (.seq (.reg [{ o := .mv (.v 7) }, { o := .mv (.l 0) }, { o := .mv (.v 8), g := some (0, true) }, { o := .mf N.heads_look_2 [.v 9], g := some (1, true) }, { o := .ca N.slices_ContainsFunc_int_int 0 [] [.l 1, .l 0], g := some (2, true) }, { o := .un .not (.l 0), g := some (3, true) }, { o := .pk (.l 4) (.l 0) (.b false) }, { o := .mv (.v 7) }, { o := .mv (.l 1), d := some 6 }, { o := .mv (.l 1), d := some 7 }] []) .ret)))))), res := [(6, none), (7, none)] }
def ref27_state_l1b : C := (.seq (.ite [{ o := .mv (.v 8) }, { o := .mv (.v 5) }, { o := .ln (.l 0) }, { o := .bin .lss (.l 2) (.l 0) }] [] 0 .skip (.exit 0)) (.seq (.blk 1 (.ite [{ o := .mv (.v 1) }, { o := .mv (.v 5) }, { o := .mv (.v 8) }, { o := .ia (.l 1) (.l 0) 1 }, { o := .ld (.l 0) 1 false }, { o := .ca N.ref23_Has 0 [] [.l 4, .l 0] }] [] 0 (.reg [{ o := .mv (.b true), d := some 6 }] []) (.reg [{ o := .mv (.b false), d := some 7 }] []))) (.reg [{ o := .mv (.v 8) }, { o := .bin .add (.l 0) (.i 1) }, { o := .mv (.l 0), d := some 8 }] [])))
def ref27_state_l1 : C := .loop true [0, 2, 3, 4] K.ref27_state_l1b
/-- /ref27.state -/
def ref27_state : Fn := { nargs := 3, vars := [0, 1, 2, 3, 6, 7, 8, 9, 10], body := (.seq (.reg [{ o := .bx (.v 0) 2, d := some 3 }, { o := .mv (.i 0), d := some 4 }] []) (.seq (.reg [{ o := .ld (.v 3) 2 true }, { o := .mv (.v 2) }, { o := .ca N.ref25_Possible 0 [] [.l 1, .l 0] }, { o := .mv (.l 0), d := some 5 }] []) (.seq (.reg [{ o := .mv (.b false), d := some 6 }, { o := .mv (.b true), d := some 7 }] []) (.seq (.seq (.reg [{ o := .mv (.i 0), d := some 8 }] []) (.blk 0 K.ref27_state_l1)) (.seq (.ite [{ o := .mv (.v 6) }, { o := .mv (.l 0) }, { o := .mv (.v 7), g := some (0, true) }, { o := .pk (.l 1) (.l 0) (.b false) }] [] 0 (.seq (.reg [{ o := .mv (.i 2), d := some 4 }] []) .ret) .skip) (.seq (.ite [{ o := .mv (.v 6) }] [] 0 (.seq (.reg [{ o := .mv (.i 1), d := some 4 }] []) .ret) .skip) (.seq (.reg [{ o := .mv (.i 0), d := some 4 }] []) .ret))))))), res := [(4, none)] }
/-- /heads.persons -/
def heads_persons : Fn := { nargs := 1, vars := [0, 1, 2], body := (.seq (.reg [{ o := .bx (.v 0) 1, d := some 1 }, { o := .mv (.i 0), d := some 2 }] []) (.seq (.ite [{ o := .fa (.v 1) 0 }, { o := .ld (.l 0) 1 false }, { o := .ln (.l 0) }, { o := .bin .eql (.l 0) (.i 0) }] [] 0 (.seq (.reg [{ o := .mv (.i 0), d := some 2 }] []) .ret) .skip) (.seq (.reg [{ o := .fa (.v 1) 0 }, { o := .ld (.l 0) 1 false }, { o := .ia (.l 0) (.i 0) 2 }, { o := .fa (.l 0) 1 }, { o := .ld (.l 0) 1 false }, { o := .ln (.l 0) }, { o := .mv (.l 0), d := some 2 }] []) .ret))), res := [(2, none)] }
/-- /heads.Sure.1 -/
def heads_Sure_1 : Fn := { nargs := 4, vars := [0, 1, 2, 3, 4, 5], body := (.seq (.reg [{ o := .bx (.v 0) 1, d := some 4 }, { o := .mv (.b false), d := some 5 }] []) (.seq (.reg [{ o := .fa (.v 1) 0 }, { o := .ld (.l 0) 1 false }, { o := .mf N.heads_Sure_1_1 [.v 4, .v 2, .v 3] }, { o := .ca N.slices_ContainsFunc_api_World_api_World 0 [] [.l 1, .l 0] }, { o := .un .not (.l 0) }, { o := .mv (.l 0), d := some 5 }] []) .ret)), res := [(5, none)] }
/-- /heads.Sure.1.1 -/
def heads_Sure_1_1 : Fn := { nargs := 4, vars := [0, 1, 2, 3, 4, 5, 6], body := (.seq (.reg [{ o := .bx (.v 0) 2, d := some 4 }, { o := .mv (.b false), d := some 5 }] []) (.seq (.reg [{ o := .ld (.v 4) 2 true }, { o := .ld (.v 1) 1 false }, { o := .ld (.v 2) 1 false }, { o := .ld (.v 3) 1 false }, { o := .ca N.heads_look 0 [] [.l 3, .l 2, .l 1, .l 0] }, { o := .mv (.l 0) }, { o := .ex (.l 0) 0 }, { o := .ex (.l 1) 1 }, { o := .mv (.l 1), d := some 6 }, { o := .mv (.l 1) }] []) (.seq (.reg [{ o := .mv (.v 6) }, { o := .un .not (.l 0) }, { o := .mv (.l 0), d := some 5 }] []) .ret))), res := [(5, none)] }
/-- /ref27.people -/
def ref27_people : Fn := { nargs := 1, vars := [0, 1, 2], body := (.seq (.reg [{ o := .bx (.v 0) 1, d := some 1 }, { o := .mv (.i 0), d := some 2 }] []) (.seq (.ite [{ o := .fa (.v 1) 0 }, { o := .ld (.l 0) 1 false }, { o := .ln (.l 0) }, { o := .bin .eql (.l 0) (.i 0) }] [] 0 (.seq (.reg [{ o := .mv (.i 0), d := some 2 }] []) .ret) .skip) (.seq (.reg [{ o := .fa (.v 1) 0 }, { o := .ld (.l 0) 1 false }, { o := .ia (.l 0) (.i 0) 2 }, { o := .fa (.l 0) 1 }, { o := .ld (.l 0) 1 false }, { o := .ln (.l 0) }, { o := .mv (.l 0), d := some 2 }] []) .ret))), res := [(2, none)] }
/-- /heads.Maybe.1 -/
def heads_Maybe_1 : Fn := { nargs := 4, vars := [0, 1, 2, 3, 4, 5], body := (.seq (.reg [{ o := .bx (.v 0) 1, d := some 4 }, { o := .mv (.b false), d := some 5 }] []) (.seq (.reg [{ o := .fa (.v 1) 0 }, { o := .ld (.l 0) 1 false }, { o := .mf N.heads_Maybe_1_1 [.v 4, .v 2, .v 3] }, { o := .ca N.slices_ContainsFunc_api_World_api_World 0 [] [.l 1, .l 0] }, { o := .mv (.l 0), d := some 5 }] []) .ret)), res := [(5, none)] }
/-- /heads.Maybe.1.1 -/
def heads_Maybe_1_1 : Fn := { nargs := 4, vars := [0, 1, 2, 3, 4, 5, 7], body := (.seq (.reg [{ o := .bx (.v 0) 2, d := some 4 }, { o := .mv (.b false), d := some 5 }] []) (.seq (.reg [{ o := .ld (.v 4) 2 true }, { o := .ld (.v 1) 1 false }, { o := .ld (.v 2) 1 false }, { o := .ld (.v 3) 1 false }, { o := .ca N.heads_look 0 [] [.l 3, .l 2, .l 1, .l 0] }, { o := .mv (.l 0) }, { o := .ex (.l 0) 0 }, { o := .ex (.l 1) 1 }, { o := .mv (.l 1) }, { o := .mv (.l 1), d := some 6 }] []) (.seq (.reg [{ o := .mv (.v 6) }, { o := .mv (.l 0), d := some 5 }] []) .ret))), res := [(5, none)] }
/-- /heads.Missing.1 -/
def heads_Missing_1 : Fn := { nargs := 4, vars := [0, 1, 2, 3, 5], body := (.seq (.reg [{ o := .mv (.b false), d := some 4 }] []) (.seq (.reg [{ o := .ld (.v 1) 1 true }, { o := .mv (.v 0) }, { o := .ld (.v 2) 1 false }, { o := .ca N.swaps_Possible 0 [] [.l 2, .l 1, .l 0] }, { o := .ln (.l 0) }, { o := .ld (.v 3) 1 false }, { o := .bin .gtr (.l 1) (.l 0) }, { o := .mv (.l 0), d := some 4 }] [(5, 0)]) .ret)), res := [(4, none)] }
/-- /places.Possible -/
def places_Possible : Fn := { nargs := 2, vars := [0, 1, 2, 3, 4], body := (.seq (.reg [{ o := .bx (.v 0) 2, d := some 2 }, { o := .bx (.v 1) 1, d := some 3 }, { o := .mv (.c (.nil)), d := some 4 }] []) (.seq (.reg [{ o := .fa (.v 2) 1 }, { o := .ld (.l 0) 1 false }, { o := .ln (.l 0) }, { o := .mf N.places_Possible_1 [.v 2, .v 3] }, { o := .ca N.lists_Where 0 [] [.l 1, .l 0] }, { o := .mv (.l 0), d := some 4 }] []) .ret)), res := [(4, none)] }
/-- /heads.look.1 -/
def heads_look_1 : Fn := { nargs := 2, vars := [0, 1, 3], body := (.seq (.reg [{ o := .mv (.b false), d := some 2 }] []) (.seq (.reg [{ o := .ld (.v 1) 1 false }, { o := .mv (.v 0) }, { o := .ca N.slices_Contains_int_int 0 [] [.l 1, .l 0] }, { o := .mv (.l 0), d := some 2 }] []) .ret)), res := [(2, none)] }
/-- /heads.look.2 -/
def heads_look_2 : Fn := { nargs := 2, vars := [0, 1, 3], body := (.seq (.reg [{ o := .mv (.b false), d := some 2 }] []) (.seq (.reg [{ o := .ld (.v 1) 1 false }, { o := .mv (.v 0) }, { o := .cw (.l 1) 0 [] [.l 0] }, { o := .un .not (.l 0) }, { o := .mv (.l 0), d := some 2 }] []) .ret)), res := [(2, none)] }
/-- /places.Possible.1 -/
def places_Possible_1 : Fn := { nargs := 3, vars := [0, 1, 2, 4], body := (.seq (.reg [{ o := .mv (.b false), d := some 3 }] []) (.seq (.reg [{ o := .fa (.v 1) 1 }, { o := .ld (.l 0) 1 false }, { o := .mv (.v 0) }, { o := .ia (.l 1) (.l 0) 1 }, { o := .ld (.l 0) 1 false }, { o := .ld (.v 2) 1 false }, { o := .bin .leq (.l 1) (.l 0) }, { o := .mv (.l 0), d := some 3 }] []) .ret)), res := [(3, none)] }
end Go.Ev.K
namespace Go.Ev
class Has5 [Lib] : Prop where
  t_law27_HeadsMore : Lib.fs N.law27_HeadsMore = some K.law27_HeadsMore
  t_law27_HeadsSplit : Lib.fs N.law27_HeadsSplit = some K.law27_HeadsSplit
  t_law27_HeadsAll : Lib.fs N.law27_HeadsAll = some K.law27_HeadsAll
  t_law27_HeadsTrue : Lib.fs N.law27_HeadsTrue = some K.law27_HeadsTrue
  t_law27_awake : Lib.fs N.law27_awake = some K.law27_awake
  t_heads_Count : Lib.fs N.heads_Count = some K.heads_Count
  t_ref27_Count : Lib.fs N.ref27_Count = some K.ref27_Count
  t_heads_Sure : Lib.fs N.heads_Sure = some K.heads_Sure
  t_ref27_Sure : Lib.fs N.ref27_Sure = some K.ref27_Sure
  t_heads_Maybe : Lib.fs N.heads_Maybe = some K.heads_Maybe
  t_ref27_Maybe : Lib.fs N.ref27_Maybe = some K.ref27_Maybe
  t_heads_Missing : Lib.fs N.heads_Missing = some K.heads_Missing
  t_ref27_Missing : Lib.fs N.ref27_Missing = some K.ref27_Missing
  t_heads_look : Lib.fs N.heads_look = some K.heads_look
  t_ref27_state : Lib.fs N.ref27_state = some K.ref27_state
  t_heads_persons : Lib.fs N.heads_persons = some K.heads_persons
  t_heads_Sure_1 : Lib.fs N.heads_Sure_1 = some K.heads_Sure_1
  t_heads_Sure_1_1 : Lib.fs N.heads_Sure_1_1 = some K.heads_Sure_1_1
  t_ref27_people : Lib.fs N.ref27_people = some K.ref27_people
  t_heads_Maybe_1 : Lib.fs N.heads_Maybe_1 = some K.heads_Maybe_1
  t_heads_Maybe_1_1 : Lib.fs N.heads_Maybe_1_1 = some K.heads_Maybe_1_1
  t_heads_Missing_1 : Lib.fs N.heads_Missing_1 = some K.heads_Missing_1
  t_places_Possible : Lib.fs N.places_Possible = some K.places_Possible
  t_heads_look_1 : Lib.fs N.heads_look_1 = some K.heads_look_1
  t_heads_look_2 : Lib.fs N.heads_look_2 = some K.heads_look_2
  t_places_Possible_1 : Lib.fs N.places_Possible_1 = some K.places_Possible_1
namespace K
variable [Lib] [Has5]
theorem t_law27_HeadsMore : Lib.fs N.law27_HeadsMore = some K.law27_HeadsMore := Has5.t_law27_HeadsMore
theorem t_law27_HeadsSplit : Lib.fs N.law27_HeadsSplit = some K.law27_HeadsSplit := Has5.t_law27_HeadsSplit
theorem t_law27_HeadsAll : Lib.fs N.law27_HeadsAll = some K.law27_HeadsAll := Has5.t_law27_HeadsAll
theorem t_law27_HeadsTrue : Lib.fs N.law27_HeadsTrue = some K.law27_HeadsTrue := Has5.t_law27_HeadsTrue
theorem t_law27_awake : Lib.fs N.law27_awake = some K.law27_awake := Has5.t_law27_awake
theorem t_heads_Count : Lib.fs N.heads_Count = some K.heads_Count := Has5.t_heads_Count
theorem t_ref27_Count : Lib.fs N.ref27_Count = some K.ref27_Count := Has5.t_ref27_Count
theorem t_heads_Sure : Lib.fs N.heads_Sure = some K.heads_Sure := Has5.t_heads_Sure
theorem t_ref27_Sure : Lib.fs N.ref27_Sure = some K.ref27_Sure := Has5.t_ref27_Sure
theorem t_heads_Maybe : Lib.fs N.heads_Maybe = some K.heads_Maybe := Has5.t_heads_Maybe
theorem t_ref27_Maybe : Lib.fs N.ref27_Maybe = some K.ref27_Maybe := Has5.t_ref27_Maybe
theorem t_heads_Missing : Lib.fs N.heads_Missing = some K.heads_Missing := Has5.t_heads_Missing
theorem t_ref27_Missing : Lib.fs N.ref27_Missing = some K.ref27_Missing := Has5.t_ref27_Missing
theorem t_heads_look : Lib.fs N.heads_look = some K.heads_look := Has5.t_heads_look
theorem t_ref27_state : Lib.fs N.ref27_state = some K.ref27_state := Has5.t_ref27_state
theorem t_heads_persons : Lib.fs N.heads_persons = some K.heads_persons := Has5.t_heads_persons
theorem t_heads_Sure_1 : Lib.fs N.heads_Sure_1 = some K.heads_Sure_1 := Has5.t_heads_Sure_1
theorem t_heads_Sure_1_1 : Lib.fs N.heads_Sure_1_1 = some K.heads_Sure_1_1 := Has5.t_heads_Sure_1_1
theorem t_ref27_people : Lib.fs N.ref27_people = some K.ref27_people := Has5.t_ref27_people
theorem t_heads_Maybe_1 : Lib.fs N.heads_Maybe_1 = some K.heads_Maybe_1 := Has5.t_heads_Maybe_1
theorem t_heads_Maybe_1_1 : Lib.fs N.heads_Maybe_1_1 = some K.heads_Maybe_1_1 := Has5.t_heads_Maybe_1_1
theorem t_heads_Missing_1 : Lib.fs N.heads_Missing_1 = some K.heads_Missing_1 := Has5.t_heads_Missing_1
theorem t_places_Possible : Lib.fs N.places_Possible = some K.places_Possible := Has5.t_places_Possible
theorem t_heads_look_1 : Lib.fs N.heads_look_1 = some K.heads_look_1 := Has5.t_heads_look_1
theorem t_heads_look_2 : Lib.fs N.heads_look_2 = some K.heads_look_2 := Has5.t_heads_look_2
theorem t_places_Possible_1 : Lib.fs N.places_Possible_1 = some K.places_Possible_1 := Has5.t_places_Possible_1
end K
end Go.Ev

/- The program: head counts. -/
namespace Go.Ev
open Go
variable [Lib] [Has1] [Has2] [Has5]

/- a closure over any variables -/
abbrev lkH (area : List Int) : Heap := [.box [.fn N.heads_look_1 [.bp 1 0]], .box [.t (tL area)]]
def canF (w : Wh) (area : List Int) (t : Int) : Bool := (possF w t).any fun x => decide (x ∈ area)
def isF (w : Wh) (area : List Int) (t : Int) : Bool := canF w area t && !((possF w t).any fun x => !decide (x ∈ area))
def lookF (x : World) (i : Nat) (area : List Int) (t : Int) : Bool × Bool := if x.whr.length ≤ i then (false, false) else (isF (nth x.whr i) area t, canF (nth x.whr i) area t)

end Go.Ev

/- PlacesRaw. -/
namespace Go.Ev
open Go
variable [Lib] [Has1] [Has2] [Has3] [Has4] [Has5] [Has6] [Has7] [Has8] [Has9]

end Go.Ev

/- PlacesJoins. -/
namespace Go.Ev
open Go
variable [Lib] [Has1] [Has2] [Has3] [Has4] [Has5] [Has6] [Has7] [Has8] [Has9]

end Go.Ev

/- PlacesLess. -/
namespace Go.Ev
open Go
variable [Lib] [Has1] [Has2] [Has3] [Has4] [Has5] [Has6] [Has7] [Has8] [Has9]

theorem abs_cases {m : Mine} (h : m.ok) {w : Wh} (hv : validB m w = true) (l : List Int) (a b bl : Int) :
    (absF m w l a b bl = (⟨b, closeF m b none (closeF m (b - bl) (some l) (absN w.frm l l.length))⟩, 0) ∧ askedF m w l a b = 0 ∧ w.time ≤ b ∧ max a w.time < b - bl ∧ inT bl ∧
      (closeF m (b - bl) (some l) (absN w.frm l l.length)).length = m.places.length ∧ (∀ x ∈ closeF m (b - bl) (some l) (absN w.frm l l.length), plT x)) ∨
    ((absF m w l a b bl).1 = w ∧ ((absF m w l a b bl).2 = 0 → w.time ≤ b ∧ askedF m w l a b = 0)) := by
  by_cases c0 : askedF m w l a b = 0
  · obtain ⟨-, h0, hs, ia, ib, hab⟩ := askedF_0 c0
    by_cases c1 : inT bl
    · by_cases c2 : b < w.time
      · right; unfold absF; rw [if_neg (by simpa using c0), if_neg (fun x => x c1), if_pos c2]; exact ⟨rfl, by simp⟩
      · by_cases c3 : b - max a w.time ≤ bl
        · right; unfold absF; rw [if_neg (by simpa using c0), if_neg (fun x => x c1), if_neg c2, if_pos c3]; exact ⟨rfl, fun _ => ⟨by omega, c0⟩⟩
        · left
          obtain ⟨v1, v2, v3, -⟩ := validB_spec hv
          have pl : ∀ x ∈ absN w.frm l l.length, plT x := by
            have key : ∀ k, ∀ x ∈ absN w.frm l k, plT x := by
              intro k
              induction k with
              | zero => exact v3
              | succ k ih =>
                intro x hx
                rcases List.mem_or_eq_of_mem_set hx with hx | hx
                · exact ih x hx
                · exact .inl hx
            exact key _
          have bn : bnd (absN w.frm l l.length) := fun x hx => plT_bnd (pl x hx)
          unfold inT at ia c1 v2 ib
          refine ⟨?_, c0, by omega, by omega, c1, (closeF_lb h (by rw [absN_len]; exact v1) bn).1, closeF_mem h plT (by rw [absN_len]; exact v1) bn pl (fun x h1 h2 => .inr ⟨by omega, h2⟩)⟩
          unfold absF; rw [if_neg (by simpa using c0), if_neg (fun x => x (by unfold inT; omega)), if_neg c2, if_neg c3]
    · right; unfold absF; rw [if_neg (by simpa using c0), if_pos c1]; exact ⟨rfl, by simp⟩
  · right; unfold absF; rw [if_pos c0]; exact ⟨rfl, fun h => absurd h c0⟩
theorem abs_valid {m : Mine} (h : m.ok) {w : Wh} (hv : validB m w = true) (l : List Int) (a b bl : Int) : validB m (absF m w l a b bl).1 = true := by
  rcases abs_cases h hv l a b bl with ⟨e, c0, -, hm, hbl, ln, pl⟩ | ⟨e, -⟩
  · obtain ⟨-, -, hs, ia, ib, hab⟩ := askedF_0 c0
    rw [e]
    exact close_valid h ln pl (by unfold inT at ib; omega) (Int.le_refl _) ib
  · rw [e]; exact hv
def newRoad (n : Nat) : Road := ⟨0, (n : Int) - 1, 30, 1, true, false, 1, 1, 0, 0⟩
end Go.Ev

/- Closing times are shifted with the clock. -/
namespace Go.Ev
open Go
variable [Lib] [Has1] [Has2]

def finN : List Int → Nat
  | [] => 0
  | x :: r => (if x < 1099511627776 then 1 else 0) + finN r
theorem finN_le : ∀ l, finN l ≤ l.length
  | [] => Nat.le_refl _
  | x :: r => by
    have := finN_le r
    simp only [finN, List.length_cons]
    split <;> omega
theorem finN_set : ∀ (l : List Int) (q : Nat) (x : Int), q < l.length → x < 1099511627776 → finN (l.set q x) = finN l + (if nth l q < 1099511627776 then 0 else 1)
  | [], q, x, h, _ => by simp at h
  | y :: r, 0, x, _, hx => by
    have e : nth (y :: r) 0 = y := rfl
    simp only [List.set_cons_zero, finN, e, if_pos hx]
    split <;> omega
  | y :: r, q + 1, x, h, hx => by
    have e : nth (y :: r) (q + 1) = nth r q := rfl
    have ih := finN_set r q x (by simpa using h) hx
    simp only [List.set_cons_succ, finN, e, ih]
    omega
/-- How late a closing's times can be. -/
theorem closeF_fin {m : Mine} (h : m.ok) {t K : Int} {into : Option (List Int)} {l : List Int} (hl : l.length = m.places.length) (hb : bnd l) (ht : t ≤ K) (hk : ∀ j, nth l j < 1099511627776 → nth l j ≤ K) (h0 : 0 ≤ K) (j : Nat) (hj : nth (closeF m t into l) j < 1099511627776) :
    nth (closeF m t into l) j ≤ K + (m.places.length : Int) * 1000012 := by
  have lb := closeF_lb h (t := t) (into := into) hl hb
  have f := closeF_inv h (t := t) (into := into) (fun l' => ∀ j, nth l' j < 1099511627776 → nth l' j ≤ K + (finN l' : Int) * 1000012) (fun l' hl' hb' hp k hk back => by
    have r1 := Road.src_ok (h.rs _ (nth_mem hk)) back
    have r2 := Road.dst_ok (h.rs _ (nth_mem hk)) back
    have w := (walkT_lo h k hk back).2
    rcases halfF_is (m := m) t into k back l' with ⟨c1, c2, c3, c4, c5, e⟩ | ⟨e, _⟩
    · rw [e]; simp only
      intro i hi
      have fs := finN_set l' ((nth m.roads k).dst back).toNat (max t (nth l' ((nth m.roads k).src back).toNat + walkT m k back 6 9 12)) (by omega) (by omega)
      have ps := hp _ c3
      have pd := hp ((nth m.roads k).dst back).toNat
      rw [set_nthW _ _ (by omega)] at hi ⊢
      rw [fs]
      split
      · split at hi
        · split
          · rename_i hf
            have := pd hf
            omega
          · omega
        · rename_i a b; exact absurd a b
      · rename_i hne
        rw [if_neg hne] at hi
        have := hp i hi
        split <;> omega
    · rw [e]; exact hp) hl hb (fun j hj => by have := hk j hj; omega) j hj
  have := finN_le (closeF m t into l)
  rw [lb.1] at this
  omega

def sh (s x : Int) : Int := if x < 1099511627776 then x + s else x
def shL (s : Int) (l : List Int) : List Int := l.map (sh s)
theorem shL_nth (s : Int) {l : List Int} {j : Nat} (hj : j < l.length) : nth (shL s l) j = sh s (nth l j) := nth_eq (by rw [shL, map_nth _ hj])
@[simp] theorem shL_len (s : Int) (l : List Int) : (shL s l).length = l.length := List.length_map ..
theorem shL_set (s : Int) (l : List Int) (q : Nat) (x : Int) : shL s (l.set q x) = (shL s l).set q (sh s x) := List.map_set ..
theorem clW_shift {m : Mine} (h : m.ok) {t s : Int} (hs : 0 ≤ s) {into : Option (List Int)} {y : List Int} (hl : y.length = m.places.length) (hy : clW m t into y) : clW m (t + s) into (shL s y) := by
  intro k hk back h1 h2 h3 h4
  have r1 := Road.src_ok (h.rs _ (nth_mem hk)) back
  have r2 := Road.dst_ok (h.rs _ (nth_mem hk)) back
  rw [shL_nth _ (by omega)] at h3 h4 ⊢
  rw [shL_nth _ (by omega)]
  unfold sh at *
  have := hy k hk back h1 h2
  split at h3
  · rename_i c
    rw [if_pos c] at h4 ⊢
    have := this c (by omega)
    split <;> omega
  · rename_i c; exact absurd h3 c
theorem shift_close {m : Mine} (h : m.ok) {t s K : Int} (hs : 0 ≤ s) (h0 : 0 ≤ t) (ht : t ≤ K) {into : Option (List Int)} {l : List Int} (hl : l.length = m.places.length) (hp : ∀ x ∈ l, plT x) (hk : ∀ j, nth l j < 1099511627776 → nth l j ≤ K)
    (hK : K + s + (m.places.length : Int) * 1000012 + 1000012 ≤ 2147483648) : closeF m (t + s) into (shL s l) = shL s (closeF m t into l) := by
  have bl : bnd l := fun x hx => plT_bnd (hp x hx)
  have sp : ∀ x ∈ shL s l, plT x := by
    intro x hx
    obtain ⟨j, hj⟩ := List.mem_iff_getElem?.1 hx
    have jl := (List.getElem?_eq_some_iff.1 hj).1
    simp only [shL_len] at jl
    have e := shL_nth s jl
    rw [nth_eq hj] at e
    have p := hp _ (nth_mem jl)
    have k := hk j
    rw [e]
    unfold sh plT inT at *
    split <;> omega
  have bs : bnd (shL s l) := fun x hx => plT_bnd (sp x hx)
  obtain ⟨yl, yb⟩ := closeF_lb h (t := t) (into := into) hl bl
  have yp := closeF_mem h (t := t) (into := into) plT hl bl hp (fun x h1 h2 => .inr ⟨by omega, h2⟩)
  have yc := closeF_cl h (t := t) (into := into) hl bl
  have yle := closeF_le h (t := t) (into := into) hl bl
  have ygt := fun {y : List Int} (hy : clW m t into y) => closeF_ge h hy hl bl
  obtain ⟨zl, zb⟩ := closeF_lb h (t := t + s) (into := into) (l := shL s l) (by simp [hl]) bs
  have zc := closeF_cl h (t := t + s) (into := into) (l := shL s l) (by simp [hl]) bs
  have zle := closeF_le h (t := t + s) (into := into) (l := shL s l) (by simp [hl]) bs
  have zge := fun {y : List Int} (hy : clW m (t + s) into y) => closeF_ge h hy (l := shL s l) (by simp [hl]) bs
  have zf := closeF_fin h (t := t + s) (K := K + s) (into := into) (l := shL s l) (by simp [hl]) bs (by omega) (fun j hj => by
    by_cases jl : j < l.length
    · rw [shL_nth s jl] at hj ⊢
      have := hk j
      unfold sh at *
      split at hj
      · rename_i c; rw [if_pos c]; have := this c; omega
      · rename_i c; exact absurd hj c
    · rw [nth_outW (by simp; omega)]; omega) (by omega)
  generalize closeF m t into l = y at *
  generalize closeF m (t + s) into (shL s l) = z at *
  apply ext_nthW (by rw [zl, shL_len, yl])
  intro j hj
  rw [zl] at hj
  apply Int.le_antisymm
  · let u : List Int := (List.range m.places.length).map fun i => if nth z i < 1099511627776 then nth z i - s else nth z i
    have un : ∀ i, i < m.places.length → nth u i = if nth z i < 1099511627776 then nth z i - s else nth z i := fun i hi => nth_eq (by simp [u, hi])
    have ul : u.length = m.places.length := by simp [u]
    have key := ygt (y := u) (by
      intro k hk' back h1 h2 h3 h4
      have r1 := Road.src_ok (h.rs _ (nth_mem hk')) back
      have r2 := Road.dst_ok (h.rs _ (nth_mem hk')) back
      have w := (walkT_lo h k hk' back).2
      have f := zf ((nth m.roads k).src back).toNat
      have c := zc k hk' back h1 h2
      rw [un _ (by omega)] at h3 h4 ⊢
      rw [un _ (by omega)]
      split at h3
      · rename_i d
        rw [if_pos d] at h4 ⊢
        have f := f d
        have c := c d (by omega)
        rw [if_pos (by omega)]
        omega
      · rename_i d; exact absurd h3 d) (fun i => by
      by_cases hi : i < m.places.length
      · have a := zle i
        have b := (zb _ (nth_mem (l := z) (j := i) (by omega))).2
        rw [un i hi]
        rw [shL_nth s (by omega)] at a
        have p := hp _ (nth_mem (l := l) (j := i) (by omega))
        unfold sh plT inT at *
        split at a <;> split <;> omega
      · rw [nth_outW (by omega), nth_outW (by omega)]; omega) j
    rw [un j hj] at key
    rw [shL_nth s (by omega)]
    have p := yp _ (nth_mem (l := y) (j := j) (by omega))
    have b := (zb _ (nth_mem (l := z) (j := j) (by omega))).2
    unfold sh plT inT at *
    split at key <;> split <;> omega
  · refine zge (clW_shift h hs yl yc) (fun i => ?_) j
    by_cases hi : i < m.places.length
    · rw [shL_nth s (by omega), shL_nth s (by omega)]
      have a := yle i
      have p := yp _ (nth_mem (l := y) (j := i) (by omega))
      have q := hp _ (nth_mem (l := l) (j := i) (by omega))
      have k := hk i
      unfold sh plT inT at *
      split <;> split <;> omega
    · rw [nth_outW (by simp; omega), nth_outW (by simp; omega)]; omega
end Go.Ev

/- PlacesShift. -/
namespace Go.Ev
open Go
variable [Lib] [Has1] [Has2] [Has3] [Has4] [Has5] [Has6] [Has7] [Has8] [Has9]

def shW (s : Int) (w : Wh) : Wh := ⟨w.time + s, shL s w.frm⟩
/-- The times are not too late. -/
def FB (K : Int) (w : Wh) : Prop := ∀ j, nth w.frm j < 1099511627776 → nth w.frm j ≤ K
theorem shL_pl {s K : Int} (hs : 0 ≤ s) {l : List Int} (hp : ∀ x ∈ l, plT x) (hk : ∀ j, nth l j < 1099511627776 → nth l j ≤ K) (hK : K + s ≤ 2147483648) : ∀ x ∈ shL s l, plT x := by
  intro x hx
  obtain ⟨j, hj⟩ := List.mem_iff_getElem?.1 hx
  have jl := (List.getElem?_eq_some_iff.1 hj).1
  simp only [shL_len] at jl
  have e := shL_nth s jl
  rw [nth_eq hj] at e
  have p := hp _ (nth_mem jl)
  have k := hk j
  rw [e]
  unfold sh plT inT at *
  split <;> omega
theorem sh_valid {m : Mine} (h : m.ok) {s K : Int} (hs : 0 ≤ s) {w : Wh} (hv : validB m w = true) (hf : FB K w) (hK : K + s ≤ 2147483648) (ht : w.time + s ≤ 2147483648) : validB m (shW s w) = true := by
  obtain ⟨v1, v2, v3, -⟩ := validB_spec hv
  exact validB_of h (by simp [shW, v1]) (by unfold inT at *; simp only [shW]; omega) (shL_pl hs v3 hf hK) (clW_shift h hs v1 (validB_cl h hv))
theorem sh_asked {m : Mine} {w w' : Wh} (h1 : validB m w = true) (h2 : validB m w' = true) (l : List Int) {a b s : Int} (ha : 0 ≤ a) (hab : a ≤ b) (hs : 0 ≤ s) (hb : b + s ≤ 2147483648) : askedF m w' l (a + s) (b + s) = askedF m w l a b := by
  unfold askedF
  rw [h1, h2]
  split
  · rw [if_pos (by unfold inT; omega), if_pos (by unfold inT; omega)]
  · rfl
theorem shL_never (s : Int) (n : Nat) : shL s (neverL n) = neverL n := by
  simp [shL, neverL, sh]
theorem sh_seeN {s : Int} {w : Wh} (hw : ∀ x ∈ w.frm, plT x) {l : List Int} {b : Int} (hb : b + s ≤ 2147483648) (hs : 0 ≤ s) {n : Nat} (hn : w.frm.length = n) (hl : ∀ p ∈ l, 0 ≤ p ∧ p < n) : ∀ k, k ≤ l.length → seeN (shW s w) l (b + s) n k = (shL s (seeN w l b n k).1, (seeN w l b n k).2)
  | 0, _ => by simp [seeN, shL_never]
  | k + 1, hk => by
    have ih := sh_seeN hw hb hs hn hl k (by omega)
    have p := hl _ (nth_mem (l := l) (j := k) (by omega))
    have q := hw _ (nth_mem (l := w.frm) (j := (nth l k).toNat) (by omega))
    have e : nth (shW s w).frm (nth l k).toNat = sh s (nth w.frm (nth l k).toNat) := shL_nth s (by omega)
    simp only [seeN, seeStep]
    rw [e, ih]
    have c : (sh s (nth w.frm (nth l k).toNat) ≤ b + s) ↔ nth w.frm (nth l k).toNat ≤ b := by
      unfold sh plT inT at *
      split <;> omega
    by_cases d : nth w.frm (nth l k).toNat ≤ b
    · rw [if_pos (c.2 d), if_pos d]; simp only [shL_set]
    · rw [if_neg (fun x => d (c.1 x)), if_neg d]
theorem sh_absN (s : Int) (l0 l : List Int) : ∀ k, absN (shL s l0) l k = shL s (absN l0 l k)
  | 0 => rfl
  | k + 1 => by
    rw [absN, absN, sh_absN s l0 l k, shL_set]
    rfl
theorem sh_see {m : Mine} (h : m.ok) {s K : Int} (hs : 0 ≤ s) {w : Wh} (hv : validB m w = true) (hf : FB K w) (l : List Int) {a b : Int} (ha : 0 ≤ a) (haK : a ≤ K) (hab : a ≤ b) (hb : b + s ≤ 2147483648) (ht : w.time + s ≤ 2147483648)
    (hK : K + s + (m.places.length : Int) * 1000012 + 1000012 ≤ 2147483648) :
    seeF m (shW s w) l (a + s) (b + s) = (shW s (seeF m w l a b).1, (seeF m w l a b).2) ∧ FB (K + (m.places.length : Int) * 1000012) (seeF m w l a b).1 := by
  have v' := sh_valid h hs hv hf (by omega) ht
  have as := sh_asked hv v' l ha hab hs hb
  obtain ⟨v1, v2, v3, -⟩ := validB_spec hv
  have n0 : (0 : Int) ≤ (m.places.length : Int) * 1000012 := by omega
  have fb0 : FB (K + (m.places.length : Int) * 1000012) w := fun j hj => by have := hf j hj; omega
  have tt : (shW s w).time = w.time + s := rfl
  by_cases c0 : askedF m w l a b = 0
  · obtain ⟨-, -, hset, -, -, -⟩ := askedF_0 c0
    by_cases c1 : a < w.time
    · have e : seeF m w l a b = (w, 42) := by unfold seeF; rw [if_neg (by simpa using c0), if_pos c1]
      have e' : seeF m (shW s w) l (a + s) (b + s) = (shW s w, 42) := by
        unfold seeF; rw [as, if_neg (by simpa using c0), tt, if_pos (by omega)]
      rw [e, e']; exact ⟨rfl, fb0⟩
    · have ms := setB_memW hset
      have sn := sh_seeN v3 hb hs v1 ms l.length (Nat.le_refl _)
      cases c2 : (seeN w l b m.places.length l.length).2 with
      | false =>
        have e : seeF m w l a b = (w, 43) := by
          unfold seeF; rw [if_neg (by simpa using c0), if_neg c1]; simp only [c2]; rfl
        have e' : seeF m (shW s w) l (a + s) (b + s) = (shW s w, 43) := by
          unfold seeF; rw [as, if_neg (by simpa using c0), tt, if_neg (by omega), sn]; simp only [c2]; rfl
        rw [e, e']; exact ⟨rfl, fb0⟩
      | true =>
        have pl := seeN_pl (b := b) ms v3 v1
        have fk : ∀ j, nth (seeN w l b m.places.length l.length).1 j < 1099511627776 → nth (seeN w l b m.places.length l.length).1 j ≤ K := by
          intro j hj
          by_cases jl : j < m.places.length
          · rw [seeN_nth ms _ (Nat.le_refl _) j jl] at hj ⊢
            split
            · rename_i d; rw [if_pos d] at hj; exact hf j hj
            · rename_i d; rw [if_neg d] at hj; omega
          · rw [nth_outW (by rw [seeN_len]; omega)]; omega
        have sc := shift_close h hs ha haK (into := none) (l := (seeN w l b m.places.length l.length).1) (seeN_len ..) pl fk hK
        have e : seeF m w l a b = (⟨b, closeF m a none (seeN w l b m.places.length l.length).1⟩, 0) := by
          unfold seeF; rw [if_neg (by simpa using c0), if_neg c1]; simp only [c2]; rfl
        have e' : seeF m (shW s w) l (a + s) (b + s) = (⟨b + s, closeF m (a + s) none (shL s (seeN w l b m.places.length l.length).1)⟩, 0) := by
          unfold seeF; rw [as, if_neg (by simpa using c0), tt, if_neg (by omega), sn]; simp only [c2]; rfl
        rw [e, e', sc]
        exact ⟨rfl, fun j hj => by
          have := closeF_fin h (seeN_len ..) (fun x hx => plT_bnd (pl x hx)) haK fk (by omega) j hj
          exact this⟩
  · have e : seeF m w l a b = (w, askedF m w l a b) := by unfold seeF; rw [if_pos c0]
    have e' : seeF m (shW s w) l (a + s) (b + s) = (shW s w, askedF m w l a b) := by unfold seeF; rw [as, if_pos c0]
    rw [e, e']; exact ⟨rfl, fb0⟩
theorem sh_abs {m : Mine} (h : m.ok) {s K : Int} (hs : 0 ≤ s) {w : Wh} (hv : validB m w = true) (hf : FB K w) (l : List Int) {a b bl : Int} (ha : 0 ≤ a) (hbK : b ≤ K) (hab : a ≤ b) (hb : b + s ≤ 2147483648) (ht : w.time + s ≤ 2147483648)
    (hK : K + s + 2 * ((m.places.length : Int) * 1000012) + 1000012 ≤ 2147483648) :
    absF m (shW s w) l (a + s) (b + s) bl = (shW s (absF m w l a b bl).1, (absF m w l a b bl).2) ∧ FB (K + 2 * ((m.places.length : Int) * 1000012)) (absF m w l a b bl).1 := by
  have v' := sh_valid h hs hv hf (by omega) ht
  have as := sh_asked hv v' l ha hab hs hb
  obtain ⟨v1, v2, v3, -⟩ := validB_spec hv
  have n0 : (0 : Int) ≤ (m.places.length : Int) * 1000012 := by omega
  have fb0 : FB (K + 2 * ((m.places.length : Int) * 1000012)) w := fun j hj => by have := hf j hj; omega
  have tt : (shW s w).time = w.time + s := rfl
  have ff : (shW s w).frm = shL s w.frm := rfl
  rcases abs_cases h hv l a b bl with ⟨e, c0, ht2, hm, hbl, ln, pl⟩ | ⟨e, e2⟩
  · obtain ⟨-, -, hset, -, -, -⟩ := askedF_0 c0
    have ms := setB_memW hset
    unfold inT at hbl v2
    have bw : bnd w.frm := fun x hx => plT_bnd (v3 x hx)
    have pl0 : ∀ x ∈ absN w.frm l l.length, plT x := by
      have key : ∀ k, ∀ x ∈ absN w.frm l k, plT x := by
        intro k
        induction k with
        | zero => exact v3
        | succ k ih =>
          intro x hx
          rcases List.mem_or_eq_of_mem_set hx with hx | hx
          · exact ih x hx
          · exact .inl hx
      exact key _
    have fk0 : ∀ j, nth (absN w.frm l l.length) j < 1099511627776 → nth (absN w.frm l l.length) j ≤ K := by
      intro j hj
      rw [absN_nth (fun p hp => by have := ms p hp; omega) _ (Nat.le_refl _)] at hj ⊢
      split
      · rename_i d; rw [if_pos d] at hj; omega
      · rename_i d; rw [if_neg d] at hj; exact hf j hj
    have l0 : (absN w.frm l l.length).length = m.places.length := by rw [absN_len]; exact v1
    have sc1 := shift_close h hs (t := b - bl) (K := K) (into := some l) (l := absN w.frm l l.length) (by omega) (by omega) l0 pl0 fk0 (by omega)
    have fk1 : ∀ j, nth (closeF m (b - bl) (some l) (absN w.frm l l.length)) j < 1099511627776 → nth (closeF m (b - bl) (some l) (absN w.frm l l.length)) j ≤ K + (m.places.length : Int) * 1000012 :=
      fun j hj => closeF_fin h l0 (fun x hx => plT_bnd (pl0 x hx)) (by omega) fk0 (by omega) j hj
    have sc2 := shift_close h hs (t := b) (K := K + (m.places.length : Int) * 1000012) (into := none) (l := closeF m (b - bl) (some l) (absN w.frm l l.length)) (by omega) (by omega) ln pl fk1 (by omega)
    have e' : absF m (shW s w) l (a + s) (b + s) bl = (⟨b + s, closeF m (b + s) none (closeF m (b + s - bl) (some l) (absN (shL s w.frm) l l.length))⟩, 0) := by
      unfold absF
      rw [as, if_neg (by simpa using c0), if_neg (fun x => x (by unfold inT; omega)), tt, if_neg (by omega), if_neg (by omega), ff]
    rw [e', e, sh_absN, show b + s - bl = b - bl + s by omega, sc1, sc2]
    exact ⟨rfl, fun j hj => by
      have := closeF_fin h ln (fun x hx => plT_bnd (pl x hx)) (by omega) fk1 (by omega) j hj
      show nth (closeF m b none (closeF m (b - bl) (some l) (absN w.frm l l.length))) j ≤ _
      omega⟩
  · have key : absF m (shW s w) l (a + s) (b + s) bl = (shW s w, (absF m w l a b bl).2) := by
      unfold absF at e e2 ⊢
      rw [as, tt]
      by_cases c0 : askedF m w l a b = 0
      · rw [if_neg (by simpa using c0)] at e e2 ⊢
        by_cases c1 : inT bl
        · rw [if_neg (fun x => x c1)] at e e2 ⊢
          by_cases c2 : b < w.time
          · rw [if_pos c2]; rw [if_pos (by omega)]; rw [if_neg (by simpa using c0), if_neg (fun x => x c1)]
          · rw [if_neg c2] at e e2 ⊢
            rw [if_neg (by omega)]
            by_cases c3 : b - max a w.time ≤ bl
            · rw [if_pos c3]; rw [if_pos (by omega)]; rw [if_neg (by simpa using c0), if_neg (fun x => x c1)]
            · rw [if_neg c3] at e
              exfalso
              have := congrArg Wh.time e
              simp only at this
              unfold inT at c1
              omega
        · rw [if_pos c1]; rw [if_pos c1]; rw [if_neg (by simpa using c0)]
      · rw [if_pos c0]; rw [if_pos c0]
    rw [key, e]
    exact ⟨rfl, fb0⟩
end Go.Ev

/- PlacesMade. -/
namespace Go.Ev
open Go
variable [Lib] [Has1] [Has2] [Has3] [Has4] [Has5] [Has6] [Has7] [Has8] [Has9]

theorem someW_x {d : Dice} (hd : d.light) (n : Nat) (hn : n ≤ 1000000) :
    ∃ (l : List Int) (e : Dice), CALL 0 N.made_Dice_Some [.bp 0 0, I n] [d.obj] = some (.t (tL l), [e.obj]) ∧ e.light ∧ l.length ≤ n :=
  ⟨_, _, some_ok d n hn hd, Dice.someN_light hd n, d.someN_len n⟩
def flipR (l : List Road) (k : Nat) : List Road := l.set k { nth l k with closed := !(nth l k).closed }
abbrev pmS (e : Dice) (m : Mine) (w v : Wh) (j : Int) : St := ⟨[.und, .und, .bp 0 0, .bp 1 0, .bp 2 0, .bp 3 0, I j, .und, .und, .und, .und, .und], [e.obj, .box (mineCells m), .box [I w.time, .t (tL w.frm)], .box [I v.time, .t (tL v.frm)]]⟩
end Go.Ev

/- PlacesShift's law. -/
namespace Go.Ev
open Go
variable [Lib] [Has1] [Has2] [Has3] [Has4] [Has5] [Has6] [Has7] [Has8] [Has9]

theorem abs_time {m : Mine} (h : m.ok) {w : Wh} (hv : validB m w = true) (l : List Int) (a b bl : Int) : (absF m w l a b bl).1.time = b ∨ (absF m w l a b bl).1.time = w.time := by
  rcases abs_cases h hv l a b bl with ⟨e, -⟩ | ⟨e, -⟩
  · left; rw [e]
  · right; rw [e]
abbrev psS (e : Dice) (m : Mine) (s : Int) (w : Wh) (now k : Int) : St := ⟨[.und, .und, .und, .bp 0 0, .bp 1 0, I s, .und, .bp 2 0, .und, .bp 3 0, .und, I now, I k, .und, .und, .und, .und, .und], [e.obj, .box (mineCells m), .box [I w.time, .t (tL w.frm)], .box [I (w.time + s), .t (tL (shL s w.frm))]]⟩
theorem ps_loop (e : Dice) (m : Mine) {s : Int} (hs : 0 ≤ s) (hs9 : s ≤ 100000) (t : Int) (f : List Int) (hp : ∀ x ∈ f, plT x) (hl : f.length ≤ 1000000) (to k : Int) :
    ∀ z0 z1 z2 z6 z8 z10 z11 z13 z15 z16 : D, exS CALL K.law25_PlacesShift_l2 ⟨[z0, z1, z2, .bp 0 0, .bp 1 0, I s, z6, .bp 2 0, z8, .bp 3 0, z10, z11, I k, z13, I to, z15, z16, I 0], [e.obj, .box (mineCells m), .box [I t, .t (tL f)], .box [I (t + s), .t (tL (shL s f))]]⟩ =
      some (.exit 2, ⟨[.und, .und, .und, .bp 0 0, .bp 1 0, I s, .und, .bp 2 0, .und, .bp 3 0, .und, .und, I k, .und, I to, .und, .und, I f.length], [e.obj, .box (mineCells m), .box [I t, .t (tL f)], .box [I (t + s), .t (tL (shL s f))]]⟩) := by
  intro z0 z1 z2 z6 z8 z10 z11 z13 z15 z16
  refine loop_up (fun j => ⟨[.und, .und, .und, .bp 0 0, .bp 1 0, I s, .und, .bp 2 0, .und, .bp 3 0, .und, .und, I k, .und, I to, .und, .und, I j], [e.obj, .box (mineCells m), .box [I t, .t (tL f)], .box [I (t + s), .t (tL (shL s f))]]⟩) f.length rfl ?_ ?_ (by simp)
  · intro j hj
    have q := hp _ (nth_mem (l := f) (j := j) hj)
    have x := shL_nth s hj
    have ln := shL_len s f
    generalize shL s f = g at *
    unfold sh at x
    unfold plT inT at q
    obtain ⟨places, roads⟩ := m
    simp only [mineCells] at *
    clear hp
    by_cases d : nth f j < 1099511627776
    · rw [if_pos d] at x
      have d1 : nth f j + s < 1099511627776 := by omega
      simp (disch := omega) only [go_sem, K.law25_PlacesShift_l2b, ↓reduceIte, d, x, d1, Nat.reduceAdd, Nat.reduceSub]
    · rw [if_neg d] at x
      simp (disch := omega) only [go_sem, K.law25_PlacesShift_l2b, ↓reduceIte, d, x, Nat.reduceAdd, Nat.reduceSub]
  · obtain ⟨places, roads⟩ := m
    simp only [mineCells] at *
    clear hp
    simp (disch := omega) only [go_sem, K.law25_PlacesShift_l2b, ↓reduceIte, Nat.reduceAdd, Nat.reduceSub]
def psP (m : Mine) (s : Int) (k0 j : Nat) (st : St) : Prop := ∃ (e : Dice) (w : Wh) (now : Int), st = psS e m s w now ((k0 : Int) - j) ∧ e.light ∧ validB m w = true ∧ FB (1000 + 150 * (j : Int) + (2 * (j : Int) + 1) * ((m.places.length : Int) * 1000012)) w ∧ w.time ≤ now ∧ 50 ≤ now ∧ now ≤ 50 + 150 * (j : Int)
theorem ps_round {m : Mine} (hm : m.ok) (h1 : 1 ≤ m.places.length) (h7 : m.places.length ≤ 7) {s : Int} (hs : 0 ≤ s) (hs9 : s ≤ 100000) {k0 j : Nat} (hk : k0 ≤ 6) (hj : j < k0) {st : St} (hP : psP m s k0 j st) :
    ∃ st', roundC true [0, 1, 2, 6, 8, 10, 13, 14, 15, 16, 17] st.H.length (exS CALL K.law25_PlacesShift_l1b st) = some st' ∧ psP m s k0 (j + 1) st' := by
  obtain ⟨e, w, now, rfl, el, hv, hf, ht, hn0, hn⟩ := hP
  have np := hm.np
  obtain ⟨v1, v2, v3, -⟩ := validB_spec hv
  unfold inT at v2
  obtain ⟨x, e1, xo, l1, x0, x9⟩ := next_x el 60 (by omega) (by omega)
  obtain ⟨y, e2, yo, l2, y0, y9⟩ := next_x l1 90 (by omega) (by omega)
  obtain ⟨l, e3, so, l3, sl⟩ := someW_x l2 m.places.length (by omega)
  obtain ⟨b, e4, bo, l4⟩ := one_x l3 2 (by omega) (by omega)
  have N7 : (m.places.length : Int) * 1000012 ≤ 7000084 := by omega
  have N0 : 0 ≤ (m.places.length : Int) * 1000012 := by omega
  have J : 0 ≤ (j : Int) ∧ (j : Int) ≤ 5 := by omega
  have KK : (2 * (j : Int) + 1) * ((m.places.length : Int) * 1000012) ≤ 11 * 7000084 := Int.mul_le_mul (by omega) N7 N0 (by omega)
  have K0 : 0 ≤ (2 * (j : Int) + 1) * ((m.places.length : Int) * 1000012) := Int.mul_nonneg (by omega) N0
  have KS : (2 * ((j + 1 : Nat) : Int) + 1) * ((m.places.length : Int) * 1000012) = (2 * (j : Int) + 1) * ((m.places.length : Int) * 1000012) + 2 * ((m.places.length : Int) * 1000012) := by
    rw [← Int.add_mul]; congr 1
  generalize hK : (2 * (j : Int) + 1) * ((m.places.length : Int) * 1000012) = KJ at *
  have v' := sh_valid hm hs hv hf (by omega) (by omega)
  obtain ⟨u1, -, -, -⟩ := validB_spec v'
  have kk : ((k0 : Int) - j) - 1 = (k0 : Int) - ((j + 1 : Nat) : Int) := by omega
  have q0 : 0 < (k0 : Int) - j := by omega
  have q9 : (k0 : Int) - j ≤ 6 := by omega
  cases b with
  | true =>
    have a1 := psee_ok hm h1 w (by omega) l (by omega) (now + x) (now + x + y)
    have a2 := psee_ok hm h1 (shW s w) (by omega) l (by omega) (now + x + s) (now + x + y + s)
    obtain ⟨sh, fb⟩ := sh_see hm hs hv hf l (a := now + x) (b := now + x + y) (by omega) (by omega) (by omega) (by omega) (by omega) (by omega)
    have sv := see_valid hm hv l (now + x) (now + x + y)
    have st := see_time hm hv l (now + x) (now + x + y)
    rw [sh] at a2
    generalize seeF m w l (now + x) (now + x + y) = q at *
    obtain ⟨⟨qt, qf⟩, q2⟩ := q
    obtain ⟨w1, w2, w3, -⟩ := validB_spec sv
    unfold inT at w2
    simp only at *
    have lp := ps_loop e4 m hs hs9 qt qf w3 (by omega) (now + x + y) ((k0 : Int) - j)
    refine ⟨psS e4 m s ⟨qt, qf⟩ (now + x + y) ((k0 : Int) - ((j + 1 : Nat) : Int)), ?_, e4, ⟨qt, qf⟩, now + x + y, rfl, l4, sv, ?_, by simp only; omega, by omega, by omega⟩
    · rw [← kk]
      clear fb st sv w3 v3 v' hf
      generalize (k0 : Int) - j = k at *
      obtain ⟨time, frm⟩ := w
      have ln := shL_len s frm
      have ln2 := shL_len s qf
      simp only [shW, psS] at *
      generalize shL s frm = g at *
      generalize shL s qf = g2 at *
      obtain ⟨places, roads⟩ := m
      simp only [mineCells] at *
      simp (disch := omega) only [go_sem, K.law25_PlacesShift_l1b, ↓reduceIte, xo, yo, so, bo, a1, a2, lp, Nat.reduceAdd, Nat.reduceSub]
    · intro i hi
      have := fb i hi
      rw [KS]
      omega
  | false =>
    obtain ⟨z, e5, zo, l5, z0, z9⟩ := next_x l4 60 (by omega) (by omega)
    have a1 := pabs_ok hm w (by omega) l (by omega) (now + x) (now + x + y) z
    have a2 := pabs_ok hm (shW s w) (by omega) l (by omega) (now + x + s) (now + x + y + s) z
    obtain ⟨sh, fb⟩ := sh_abs hm hs hv hf l (a := now + x) (b := now + x + y) (bl := z) (by omega) (by omega) (by omega) (by omega) (by omega) (by omega)
    have sv := abs_valid hm hv l (now + x) (now + x + y) z
    have st := abs_time hm hv l (now + x) (now + x + y) z
    rw [sh] at a2
    generalize absF m w l (now + x) (now + x + y) z = q at *
    obtain ⟨⟨qt, qf⟩, q2⟩ := q
    obtain ⟨w1, w2, w3, -⟩ := validB_spec sv
    unfold inT at w2
    simp only at *
    have lp := ps_loop e5 m hs hs9 qt qf w3 (by omega) (now + x + y) ((k0 : Int) - j)
    refine ⟨psS e5 m s ⟨qt, qf⟩ (now + x + y) ((k0 : Int) - ((j + 1 : Nat) : Int)), ?_, e5, ⟨qt, qf⟩, now + x + y, rfl, l5, sv, ?_, by simp only; omega, by omega, by omega⟩
    · rw [← kk]
      clear fb st sv w3 v3 v' hf
      generalize (k0 : Int) - j = k at *
      obtain ⟨time, frm⟩ := w
      have ln := shL_len s frm
      have ln2 := shL_len s qf
      simp only [shW, psS] at *
      generalize shL s frm = g at *
      generalize shL s qf = g2 at *
      obtain ⟨places, roads⟩ := m
      simp only [mineCells] at *
      simp (disch := omega) only [go_sem, K.law25_PlacesShift_l1b, ↓reduceIte, xo, yo, so, bo, zo, a1, a2, lp, Nat.reduceAdd, Nat.reduceSub]
    · intro i hi
      have := fb i hi
      rw [KS]
      omega
theorem PlacesShift_law (aw : CALL 0 N.law25_awake [] [] = some (B true, [])) (li : List Int) (more : Int) : CALL 0 N.law25_PlacesShift [.t (tL li), I more] [] = some (B true, []) := by
  refine CALL_of K.t_law25_PlacesShift rfl ?_
  have lo := light_ok li
  by_cases c : li.length ≤ 400
  · simp only [c, decide_true] at lo
    have ro := roll_x li
    have d0 : (Dice.mk li 0).light := c
    generalize (Dice.mk li 0) = d at *
    obtain ⟨m, e1, mo, l1, hm, p1, p2, r1, r2⟩ := mine_x d0
    have md := mod_ok more 100000 (by omega)
    have s0 := Mod_lo more 100000
    have s9 := Mod_hi more 100000 (by omega)
    generalize Mod more 100000 = s at *
    obtain ⟨p, e2, po, l2, p0, p9⟩ := next_x l1 m.places.length (by omega) (by omega)
    have a1 := pstart_ok hm (by omega) p 50
    have a2 := pstart_ok hm (by omega) p (50 + s)
    obtain ⟨se, sv⟩ := start_valid hm p0 p9 (t := 50) ⟨by omega, by omega⟩
    obtain ⟨se', sv'⟩ := start_valid hm p0 p9 (t := 50 + s) ⟨by omega, by omega⟩
    have ln : ((neverL m.places.length).set p.toNat 50).length = m.places.length := by simp
    have pl : ∀ x ∈ (neverL m.places.length).set p.toNat 50, plT x := by
      intro x hx
      rcases List.mem_or_eq_of_mem_set hx with hx | hx
      · exact neverL_pl _ x hx
      · subst hx; exact .inr (by unfold inT; omega)
    have fk : ∀ j, nth ((neverL m.places.length).set p.toNat 50) j < 1099511627776 → nth ((neverL m.places.length).set p.toNat 50) j ≤ 1000 := by
      intro j hj
      by_cases jl : j < m.places.length
      · rw [nth_set (by rw [neverL_len]; omega)] at hj ⊢
        split
        · omega
        · rename_i d
          rw [if_neg d] at hj
          rw [nth_eq (x := (1099511627776 : Int)) (by simp [neverL, jl])] at hj
          omega
      · rw [nth_outW (by omega)]; omega
    have sc := shift_close hm s0 (t := 50) (K := 1000) (into := none) (by omega) (by omega) ln pl fk (by omega)
    rw [shL_set, shL_never, show sh s 50 = 50 + s from by unfold sh; rw [if_pos (by omega)]] at sc
    have fb : FB (1000 + (m.places.length : Int) * 1000012) (startF m p 50).1 := by
      rw [se]
      exact fun j hj => closeF_fin hm ln (fun x hx => plT_bnd (pl x hx)) (by omega) fk (by omega) j hj
    have e' : startF m p (50 + s) = (shW s (startF m p 50).1, 0) := by rw [se', se, sc]; rfl
    have e2' : (startF m p 50).2 = 0 := by rw [se]
    have et : (startF m p 50).1.time = 50 := by rw [se]
    rw [e'] at a2
    rw [e2'] at a1
    generalize (startF m p 50).1 = w at *
    obtain ⟨n, e3, no, l3, n0, n9⟩ := next_x l2 6 (by omega) (by omega)
    clear e' e2' sc fk pl ln se se'
    have lp : ∀ z0 z1 z2 z6 z8 z10 z13 z14 z15 z16 z17 : D, ∃ q, exS CALL K.law25_PlacesShift_l1 ⟨[z0, z1, z2, .bp 0 0, .bp 1 0, I s, z6, .bp 2 0, z8, .bp 3 0, z10, I 50, I n, z13, z14, z15, z16, z17], [e3.obj, .box (mineCells m), .box [I w.time, .t (tL w.frm)], .box [I (w.time + s), .t (tL (shL s w.frm))]]⟩ = some q ∧
        ∃ (e : Dice) (w : Wh) (now : Int), q = (.exit 0, psS e m s w now 0) := by
      intro z0 z1 z2 z6 z8 z10 z13 z14 z15 z16 z17
      refine loop_x (psP m s n.toNat) n.toNat _ ?_ ?_ ?_
      · refine ⟨e3, w, 50, ?_, l3, sv, ?_, by omega, by omega, by omega⟩
        · rw [show ((n.toNat : Nat) : Int) - ((0 : Nat) : Int) = n by omega]; rfl
        · intro j hj; have := fb j hj; simp only [Int.mul_zero, Int.natCast_zero] at *; omega
      · intro j st hj hP
        exact .inl (ps_round hm (by omega) p2 s0 (by omega) (by omega) hj hP)
      · rintro st ⟨e, w, now, rfl, -⟩
        rw [Int.sub_self]
        refine ⟨_, ?_, ?_, e, w, now, rfl⟩
        · obtain ⟨places, roads⟩ := m
          simp only [mineCells, psS] at *
          clear fb
          simp (disch := omega) only [go_sem, K.law25_PlacesShift_l1b, ↓reduceIte, Nat.reduceAdd, Nat.reduceSub]
        · simp
    obtain ⟨q, hq, e4, v, now, rfl⟩ := lp (.t (tL li)) (I more) (B false) (I p) (I 0) (I 0) .und .und .und .und .und
    clear lp fb sv sv'
    obtain ⟨places, roads⟩ := m
    obtain ⟨time, frm⟩ := w
    simp only at et
    subst et
    simp only [mineCells, psS, shW] at *
    simp (disch := omega) only [go_sem, K.law25_PlacesShift, ↓reduceIte, lo, ro, mo, md, po, a1, a2, no, hq, aw, Nat.reduceAdd, Nat.reduceSub]
  · simp only [c, decide_false] at lo
    simp (disch := omega) only [go_sem, K.law25_PlacesShift, ↓reduceIte, lo, aw, Nat.reduceAdd, Nat.reduceSub]
end Go.Ev

