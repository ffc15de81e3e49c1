/- Parts of the proof: see the text that holds the theorem. -/
import Derived.Test.YtgeclpmbbaimgaaZ5
set_option linter.all false
set_option maxRecDepth 100000
/- MADE BY PROGRAM (lib.py): the compact code of functions. -/
namespace Go.Ev.K
open Go.Ev
/-- /ref34.Valid -/
def ref34_Valid : Fn := { nargs := 2, vars := [0, 1, 2, 3, 4], body := (.seq (.reg [{ o := .bx (.v 0) 3, d := some 2 }, { o := .bx (.v 1) 4, d := some 3 }, { o := .mv (.b false), d := some 4 }] []) (.seq (.ite [{ o := .ld (.v 2) 3 true }, { o := .ca N.ref34_blast 0 [] [.l 0] }, { o := .un .not (.l 0) }, { o := .mv (.l 0) }, { o := .fa (.v 3) 0, g := some (0, false) }, { o := .ld (.l 0) 1 false, g := some (1, false) }, { o := .bin .lss (.l 0) (.i 0), g := some (2, false) }, { o := .pk (.l 3) (.b true) (.l 0) }, { o := .mv (.l 0) }, { o := .fa (.v 3) 0, g := some (0, false) }, { o := .ld (.l 0) 1 false, g := some (1, false) }, { o := .bin .gtr (.l 0) (.i 4), g := some (2, false) }, { o := .pk (.l 3) (.b true) (.l 0) }, { o := .mv (.l 0) }, { o := .fa (.v 3) 3, g := some (0, false) }, { o := .ld (.l 0) 1 false, g := some (1, false) }, { o := .bin .lss (.l 0) (.i 0), g := some (2, false) }, { o := .pk (.l 3) (.b true) (.l 0) }, { o := .mv (.l 0) }, { o := .fa (.v 3) 3, g := some (0, false) }, { o := .ld (.l 0) 1 false, g := some (1, false) }, { o := .bin .gtr (.l 0) (.i 2147483648), g := some (2, false) }, { o := .pk (.l 3) (.b true) (.l 0) }] [] 0 (.seq (.reg [{ o := .mv (.b false), d := some 4 }] []) .ret) .skip) (.seq (.ite [{ o := .fa (.v 3) 0 }, { o := .ld (.l 0) 1 false }, { o := .bin .eql (.l 0) (.i 0) }] [] 0 (.seq (.reg [{ o := .ld (.v 3) 4 true }, { o := .bd [.t (.int .i64 (0)), .t (.int .i64 (0)), .t (.int .i64 (0)), .t (.int .i64 (0))] [] }, { o := .eqk (.ints 4) false (.l 1) (.l 0) }, { o := .mv (.l 0), d := some 4 }] []) .ret) .skip) (.seq (.ite [{ o := .fa (.v 3) 0 }, { o := .ld (.l 0) 1 false }, { o := .bin .eql (.l 0) (.i 1) }] [] 0 (.seq (.reg [{ o := .fa (.v 3) 1 }, { o := .ld (.l 0) 1 false }, { o := .bin .gtr (.l 0) (.i 0) }, { o := .mv (.l 0) }, { o := .fa (.v 3) 2, g := some (0, true) }, { o := .ld (.l 0) 1 false, g := some (1, true) }, { o := .bin .eql (.l 0) (.i 0), g := some (2, true) }, { o := .pk (.l 3) (.l 0) (.b false) }, { o := .mv (.l 0), d := some 4 }] []) .ret) .skip) (.seq (.reg [{ o := .fa (.v 3) 1 }, { o := .ld (.l 0) 1 false }, { o := .bin .gtr (.l 0) (.i 0) }, { o := .mv (.l 0) }, { o := .fa (.v 3) 2, g := some (0, true) }, { o := .ld (.l 0) 1 false, g := some (1, true) }, { o := .bin .gtr (.l 0) (.i 0), g := some (2, true) }, { o := .pk (.l 3) (.l 0) (.b false) }, { o := .mv (.l 0) }, { o := .fa (.v 3) 1, g := some (0, true) }, { o := .ld (.l 0) 1 false, g := some (1, true) }, { o := .fa (.v 3) 2, g := some (2, true) }, { o := .ld (.l 0) 1 false, g := some (3, true) }, { o := .bin .neq (.l 2) (.l 0), g := some (4, true) }, { o := .pk (.l 5) (.l 0) (.b false) }, { o := .mv (.l 0), d := some 4 }] []) .ret))))), res := [(4, none)] }
/-- /firing.Safe -/
def firing_Safe : Fn := { nargs := 3, vars := [0, 1, 2, 3, 4, 5, 6], body := (.seq (.reg [{ o := .bx (.v 0) 3, d := some 3 }, { o := .bx (.v 1) 3, d := some 4 }, { o := .bx (.v 2) 1, d := some 5 }, { o := .mv (.b false), d := some 6 }] []) (.seq (.reg [{ o := .ld (.v 3) 3 true }, { o := .bd [.t (.int .i64 (0)), .t (.int .i64 (0)), .t (.int .i64 (0)), .t (.int .i64 (0))] [] }, { o := .ca N.firing_Valid 0 [] [.l 1, .l 0] }, { o := .mv (.l 0) }, { o := .ld (.v 4) 3 true, g := some (0, true) }, { o := .ca N.keys_Valid 0 [] [.l 0], g := some (1, true) }, { o := .pk (.l 2) (.l 0) (.b false) }, { o := .mv (.l 0) }, { o := .fa (.v 4) 2, g := some (0, true) }, { o := .ld (.l 0) 1 false, g := some (1, true) }, { o := .pk (.l 2) (.l 0) (.b false) }, { o := .mv (.l 0) }, { o := .fa (.v 5) 0, g := some (0, true) }, { o := .ld (.l 0) 1 false, g := some (1, true) }, { o := .ln (.l 0), g := some (2, true) }, { o := .bin .gtr (.l 0) (.i 0), g := some (3, true) }, { o := .pk (.l 4) (.l 0) (.b false) }, { o := .mv (.l 0) }, { o := .ld (.v 5) 1 true, g := some (0, true) }, { o := .fa (.v 3) 0, g := some (1, true) }, { o := .ld (.l 0) 1 false, g := some (2, true) }, { o := .ca N.area_Clear 0 [] [.l 2, .l 0], g := some (3, true) }, { o := .pk (.l 4) (.l 0) (.b false) }, { o := .mv (.l 0), d := some 6 }] []) .ret)), res := [(6, none)] }
/-- /ref34.Safe -/
def ref34_Safe : Fn := { nargs := 3, vars := [0, 1, 2, 3, 4, 5, 6], body := (.seq (.reg [{ o := .bx (.v 0) 3, d := some 3 }, { o := .bx (.v 1) 3, d := some 4 }, { o := .bx (.v 2) 1, d := some 5 }, { o := .mv (.b false), d := some 6 }] []) (.seq (.reg [{ o := .ld (.v 3) 3 true }, { o := .ca N.ref34_blast 0 [] [.l 0] }, { o := .mv (.l 0) }, { o := .ld (.v 4) 3 true, g := some (0, true) }, { o := .ca N.ref33_Valid 0 [] [.l 0], g := some (1, true) }, { o := .pk (.l 2) (.l 0) (.b false) }, { o := .mv (.l 0) }, { o := .fa (.v 4) 2, g := some (0, true) }, { o := .ld (.l 0) 1 false, g := some (1, true) }, { o := .pk (.l 2) (.l 0) (.b false) }, { o := .mv (.l 0) }, { o := .fa (.v 5) 0, g := some (0, true) }, { o := .ld (.l 0) 1 false, g := some (1, true) }, { o := .ln (.l 0), g := some (2, true) }, { o := .bin .gtr (.l 0) (.i 0), g := some (3, true) }, { o := .pk (.l 4) (.l 0) (.b false) }, { o := .mv (.l 0) }, { o := .ld (.v 5) 1 true, g := some (0, true) }, { o := .fa (.v 3) 0, g := some (1, true) }, { o := .ld (.l 0) 1 false, g := some (2, true) }, { o := .ca N.ref32_Clear 0 [] [.l 2, .l 0], g := some (3, true) }, { o := .pk (.l 4) (.l 0) (.b false) }, { o := .mv (.l 0), d := some 6 }] []) .ret)), res := [(6, none)] }
/-- /ref34.Due -/
def ref34_Due : Fn := { nargs := 3, vars := [0, 1, 2, 3, 4, 6, 18, 19], body := (.seq (.reg [{ o := .bx (.v 0) 3, d := some 3 }, { o := .bx (.v 1) 4, d := some 4 }, { o := .mv (.i 0), d := some 5 }] []) (.seq (.ite [{ o := .ld (.v 3) 3 true }, { o := .ld (.v 4) 4 true }, { o := .ca N.ref34_Valid 0 [] [.l 1, .l 0] }, { o := .un .not (.l 0) }, { o := .mv (.l 0) }, { o := .mv (.v 2), g := some (0, false) }, { o := .fa (.v 4) 3, g := some (1, false) }, { o := .ld (.l 0) 1 false, g := some (2, false) }, { o := .bin .lss (.l 2) (.l 0), g := some (3, false) }, { o := .pk (.l 4) (.b true) (.l 0) }] [] 0 (.seq (.reg [{ o := .mv (.i 0), d := some 5 }] []) .ret) .skip) (.seq (.seq (.reg [{ o := .fa (.v 4) 0 }, { o := .ld (.l 0) 1 false, d := some 6 }] []) (.blk 0 (.seq (.seq (.reg [{ o := .bin .eql (.v 6) (.i 1) }, { o := .mv (.l 0), d := some 7 }] []) (.itv 7 .skip (.reg [{ o := .bin .eql (.v 6) (.i 2) }, { o := .mv (.l 0), d := some 7 }] []))) (.itv 7 (.seq (.reg [{ o := .fa (.v 3) 1 }, { o := .ld (.l 0) 1 false }, { o := .mv (.v 2) }, { o := .fa (.v 4) 3 }, { o := .ld (.l 0) 1 false }, { o := .bin .sub (.l 2) (.l 0) }, { o := .bin .sub (.l 4) (.l 0) }, { o := .mx [.i 0, .l 0] }, { o := .mv (.l 0), d := some 5 }] []) .ret) (.ite [{ o := .bin .eql (.v 6) (.i 4) }, { o := .mv (.l 0) }] [] 0 (.seq (.reg [{ o := .fa (.v 3) 2 }, { o := .ld (.l 0) 1 false }, { o := .mv (.v 2) }, { o := .fa (.v 4) 3 }, { o := .ld (.l 0) 1 false }, { o := .bin .sub (.l 2) (.l 0) }, { o := .bin .sub (.l 4) (.l 0) }, { o := .mx [.i 0, .l 0] }, { o := .mv (.l 0), d := some 5 }] []) .ret) .skip))))) (.seq (.reg [{ o := .mv (.i 0), d := some 5 }] []) .ret)))), res := [(5, none)] }
/-- (/firing.request).check -/
def firing_request_check : Fn := { nargs := 2, vars := [0, 1, 2, 4], body := (.seq (.reg [{ o := .bx (.v 0) 13, d := some 2 }, { o := .mv (.i 0), d := some 3 }] []) (.seq (.blk 0 (.ite [{ o := .fa (.v 2) 0 }, { o := .ld (.l 0) 3 true }, { o := .fa (.v 2) 3 }, { o := .ld (.l 0) 4 true }, { o := .ca N.firing_Valid 0 [] [.l 2, .l 0] }, { o := .un .not (.l 0) }, { o := .mv (.l 0) }] [] 0 (.seq (.reg [{ o := .mv (.i 6), d := some 3 }] []) .ret) (.ite [{ o := .fa (.v 2) 3 }, { o := .fa (.l 0) 0 }, { o := .ld (.l 0) 1 false }, { o := .fa (.v 2) 12 }, { o := .ld (.l 0) 1 false }, { o := .bin .neq (.l 2) (.l 0) }, { o := .mv (.l 0) }] [] 0 (.seq (.reg [{ o := .mv (.i 10), d := some 3 }] []) .ret) (.ite [{ o := .fa (.v 2) 11 }, { o := .ld (.l 0) 1 false }, { o := .bin .lss (.l 0) (.i 0) }, { o := .mv (.l 0) }, { o := .fa (.v 2) 3, g := some (0, false) }, { o := .ld (.l 0) 4 true, g := some (1, false) }, { o := .fa (.v 2) 11, g := some (2, false) }, { o := .ld (.l 0) 1 false, g := some (3, false) }, { o := .ca N.firing_timely 0 [] [.l 2, .l 0], g := some (4, false) }, { o := .un .not (.l 0), g := some (5, false) }, { o := .pk (.l 6) (.b true) (.l 0) }, { o := .mv (.l 0) }] [] 0 (.seq (.reg [{ o := .mv (.i 8), d := some 3 }] []) .ret) (.ite [{ o := .mv (.v 1) }, { o := .mv (.l 0) }] [] 0 (.seq (.reg [{ o := .mv (.i 19), d := some 3 }] []) .ret) (.ite [{ o := .fa (.v 2) 12 }, { o := .ld (.l 0) 1 false }, { o := .bin .neq (.l 0) (.i 0) }, { o := .mv (.l 0) }, { o := .fa (.v 2) 11, g := some (0, true) }, { o := .ld (.l 0) 1 false, g := some (1, true) }, { o := .fa (.v 2) 3, g := some (2, true) }, { o := .fa (.l 0) 3, g := some (3, true) }, { o := .ld (.l 0) 1 false, g := some (4, true) }, { o := .bin .sub (.l 3) (.l 0), g := some (5, true) }, { o := .fa (.v 2) 0, g := some (6, true) }, { o := .fa (.l 0) 1, g := some (7, true) }, { o := .ld (.l 0) 1 false, g := some (8, true) }, { o := .bin .gtr (.l 3) (.l 0), g := some (9, true) }, { o := .pk (.l 10) (.l 0) (.b false) }, { o := .mv (.l 0) }] [] 0 (.seq (.reg [{ o := .mv (.i 10), d := some 3 }] []) .ret) (.ite [{ o := .fa (.v 2) 7 }, { o := .ld (.l 0) 3 true }, { o := .ca N.keys_Valid 0 [] [.l 0] }, { o := .un .not (.l 0) }, { o := .mv (.l 0) }, { o := .fa (.v 2) 7, g := some (0, false) }, { o := .fa (.l 0) 2, g := some (1, false) }, { o := .ld (.l 0) 1 false, g := some (2, false) }, { o := .un .not (.l 0), g := some (3, false) }, { o := .pk (.l 4) (.b true) (.l 0) }, { o := .mv (.l 0) }] [] 0 (.seq (.reg [{ o := .mv (.i 48), d := some 3 }] []) .ret) (.ite [{ o := .fa (.v 2) 0 }, { o := .ld (.l 0) 3 true }, { o := .fa (.v 2) 7 }, { o := .ld (.l 0) 3 true }, { o := .fa (.v 2) 10 }, { o := .ld (.l 0) 1 true }, { o := .ca N.firing_Safe 0 [] [.l 4, .l 2, .l 0] }, { o := .un .not (.l 0) }, { o := .mv (.l 0) }] [] 0 (.seq (.reg [{ o := .mv (.i 49), d := some 3 }] []) .ret) .skip)))))))) (.seq (.reg [{ o := .mv (.i 0), d := some 3 }] []) .ret))), res := [(3, none)] }
/-- /firing.timely -/
def firing_timely : Fn := { nargs := 2, vars := [0, 1, 2, 4], body := (.seq (.reg [{ o := .bx (.v 0) 4, d := some 2 }, { o := .mv (.b false), d := some 3 }] []) (.seq (.reg [{ o := .mv (.v 1) }, { o := .fa (.v 2) 3 }, { o := .ld (.l 0) 1 false }, { o := .bin .geq (.l 2) (.l 0) }, { o := .mv (.l 0) }, { o := .mv (.v 1), g := some (0, true) }, { o := .bin .leq (.l 0) (.i 2147483648), g := some (1, true) }, { o := .pk (.l 2) (.l 0) (.b false) }, { o := .mv (.l 0), d := some 3 }] []) .ret)), res := [(3, none)] }
def lists_Rising_l1b : C := (.its  [{ o := .bin .lss (.v 8) (.v 7) }] [] 0 .skip (.exit 0) (.seq (.blk 1 (.seq (.reg [{ o := .mv (.v 8) }, { o := .ia (.v 6) (.v 8) 1 }, { o := .ld (.l 0) 1 false }, { o := .mv (.l 2), d := some 4 }, { o := .mv (.l 1), d := some 5 }] []) (.ite [{ o := .mv (.v 5) }, { o := .mv (.v 1) }, { o := .bin .lss (.l 1) (.l 0) }, { o := .mv (.l 0) }, { o := .mv (.v 5), g := some (0, false) }, { o := .mv (.v 2), g := some (1, false) }, { o := .bin .gtr (.l 1) (.l 0), g := some (2, false) }, { o := .pk (.l 3) (.b true) (.l 0) }, { o := .mv (.l 0) }, { o := .mv (.v 4), g := some (0, false) }, { o := .bin .gtr (.l 0) (.i 0), g := some (1, false) }, { o := .mv (.l 0), g := some (2, false) }, { o := .mv (.v 5), g := some (0, true) }, { o := .mv (.v 0), g := some (1, true) }, { o := .mv (.v 4), g := some (2, true) }, { o := .bin .sub (.l 0) (.i 1), g := some (3, true) }, { o := .ia (.l 2) (.l 0) 1, g := some (4, true) }, { o := .ld (.l 0) 1 false, g := some (5, true) }, { o := .bin .leq (.l 5) (.l 0), g := some (6, true) }, { o := .pk (.l 7) (.l 0) (.b false), g := some (10, false) }, { o := .pk (.l 11) (.b true) (.l 0) }] [] 0 (.seq (.reg [{ o := .mv (.b false), d := some 3 }] []) .ret) .skip))) (.reg [{ o := .bin .add (.v 8) (.i 1) }, { o := .mv (.l 0), d := some 8 }] [])))
def lists_Rising_l1 : C := .loop true [3, 4, 5] K.lists_Rising_l1b
/-- /lists.Rising -/
def lists_Rising : Fn := { nargs := 3, vars := [0, 1, 2, 6, 7, 8, 9, 10, 11], body := (.seq (.reg [{ o := .mv (.b false), d := some 3 }] []) (.seq (.seq (.reg [{ o := .mv (.v 0), d := some 6 }, { o := .ln (.l 0), d := some 7 }, { o := .mv (.i 0), d := some 8 }] []) (.blk 0 K.lists_Rising_l1)) (.seq (.reg [{ o := .mv (.b true), d := some 3 }] []) .ret))), res := [(3, none)] }
def ref32_Barred_l1b : C := (.seq (.ite [{ o := .mv (.v 5) }, { o := .mv (.v 1) }, { o := .ln (.l 0) }, { o := .bin .lss (.l 2) (.l 0) }] [] 0 .skip (.exit 0)) (.seq (.blk 1 (.reg [{ o := .fa (.v 2) 1 }, { o := .ld (.l 0) 1 false }, { o := .mv (.v 1) }, { o := .mv (.v 5) }, { o := .ia (.l 1) (.l 0) 1 }, { o := .ld (.l 0) 1 false }, { o := .ia (.l 4) (.l 0) 10 }, { o := .fa (.l 0) 4 }, { o := .st (.l 0) (.b false) 1 [] }] [])) (.reg [{ o := .mv (.v 5) }, { o := .bin .add (.l 0) (.i 1) }, { o := .mv (.l 0), d := some 5 }] [])))
def ref32_Barred_l1 : C := .loop true [0, 4] K.ref32_Barred_l1b
/-- /ref32.Barred -/
def ref32_Barred : Fn := { nargs := 2, vars := [0, 1, 2, 4, 5, 6], body := (.seq (.reg [{ o := .bx (.v 0) 2, d := some 2 }, { o := .al [.nil, .nil] [], d := some 3 }, { o := .mv (.i 0), d := some 4 }] []) (.seq (.ite [{ o := .ld (.v 2) 2 true }, { o := .ca N.ref01_Check 0 [] [.l 0] }, { o := .bin .neq (.l 0) (.i 0) }] [] 0 (.seq (.reg [{ o := .bd [.nil, .nil] [] }, { o := .st (.v 3) (.l 0) 2 [] }, { o := .mv (.i 6), d := some 4 }] []) .ret) .skip) (.seq (.ite [{ o := .mv (.v 1) }, { o := .fa (.v 2) 1 }, { o := .ld (.l 0) 1 false }, { o := .ln (.l 0) }, { o := .ca N.ref23_Set 0 [] [.l 3, .l 0] }, { o := .un .not (.l 0) }] [] 0 (.seq (.reg [{ o := .bd [.nil, .nil] [] }, { o := .st (.v 3) (.l 0) 2 [] }, { o := .mv (.i 4), d := some 4 }] []) .ret) .skip) (.seq (.reg [{ o := .ld (.v 2) 2 true }, { o := .ca N.ref31_Copy 1 [] [.l 0] }, { o := .st (.v 2) (.l 0) 2 [] }] []) (.seq (.seq (.reg [{ o := .mv (.i 0), d := some 5 }] []) (.blk 0 K.ref32_Barred_l1)) (.seq (.reg [{ o := .ld (.v 2) 2 true }, { o := .st (.v 3) (.l 0) 2 [] }, { o := .mv (.i 0), d := some 4 }] []) .ret)))))), res := [(3, some (2, true)), (4, none)] }
def ref32_seal_l1b : C := (.seq (.ite [{ o := .mv (.v 7) }, { o := .mv (.v 6) }, { o := .ln (.l 0) }, { o := .bin .lss (.l 2) (.l 0) }] [] 0 .skip (.exit 0)) (.seq (.blk 1 (.ite [{ o := .mv (.v 6) }, { o := .mv (.v 7) }, { o := .ia (.l 1) (.l 0) 1 }, { o := .ld (.l 0) 1 false }, { o := .mv (.v 2) }, { o := .bin .gtr (.l 1) (.l 0) }] [] 0 (.reg [{ o := .mv (.v 6) }, { o := .mv (.v 7) }, { o := .ia (.l 1) (.l 0) 1 }, { o := .st (.l 0) (.i 1099511627776) 1 [] }] []) .skip)) (.reg [{ o := .mv (.v 7) }, { o := .bin .add (.l 0) (.i 1) }, { o := .mv (.l 0), d := some 7 }] [])))
def ref32_seal_l1 : C := .loop true [0, 1, 4] K.ref32_seal_l1b
/-- /ref32.seal -/
def ref32_seal : Fn := { nargs := 3, vars := [0, 1, 2, 3, 4, 6, 7, 8], body := (.seq (.reg [{ o := .bx (.v 0) 2, d := some 3 }, { o := .bx (.v 1) 2, d := some 4 }, { o := .al [.t (.int .i64 (0)), .nil] [], d := some 5 }] []) (.seq (.reg [{ o := .fa (.v 4) 1 }, { o := .ld (.l 0) 1 false }, { o := .app (.c (.nil)) (.l 0) true 1 }, { o := .mv (.l 0), d := some 6 }] []) (.seq (.seq (.reg [{ o := .mv (.i 0), d := some 7 }] []) (.blk 0 K.ref32_seal_l1)) (.seq (.reg [{ o := .mv (.v 2) }, { o := .ld (.v 3) 2 true }, { o := .mv (.v 6) }, { o := .mv (.v 2) }, { o := .ca N.ref25_Close 0 [] [.l 2, .l 1, .l 0] }, { o := .bd [.t (.int .i64 (0)), .nil] [(0, 1, .l 4), (1, 1, .l 0)] }, { o := .st (.v 5) (.l 0) 2 [] }] []) .ret)))), res := [(5, some (2, true))] }
/-- /ref34.step -/
def ref34_step : Fn := { nargs := 7, vars := [0, 1, 2, 3, 4, 5, 6, 7, 8, 9, 10, 14], body := (.seq (.reg [{ o := .bx (.v 0) 3, d := some 7 }, { o := .bx (.v 1) 4, d := some 8 }, { o := .bx (.v 2) 3, d := some 9 }, { o := .bx (.v 3) 1, d := some 10 }, { o := .mv (.i 0), d := some 11 }] []) (.seq (.blk 0 (.ite [{ o := .ld (.v 7) 3 true }, { o := .ld (.v 8) 4 true }, { o := .ca N.ref34_Valid 0 [] [.l 1, .l 0] }, { o := .un .not (.l 0) }, { o := .mv (.l 0) }] [] 0 (.seq (.reg [{ o := .mv (.i 6), d := some 11 }] []) .ret) (.ite [{ o := .fa (.v 8) 0 }, { o := .ld (.l 0) 1 false }, { o := .mv (.v 4) }, { o := .bin .neq (.l 1) (.l 0) }, { o := .mv (.l 0) }] [] 0 (.seq (.reg [{ o := .mv (.i 10), d := some 11 }] []) .ret) (.ite [{ o := .mv (.v 6) }, { o := .bin .lss (.l 0) (.i 0) }, { o := .mv (.l 0) }, { o := .mv (.v 6), g := some (0, false) }, { o := .bin .gtr (.l 0) (.i 2147483648), g := some (1, false) }, { o := .pk (.l 2) (.b true) (.l 0) }, { o := .mv (.l 0) }, { o := .mv (.v 6), g := some (0, false) }, { o := .fa (.v 8) 3, g := some (1, false) }, { o := .ld (.l 0) 1 false, g := some (2, false) }, { o := .bin .lss (.l 2) (.l 0), g := some (3, false) }, { o := .pk (.l 4) (.b true) (.l 0) }, { o := .mv (.l 0) }] [] 0 (.seq (.reg [{ o := .mv (.i 8), d := some 11 }] []) .ret) (.ite [{ o := .mv (.v 5) }, { o := .bin .leq (.l 0) (.i 0) }, { o := .mv (.l 0) }, { o := .mv (.v 4), g := some (0, false) }, { o := .bin .eql (.l 0) (.i 1), g := some (1, false) }, { o := .mv (.l 0), g := some (2, false) }, { o := .mv (.v 5), g := some (0, true) }, { o := .fa (.v 8) 1, g := some (1, true) }, { o := .ld (.l 0) 1 false, g := some (2, true) }, { o := .bin .eql (.l 2) (.l 0), g := some (3, true) }, { o := .pk (.l 4) (.l 0) (.b false), g := some (7, false) }, { o := .pk (.l 8) (.b true) (.l 0) }, { o := .mv (.l 0) }] [] 0 (.seq (.reg [{ o := .mv (.i 19), d := some 11 }] []) .ret) (.ite [{ o := .mv (.v 4) }, { o := .bin .neq (.l 0) (.i 0) }, { o := .mv (.l 0) }, { o := .mv (.v 6), g := some (0, true) }, { o := .fa (.v 8) 3, g := some (1, true) }, { o := .ld (.l 0) 1 false, g := some (2, true) }, { o := .bin .sub (.l 2) (.l 0), g := some (3, true) }, { o := .fa (.v 7) 1, g := some (4, true) }, { o := .ld (.l 0) 1 false, g := some (5, true) }, { o := .bin .gtr (.l 2) (.l 0), g := some (6, true) }, { o := .pk (.l 7) (.l 0) (.b false) }, { o := .mv (.l 0) }] [] 0 (.seq (.reg [{ o := .mv (.i 10), d := some 11 }] []) .ret) (.ite [{ o := .ld (.v 9) 3 true }, { o := .ca N.ref33_Valid 0 [] [.l 0] }, { o := .un .not (.l 0) }, { o := .mv (.l 0) }, { o := .fa (.v 9) 2, g := some (0, false) }, { o := .ld (.l 0) 1 false, g := some (1, false) }, { o := .un .not (.l 0), g := some (2, false) }, { o := .pk (.l 3) (.b true) (.l 0) }, { o := .mv (.l 0) }] [] 0 (.seq (.reg [{ o := .mv (.i 48), d := some 11 }] []) .ret) (.ite [{ o := .ld (.v 7) 3 true }, { o := .ld (.v 9) 3 true }, { o := .ld (.v 10) 1 true }, { o := .ca N.ref34_Safe 0 [] [.l 2, .l 1, .l 0] }, { o := .un .not (.l 0) }, { o := .mv (.l 0) }] [] 0 (.seq (.reg [{ o := .mv (.i 49), d := some 11 }] []) .ret) .skip)))))))) (.seq (.reg [{ o := .mv (.i 0), d := some 11 }] []) .ret))), res := [(11, none)] }
/-- /ref34.blast -/
def ref34_blast : Fn := { nargs := 1, vars := [0, 1, 2], body := (.seq (.reg [{ o := .bx (.v 0) 3, d := some 1 }, { o := .mv (.b false), d := some 2 }] []) (.seq (.reg [{ o := .fa (.v 1) 0 }, { o := .ld (.l 0) 1 false }, { o := .ln (.l 0) }, { o := .bin .gtr (.l 0) (.i 0) }, { o := .mv (.l 0) }, { o := .fa (.v 1) 0, g := some (0, true) }, { o := .ld (.l 0) 1 false, g := some (1, true) }, { o := .ca N.ref23_Set 0 [] [.l 0, .i 64], g := some (2, true) }, { o := .pk (.l 3) (.l 0) (.b false) }, { o := .mv (.l 0) }, { o := .fa (.v 1) 1, g := some (0, true) }, { o := .ld (.l 0) 1 false, g := some (1, true) }, { o := .bin .geq (.l 0) (.i 1), g := some (2, true) }, { o := .pk (.l 3) (.l 0) (.b false) }, { o := .mv (.l 0) }, { o := .fa (.v 1) 1, g := some (0, true) }, { o := .ld (.l 0) 1 false, g := some (1, true) }, { o := .bin .leq (.l 0) (.i 100000), g := some (2, true) }, { o := .pk (.l 3) (.l 0) (.b false) }, { o := .mv (.l 0) }, { o := .fa (.v 1) 2, g := some (0, true) }, { o := .ld (.l 0) 1 false, g := some (1, true) }, { o := .bin .geq (.l 0) (.i 1), g := some (2, true) }, { o := .pk (.l 3) (.l 0) (.b false) }, { o := .mv (.l 0) }, { o := .fa (.v 1) 2, g := some (0, true) }, { o := .ld (.l 0) 1 false, g := some (1, true) }, { o := .bin .leq (.l 0) (.i 100000), g := some (2, true) }, { o := .pk (.l 3) (.l 0) (.b false) }, { o := .mv (.l 0), d := some 2 }] []) .ret)), res := [(2, none)] }
/-- /keys.Valid -/
def keys_Valid : Fn := { nargs := 1, vars := [0, 1, 2, 3], body := (.seq (.reg [{ o := .bx (.v 0) 3, d := some 1 }, { o := .mv (.b false), d := some 2 }] []) (.seq (.reg [{ o := .mv (.c (.fn N.keys_Valid_1 [])), d := some 3 }] []) (.seq (.reg [{ o := .fa (.v 1) 0 }, { o := .ld (.l 0) 1 false }, { o := .ca N.keys_roads 0 [] [.l 0] }, { o := .mv (.l 0) }, { o := .fa (.v 1) 1, g := some (0, true) }, { o := .ld (.l 0) 1 false, g := some (1, true) }, { o := .ln (.l 0), g := some (2, true) }, { o := .fa (.v 1) 0, g := some (3, true) }, { o := .ld (.l 0) 1 false, g := some (4, true) }, { o := .ln (.l 0), g := some (5, true) }, { o := .bin .eql (.l 3) (.l 0), g := some (6, true) }, { o := .pk (.l 7) (.l 0) (.b false) }, { o := .mv (.l 0) }, { o := .fa (.v 1) 1, g := some (0, true) }, { o := .ld (.l 0) 1 false, g := some (1, true) }, { o := .mv (.v 3), g := some (2, true) }, { o := .ca N.slices_ContainsFunc_int_int 0 [] [.l 1, .l 0], g := some (3, true) }, { o := .un .not (.l 0), g := some (4, true) }, { o := .pk (.l 5) (.l 0) (.b false) }, { o := .mv (.l 0) }, { o := .fa (.v 1) 2, g := some (0, true) }, { o := .ld (.l 0) 1 false, g := some (1, true) }, { o := .un .not (.l 0), g := some (2, true) }, { o := .mv (.l 0), g := some (3, true) }, { o := .ld (.v 1) 3 true, g := some (0, false) }, { o := .ca N.keys_boxed 0 [] [.l 0], g := some (1, false) }, { o := .pk (.l 2) (.b true) (.l 0), g := some (6, true) }, { o := .pk (.l 7) (.l 0) (.b false) }, { o := .mv (.l 0), d := some 2 }] []) .ret))), res := [(2, none)] }
def area_Clear_l2b : C := (.its  [{ o := .bin .lss (.v 11) (.v 10) }] [] 0 .skip (.exit 2) (.seq (.blk 3 (.seq (.reg [{ o := .ia (.v 9) (.v 11) 2 }, { o := .ld (.l 0) 2 true }, { o := .al [.t (.int .i64 (0)), .nil] [], d := some 5 }, { o := .st (.l 0) (.l 1) 2 [] }] []) (.ite [{ o := .mv (.v 1) }, { o := .mf N.area_Clear_1 [.v 5] }, { o := .ca N.slices_ContainsFunc_int_int 0 [] [.l 1, .l 0] }] [] 0 (.seq (.reg [{ o := .mv (.b false), d := some 3 }] []) .ret) .skip))) (.reg [{ o := .bin .add (.v 11) (.i 1) }, { o := .mv (.l 0), d := some 11 }] [])))
def area_Clear_l2 : C := .loop true [0, 2, 3, 4, 5] K.area_Clear_l2b
def area_Clear_l1b : C := (.its  [{ o := .bin .lss (.v 8) (.v 7) }] [] 0 .skip (.exit 0) (.seq (.blk 1 (.seq (.reg [{ o := .ia (.v 6) (.v 8) 2 }, { o := .ld (.l 0) 2 true }, { o := .al [.nil, .nil] [], d := some 4 }, { o := .st (.l 0) (.l 1) 2 [] }] []) (.seq (.reg [{ o := .fa (.v 4) 1 }, { o := .ld (.l 0) 1 false, d := some 9 }, { o := .ln (.l 0), d := some 10 }, { o := .mv (.i 0), d := some 11 }] []) (.blk 2 K.area_Clear_l2)))) (.reg [{ o := .bin .add (.v 8) (.i 1) }, { o := .mv (.l 0), d := some 8 }] [])))
def area_Clear_l1 : C := .loop true [0, 2, 3, 4, 5, 9, 10, 11] K.area_Clear_l1b
/-- /area.Clear -/
def area_Clear : Fn := { nargs := 2, vars := [0, 1, 2, 4, 6, 8, 10, 11, 12, 17, 18, 19], body := (.seq (.reg [{ o := .bx (.v 0) 1, d := some 2 }, { o := .mv (.b false), d := some 3 }] []) (.seq (.seq (.reg [{ o := .fa (.v 2) 0 }, { o := .ld (.l 0) 1 false, d := some 6 }, { o := .ln (.l 0), d := some 7 }, { o := .mv (.i 0), d := some 8 }] []) (.blk 0 K.area_Clear_l1)) (.seq (.reg [{ o := .mv (.b true), d := some 3 }] []) .ret))), res := [(3, none)] }
def ref33_Valid_l1b : C := (.seq (.ite [{ o := .mv (.v 3) }, { o := .fa (.v 1) 1 }, { o := .ld (.l 0) 1 false }, { o := .ln (.l 0) }, { o := .bin .lss (.l 3) (.l 0) }] [] 0 .skip (.exit 0)) (.seq (.blk 1 (.ite [{ o := .fa (.v 1) 1 }, { o := .ld (.l 0) 1 false }, { o := .mv (.v 3) }, { o := .ia (.l 1) (.l 0) 1 }, { o := .ld (.l 0) 1 false }, { o := .bin .lss (.l 0) (.i 0) }, { o := .mv (.l 0) }, { o := .fa (.v 1) 1, g := some (0, false) }, { o := .ld (.l 0) 1 false, g := some (1, false) }, { o := .mv (.v 3), g := some (2, false) }, { o := .ia (.l 1) (.l 0) 1, g := some (3, false) }, { o := .ld (.l 0) 1 false, g := some (4, false) }, { o := .bin .gtr (.l 0) (.i 2), g := some (5, false) }, { o := .pk (.l 6) (.b true) (.l 0) }, { o := .mv (.l 0) }, { o := .fa (.v 1) 2, g := some (0, false) }, { o := .ld (.l 0) 1 false, g := some (1, false) }, { o := .mv (.l 0), g := some (2, false) }, { o := .fa (.v 1) 1, g := some (0, true) }, { o := .ld (.l 0) 1 false, g := some (1, true) }, { o := .mv (.v 3), g := some (2, true) }, { o := .ia (.l 1) (.l 0) 1, g := some (3, true) }, { o := .ld (.l 0) 1 false, g := some (4, true) }, { o := .bin .neq (.l 0) (.i 2), g := some (5, true) }, { o := .pk (.l 6) (.l 0) (.b false), g := some (9, false) }, { o := .pk (.l 10) (.b true) (.l 0) }] [] 0 (.seq (.reg [{ o := .mv (.b false), d := some 2 }] []) .ret) .skip)) (.reg [{ o := .mv (.v 3) }, { o := .bin .add (.l 0) (.i 1) }, { o := .mv (.l 0), d := some 3 }] [])))
def ref33_Valid_l1 : C := .loop true [0, 2] K.ref33_Valid_l1b
/-- /ref33.Valid -/
def ref33_Valid : Fn := { nargs := 1, vars := [0, 1, 2, 3], body := (.seq (.reg [{ o := .bx (.v 0) 3, d := some 1 }, { o := .mv (.b false), d := some 2 }] []) (.seq (.ite [{ o := .fa (.v 1) 0 }, { o := .ld (.l 0) 1 false }, { o := .ln (.l 0) }, { o := .bin .lss (.l 0) (.i 1) }, { o := .mv (.l 0) }, { o := .fa (.v 1) 0, g := some (0, false) }, { o := .ld (.l 0) 1 false, g := some (1, false) }, { o := .ln (.l 0), g := some (2, false) }, { o := .bin .gtr (.l 0) (.i 12), g := some (3, false) }, { o := .pk (.l 4) (.b true) (.l 0) }, { o := .mv (.l 0) }, { o := .fa (.v 1) 0, g := some (0, false) }, { o := .ld (.l 0) 1 false, g := some (1, false) }, { o := .ca N.ref23_Set 0 [] [.l 0, .i 128], g := some (2, false) }, { o := .un .not (.l 0), g := some (3, false) }, { o := .pk (.l 4) (.b true) (.l 0) }, { o := .mv (.l 0) }, { o := .fa (.v 1) 1, g := some (0, false) }, { o := .ld (.l 0) 1 false, g := some (1, false) }, { o := .ln (.l 0), g := some (2, false) }, { o := .fa (.v 1) 0, g := some (3, false) }, { o := .ld (.l 0) 1 false, g := some (4, false) }, { o := .ln (.l 0), g := some (5, false) }, { o := .bin .neq (.l 3) (.l 0), g := some (6, false) }, { o := .pk (.l 7) (.b true) (.l 0) }] [] 0 (.seq (.reg [{ o := .mv (.b false), d := some 2 }] []) .ret) .skip) (.seq (.seq (.reg [{ o := .mv (.i 0), d := some 3 }] []) (.blk 0 K.ref33_Valid_l1)) (.seq (.reg [{ o := .mv (.b true), d := some 2 }] []) .ret)))), res := [(2, none)] }
def ref32_Clear_l3b : C := (.seq (.ite [{ o := .mv (.v 7) }, { o := .mv (.v 6) }, { o := .ln (.l 0) }, { o := .bin .lss (.l 2) (.l 0) }] [] 0 .skip (.exit 4)) (.seq (.blk 5 (.ite [{ o := .mv (.v 1) }, { o := .mv (.v 7) }, { o := .ca N.ref23_Has 0 [] [.l 1, .l 0] }, { o := .mv (.l 0) }, { o := .mv (.v 6), g := some (0, true) }, { o := .mv (.v 7), g := some (1, true) }, { o := .ia (.l 1) (.l 0) 1, g := some (2, true) }, { o := .ld (.l 0) 1 false, g := some (3, true) }, { o := .bin .neq (.l 0) (.i 1099511627776), g := some (4, true) }, { o := .pk (.l 5) (.l 0) (.b false) }] [] 0 (.seq (.reg [{ o := .mv (.b false), d := some 3 }] []) .ret) .skip)) (.reg [{ o := .mv (.v 7) }, { o := .bin .add (.l 0) (.i 1) }, { o := .mv (.l 0), d := some 7 }] [])))
def ref32_Clear_l3 : C := .loop true [0, 3] K.ref32_Clear_l3b
def ref32_Clear_l2b : C := (.seq (.ite [{ o := .mv (.v 5) }, { o := .fa (.v 2) 0 }, { o := .ld (.l 0) 1 false }, { o := .mv (.v 4) }, { o := .ia (.l 1) (.l 0) 2 }, { o := .fa (.l 0) 1 }, { o := .ld (.l 0) 1 false }, { o := .ln (.l 0) }, { o := .bin .lss (.l 7) (.l 0) }] [] 0 .skip (.exit 2)) (.seq (.blk 3 (.seq (.reg [{ o := .fa (.v 2) 0 }, { o := .ld (.l 0) 1 false }, { o := .mv (.v 4) }, { o := .ia (.l 1) (.l 0) 2 }, { o := .fa (.l 0) 1 }, { o := .ld (.l 0) 1 false }, { o := .mv (.v 5) }, { o := .ia (.l 1) (.l 0) 2 }, { o := .fa (.l 0) 1 }, { o := .ld (.l 0) 1 false }, { o := .mv (.l 0), d := some 6 }] []) (.seq (.reg [{ o := .mv (.i 0), d := some 7 }] []) (.blk 4 K.ref32_Clear_l3)))) (.reg [{ o := .mv (.v 5) }, { o := .bin .add (.l 0) (.i 1) }, { o := .mv (.l 0), d := some 5 }] [])))
def ref32_Clear_l2 : C := .loop true [0, 3, 6, 7] K.ref32_Clear_l2b
def ref32_Clear_l1b : C := (.seq (.ite [{ o := .mv (.v 4) }, { o := .fa (.v 2) 0 }, { o := .ld (.l 0) 1 false }, { o := .ln (.l 0) }, { o := .bin .lss (.l 3) (.l 0) }] [] 0 .skip (.exit 0)) (.seq (.blk 1 (.seq (.reg [{ o := .mv (.i 0), d := some 5 }] []) (.blk 2 K.ref32_Clear_l2))) (.reg [{ o := .mv (.v 4) }, { o := .bin .add (.l 0) (.i 1) }, { o := .mv (.l 0), d := some 4 }] [])))
def ref32_Clear_l1 : C := .loop true [0, 3, 5, 6, 7] K.ref32_Clear_l1b
/-- /ref32.Clear -/
def ref32_Clear : Fn := { nargs := 2, vars := [0, 1, 2, 4, 5, 6, 7, 8], body := (.seq (.reg [{ o := .bx (.v 0) 1, d := some 2 }, { o := .mv (.b false), d := some 3 }] []) (.seq (.seq (.reg [{ o := .mv (.i 0), d := some 4 }] []) (.blk 0 K.ref32_Clear_l1)) (.seq (.reg [{ o := .mv (.b true), d := some 3 }] []) .ret))), res := [(3, none)] }
/-- /ref31.Copy -/
def ref31_Copy : Fn := { nargs := 1, vars := [0, 1, 2], body := (.seq (.reg [{ o := .bx (.v 0) 2, d := some 1 }, { o := .al [.nil, .nil] [], d := some 2 }] []) (.seq (.reg [{ o := .fa (.v 1) 0 }, { o := .ld (.l 0) 1 false }, { o := .app (.c (.nil)) (.l 0) true 2 }, { o := .fa (.v 1) 1 }, { o := .ld (.l 0) 1 false }, { o := .app (.c (.nil)) (.l 0) true 10 }, { o := .bd [.nil, .nil] [(0, 1, .l 3), (1, 1, .l 0)] }, { o := .st (.v 2) (.l 0) 2 [] }] [(4, 0)]) .ret)), res := [(2, some (2, true))] }
/-- /keys.Valid.1 -/
def keys_Valid_1 : Fn := { nargs := 1, vars := [0, 2], body := (.seq (.reg [{ o := .mv (.b false), d := some 1 }] []) (.seq (.reg [{ o := .mv (.v 0) }, { o := .ca N.lists_In 0 [] [.l 0, .i 0, .i 2] }, { o := .un .not (.l 0) }, { o := .mv (.l 0), d := some 1 }] []) .ret)), res := [(1, none)] }
/-- /keys.roads -/
def keys_roads : Fn := { nargs := 1, vars := [0, 2], body := (.seq (.reg [{ o := .mv (.b false), d := some 1 }] []) (.seq (.reg [{ o := .mv (.v 0) }, { o := .ln (.l 0) }, { o := .ca N.lists_In 0 [] [.l 0, .i 1, .i 12] }, { o := .mv (.l 0) }, { o := .mv (.v 0), g := some (0, true) }, { o := .ca N.lists_Rising 0 [] [.l 0, .i 0, .i 127], g := some (1, true) }, { o := .pk (.l 2) (.l 0) (.b false) }, { o := .mv (.l 0), d := some 1 }] []) .ret)), res := [(1, none)] }
/-- /keys.boxed -/
def keys_boxed : Fn := { nargs := 1, vars := [0, 1, 2], body := (.seq (.reg [{ o := .bx (.v 0) 3, d := some 1 }, { o := .mv (.b false), d := some 2 }] []) (.seq (.reg [{ o := .fa (.v 1) 1 }, { o := .ld (.l 0) 1 false }, { o := .ca N.slices_ContainsFunc_int_int 0 [] [.l 0, .c (.fn N.keys_boxed_1 [])] }, { o := .un .not (.l 0) }, { o := .mv (.l 0), d := some 2 }] []) .ret)), res := [(2, none)] }
/-- /area.Clear.1 -/
def area_Clear_1 : Fn := { nargs := 2, vars := [0, 1, 3], body := (.seq (.reg [{ o := .mv (.b false), d := some 2 }] []) (.seq (.reg [{ o := .mv (.v 0) }, { o := .fa (.v 1) 1 }, { o := .ld (.l 0) 1 false }, { o := .ln (.l 0) }, { o := .bin .sub (.l 0) (.i 1) }, { o := .ca N.lists_In 0 [] [.l 4, .i 0, .l 0] }, { o := .mv (.l 0) }, { o := .fa (.v 1) 1, g := some (0, true) }, { o := .ld (.l 0) 1 false, g := some (1, true) }, { o := .mv (.v 0), g := some (2, true) }, { o := .ia (.l 1) (.l 0) 1, g := some (3, true) }, { o := .ld (.l 0) 1 false, g := some (4, true) }, { o := .bin .neq (.l 0) (.i 1099511627776), g := some (5, true) }, { o := .pk (.l 6) (.l 0) (.b false) }, { o := .mv (.l 0), d := some 2 }] []) .ret)), res := [(2, none)] }
/-- /keys.boxed.1 -/
def keys_boxed_1 : Fn := { nargs := 1, vars := [0, 2], body := (.seq (.reg [{ o := .mv (.b false), d := some 1 }] []) (.seq (.reg [{ o := .mv (.v 0) }, { o := .bin .neq (.l 0) (.i 2) }, { o := .mv (.l 0), d := some 1 }] []) .ret)), res := [(1, none)] }
def ref26_Copy_v1_l1b : C := (.seq (.ite [{ o := .mv (.v 4) }, { o := .fa (.v 1) 0 }, { o := .ld (.l 0) 1 false }, { o := .ln (.l 0) }, { o := .bin .lss (.l 3) (.l 0) }] [] 0 .skip (.exit 0)) (.seq (.blk 1 (.reg [{ o := .fa (.v 3) 0 }, { o := .ld (.l 0) 1 false }, { o := .fa (.v 1) 0 }, { o := .ld (.l 0) 1 false }, { o := .mv (.v 4) }, { o := .ia (.l 1) (.l 0) 2 }, { o := .ld (.l 0) 2 true }, { o := .ca N.ref26_CopyWorld 1 [] [.l 0] }, { o := .bsr [.l 0] 2 }, { o := .app (.l 7) (.l 0) false 2 }, { o := .fa (.v 3) 0 }, { o := .st (.l 0) (.l 1) 1 [] }] [(1, 8), (1, 9)])) (.reg [{ o := .mv (.v 4) }, { o := .bin .add (.l 0) (.i 1) }, { o := .mv (.l 0), d := some 4 }] [])))
def ref26_Copy_v1_l1 : C := .loop false [0] K.ref26_Copy_v1_l1b
/-- /ref26.Copy -/
def ref26_Copy_v1 : Fn := { nargs := 1, vars := [0, 1, 2, 3, 4], body := (.seq (.reg [{ o := .bx (.v 0) 1, d := some 1 }, { o := .al [.nil] [], d := some 2 }] []) (.seq (.reg [{ o := .al [.nil] [(0, 2)], d := some 3 }] []) (.seq (.seq (.reg [{ o := .mv (.i 0), d := some 4 }] []) (.blk 0 K.ref26_Copy_v1_l1)) (.seq (.reg [{ o := .ld (.v 3) 1 true }, { o := .st (.v 2) (.l 0) 1 [] }] []) .ret)))), res := [(2, some (1, true))] }
def ref26_Copy_v2_l1b : C := (.seq (.ite [{ o := .mv (.v 4) }, { o := .fa (.v 1) 0 }, { o := .ld (.l 0) 1 false }, { o := .ln (.l 0) }, { o := .bin .lss (.l 3) (.l 0) }] [] 0 .skip (.exit 0)) (.seq (.blk 1 (.reg [{ o := .fa (.v 3) 0 }, { o := .ld (.l 0) 1 false }, { o := .fa (.v 1) 0 }, { o := .ld (.l 0) 1 false }, { o := .mv (.v 4) }, { o := .ia (.l 1) (.l 0) 2 }, { o := .ld (.l 0) 2 true }, { o := .ca N.ref26_CopyWorld_v2 2 [] [.l 0] }, { o := .bsr [.l 0] 2 }, { o := .app (.l 7) (.l 0) false 2 }, { o := .fa (.v 3) 0 }, { o := .st (.l 0) (.l 1) 1 [] }] [(1, 8), (1, 9)])) (.reg [{ o := .mv (.v 4) }, { o := .bin .add (.l 0) (.i 1) }, { o := .mv (.l 0), d := some 4 }] [])))
def ref26_Copy_v2_l1 : C := .loop false [0] K.ref26_Copy_v2_l1b
/-- /ref26.Copy -/
def ref26_Copy_v2 : Fn := { nargs := 1, vars := [0, 1, 2, 3, 4], body := (.seq (.reg [{ o := .bx (.v 0) 1, d := some 1 }, { o := .al [.nil] [], d := some 2 }] []) (.seq (.reg [{ o := .al [.nil] [(0, 2)], d := some 3 }] []) (.seq (.seq (.reg [{ o := .mv (.i 0), d := some 4 }] []) (.blk 0 K.ref26_Copy_v2_l1)) (.seq (.reg [{ o := .ld (.v 3) 1 true }, { o := .st (.v 2) (.l 0) 1 [] }] []) .ret)))), res := [(2, some (1, true))] }
def ref26_CopyWorld_v2_l1b : C := (.seq (.ite [{ o := .mv (.v 4) }, { o := .fa (.v 1) 1 }, { o := .ld (.l 0) 1 false }, { o := .ln (.l 0) }, { o := .bin .lss (.l 3) (.l 0) }] [] 0 .skip (.exit 0)) (.seq (.blk 1 (.reg [{ o := .fa (.v 3) 1 }, { o := .ld (.l 0) 1 false }, { o := .fa (.v 1) 1 }, { o := .ld (.l 0) 1 false }, { o := .mv (.v 4) }, { o := .ia (.l 1) (.l 0) 2 }, { o := .ld (.l 0) 2 true }, { o := .ca N.ref25_Copy 1 [] [.l 0] }, { o := .bsr [.l 0] 2 }, { o := .app (.l 7) (.l 0) false 2 }, { o := .fa (.v 3) 1 }, { o := .st (.l 0) (.l 1) 1 [] }] [(1, 8), (1, 9)])) (.reg [{ o := .mv (.v 4) }, { o := .bin .add (.l 0) (.i 1) }, { o := .mv (.l 0), d := some 4 }] [])))
def ref26_CopyWorld_v2_l1 : C := .loop false [0] K.ref26_CopyWorld_v2_l1b
/-- /ref26.CopyWorld -/
def ref26_CopyWorld_v2 : Fn := { nargs := 1, vars := [0, 1, 2, 3, 4], body := (.seq (.reg [{ o := .bx (.v 0) 2, d := some 1 }, { o := .al [.nil, .nil] [], d := some 2 }] []) (.seq (.reg [{ o := .fa (.v 1) 0 }, { o := .ld (.l 0) 1 false }, { o := .app (.c (.nil)) (.l 0) false 1 }, { o := .bd [.nil, .nil] [(0, 1, .l 0)] }, { o := .al [.nil, .nil] [(1, 2)], d := some 3 }, { o := .st (.l 0) (.l 1) 2 [(1, 2)] }] []) (.seq (.seq (.reg [{ o := .mv (.i 0), d := some 4 }] []) (.blk 0 K.ref26_CopyWorld_v2_l1)) (.seq (.reg [{ o := .ld (.v 3) 2 true }, { o := .st (.v 2) (.l 0) 2 [] }] []) .ret)))), res := [(2, some (2, true))] }
end Go.Ev.K
namespace Go.Ev
class Has4 [Lib] : Prop where
  t_ref34_Valid : Lib.fs N.ref34_Valid = some K.ref34_Valid
  t_firing_Safe : Lib.fs N.firing_Safe = some K.firing_Safe
  t_ref34_Safe : Lib.fs N.ref34_Safe = some K.ref34_Safe
  t_ref34_Due : Lib.fs N.ref34_Due = some K.ref34_Due
  t_firing_request_check : Lib.fs N.firing_request_check = some K.firing_request_check
  t_firing_timely : Lib.fs N.firing_timely = some K.firing_timely
  t_lists_Rising : Lib.fs N.lists_Rising = some K.lists_Rising
  t_ref32_Barred : Lib.fs N.ref32_Barred = some K.ref32_Barred
  t_ref32_seal : Lib.fs N.ref32_seal = some K.ref32_seal
  t_ref34_step : Lib.fs N.ref34_step = some K.ref34_step
  t_ref34_blast : Lib.fs N.ref34_blast = some K.ref34_blast
  t_keys_Valid : Lib.fs N.keys_Valid = some K.keys_Valid
  t_area_Clear : Lib.fs N.area_Clear = some K.area_Clear
  t_ref33_Valid : Lib.fs N.ref33_Valid = some K.ref33_Valid
  t_ref32_Clear : Lib.fs N.ref32_Clear = some K.ref32_Clear
  t_ref31_Copy : Lib.fs N.ref31_Copy = some K.ref31_Copy
  t_keys_Valid_1 : Lib.fs N.keys_Valid_1 = some K.keys_Valid_1
  t_keys_roads : Lib.fs N.keys_roads = some K.keys_roads
  t_keys_boxed : Lib.fs N.keys_boxed = some K.keys_boxed
  t_area_Clear_1 : Lib.fs N.area_Clear_1 = some K.area_Clear_1
  t_keys_boxed_1 : Lib.fs N.keys_boxed_1 = some K.keys_boxed_1
  t_ref26_Copy_v1 : Lib.fs N.ref26_Copy_v1 = some K.ref26_Copy_v1
  t_ref26_Copy_v2 : Lib.fs N.ref26_Copy_v2 = some K.ref26_Copy_v2
  t_ref26_CopyWorld_v2 : Lib.fs N.ref26_CopyWorld_v2 = some K.ref26_CopyWorld_v2
namespace K
variable [Lib] [Has4]
theorem t_ref34_Valid : Lib.fs N.ref34_Valid = some K.ref34_Valid := Has4.t_ref34_Valid
theorem t_firing_Safe : Lib.fs N.firing_Safe = some K.firing_Safe := Has4.t_firing_Safe
theorem t_ref34_Safe : Lib.fs N.ref34_Safe = some K.ref34_Safe := Has4.t_ref34_Safe
theorem t_ref34_Due : Lib.fs N.ref34_Due = some K.ref34_Due := Has4.t_ref34_Due
theorem t_firing_request_check : Lib.fs N.firing_request_check = some K.firing_request_check := Has4.t_firing_request_check
theorem t_firing_timely : Lib.fs N.firing_timely = some K.firing_timely := Has4.t_firing_timely
theorem t_lists_Rising : Lib.fs N.lists_Rising = some K.lists_Rising := Has4.t_lists_Rising
theorem t_ref32_Barred : Lib.fs N.ref32_Barred = some K.ref32_Barred := Has4.t_ref32_Barred
theorem t_ref32_seal : Lib.fs N.ref32_seal = some K.ref32_seal := Has4.t_ref32_seal
theorem t_ref34_step : Lib.fs N.ref34_step = some K.ref34_step := Has4.t_ref34_step
theorem t_ref34_blast : Lib.fs N.ref34_blast = some K.ref34_blast := Has4.t_ref34_blast
theorem t_keys_Valid : Lib.fs N.keys_Valid = some K.keys_Valid := Has4.t_keys_Valid
theorem t_area_Clear : Lib.fs N.area_Clear = some K.area_Clear := Has4.t_area_Clear
theorem t_ref33_Valid : Lib.fs N.ref33_Valid = some K.ref33_Valid := Has4.t_ref33_Valid
theorem t_ref32_Clear : Lib.fs N.ref32_Clear = some K.ref32_Clear := Has4.t_ref32_Clear
theorem t_ref31_Copy : Lib.fs N.ref31_Copy = some K.ref31_Copy := Has4.t_ref31_Copy
theorem t_keys_Valid_1 : Lib.fs N.keys_Valid_1 = some K.keys_Valid_1 := Has4.t_keys_Valid_1
theorem t_keys_roads : Lib.fs N.keys_roads = some K.keys_roads := Has4.t_keys_roads
theorem t_keys_boxed : Lib.fs N.keys_boxed = some K.keys_boxed := Has4.t_keys_boxed
theorem t_area_Clear_1 : Lib.fs N.area_Clear_1 = some K.area_Clear_1 := Has4.t_area_Clear_1
theorem t_keys_boxed_1 : Lib.fs N.keys_boxed_1 = some K.keys_boxed_1 := Has4.t_keys_boxed_1
theorem t_ref26_Copy_v1 : Lib.fs N.ref26_Copy_v1 = some K.ref26_Copy_v1 := Has4.t_ref26_Copy_v1
theorem t_ref26_Copy_v2 : Lib.fs N.ref26_Copy_v2 = some K.ref26_Copy_v2 := Has4.t_ref26_Copy_v2
theorem t_ref26_CopyWorld_v2 : Lib.fs N.ref26_CopyWorld_v2 = some K.ref26_CopyWorld_v2 := Has4.t_ref26_CopyWorld_v2
end K
end Go.Ev

/- Shots: what the program and the reference say. -/
namespace Go.Ev
open Go
variable [Lib] [Has1] [Has2] [Has3] [Has4]

def risP (l : List Int) (lo hi : Int) (j : Nat) : Bool := !decide (lo ≤ nth l j ∧ nth l j ≤ hi ∧ (0 < j → nth l (j - 1) < nth l j))
def risB (l : List Int) (lo hi : Int) : Bool := !((List.range l.length).any (risP l lo hi))
theorem rising_ok (l : List Int) (lo hi : Int) (hl : l.length ≤ 4294967296) : CALL 0 N.lists_Rising [.t (tL l), I lo, I hi] [] = some (B (risB l lo hi), []) := by
  refine CALL_of K.t_lists_Rising rfl ?_
  have loop : ∀ a b c : D, exS CALL K.lists_Rising_l1 ⟨[.t (tL l), I lo, I hi, a, b, c, .t (tL l), I l.length, I 0], []⟩ =
      some (if (List.range l.length).any (risP l lo hi) = true
        then (.ret, ⟨[.t (tL l), I lo, I hi, B false, I (firstN l.length (risP l lo hi)), I (nth l (firstN l.length (risP l lo hi))), .t (tL l), I l.length, I (firstN l.length (risP l lo hi))], []⟩)
        else (.exit 0, ⟨[.t (tL l), I lo, I hi, .und, .und, .und, .t (tL l), I l.length, I l.length], []⟩)) := by
    intro a b c
    refine loop_srch (fun j => ⟨[.t (tL l), I lo, I hi, .und, .und, .und, .t (tL l), I l.length, I j], []⟩) l.length (risP l lo hi) (fun j => (.ret, ⟨[.t (tL l), I lo, I hi, B false, I j, I (nth l j), .t (tL l), I l.length, I j], []⟩)) _ rfl ?_ ?_ ?_ (by simp)
    · intro j hj hp
      simp only [risP, Bool.not_eq_false', decide_eq_true_eq] at hp
      obtain ⟨h1, h2, h3⟩ := hp
      cases j with
      | zero => simp (disch := omega) only [go_sem, K.lists_Rising_l1b, ↓reduceIte]
      | succ j =>
        have h3 := h3 (by omega)
        rw [Nat.add_sub_cancel] at h3
        simp (disch := omega) only [go_sem, K.lists_Rising_l1b, ↓reduceIte]
    · intro j hj hp
      simp only [risP, Bool.not_eq_true', decide_eq_false_iff_not] at hp
      refine ⟨?_, by simp⟩
      by_cases h1 : lo ≤ nth l j
      · by_cases h2 : nth l j ≤ hi
        · cases j with
          | zero => exact absurd ⟨h1, h2, fun h => absurd h (by omega)⟩ hp
          | succ j =>
            have h3 : ¬ nth l j < nth l (j + 1) := fun h => hp ⟨h1, h2, fun _ => by simpa using h⟩
            simp (disch := omega) only [go_sem, K.lists_Rising_l1b, ↓reduceIte]
        · simp (disch := omega) only [go_sem, K.lists_Rising_l1b, ↓reduceIte]
      · simp (disch := omega) only [go_sem, K.lists_Rising_l1b, ↓reduceIte]
    · simp (disch := omega) only [go_sem, K.lists_Rising_l1b, ↓reduceIte]
  unfold risB
  simp (disch := omega) only [go_sem, K.lists_Rising, ↓reduceIte, loop]
  cases hf : (List.range l.length).any (risP l lo hi) with
  | true => simp (disch := omega) only [go_sem, ↓reduceIte]
  | false => simp (disch := omega) only [go_sem, ↓reduceIte, Bool.false_eq_true]
theorem ris_set (l : List Int) (n : Int) : risB l 0 (n - 1) = setB l n := by
  unfold risB setB
  rw [all_rng]
  refine congrArg (!·) (congrArg _ (funext fun j => ?_))
  unfold risP
  refine congrArg (!·) (decide_eq_decide.2 ⟨fun h => ⟨h.1, by omega, h.2.2⟩, fun h => ⟨h.1, by omega, h.2.2⟩⟩)

structure Shot where
  st : Int
  fi : Int
  se : Int
  ti : Int
abbrev Shot.e (s : Shot) : T := .agg [tI s.st, tI s.fi, tI s.se, tI s.ti]
structure Blast where
  area : List Int
  hold : Int
  mis : Int
abbrev Blast.e (x : Blast) : T := .agg [tL x.area, tI x.hold, tI x.mis]
structure Keys where
  roads : List Int
  keys : List Int
  out : Bool
abbrev Keys.e (k : Keys) : T := .agg [tL k.roads, tL k.keys, .bool k.out]

/- keys -/
def boxedF (l : List Int) : Bool := !l.any fun x => !decide (x = 2)
def kroadsF (l : List Int) : Bool := decide (1 ≤ (l.length : Int) ∧ (l.length : Int) ≤ 12) && risB l 0 127
def keysF (k : Keys) : Bool := kroadsF k.roads && decide (k.keys.length = k.roads.length) && !(k.keys.any fun x => !decide (0 ≤ x ∧ x ≤ 2)) && (!k.out || boxedF k.keys)
/- shots -/
def stateF (s : Shot) : Bool := if s.st = 0 then decide (s.fi = 0 ∧ s.se = 0 ∧ s.ti = 0) else if s.st = 1 then decide (0 < s.fi ∧ s.se = 0)
  else if s.st = 2 ∨ s.st = 3 ∨ s.st = 4 then decide (0 < s.fi ∧ 0 < s.se ∧ s.fi ≠ s.se) else false
def shotF (x : Blast) (s : Shot) : Bool := !decide (x.area.length = 0) && risB x.area 0 63 && decide (1 ≤ x.hold ∧ x.hold ≤ 100000) && decide (1 ≤ x.mis ∧ x.mis ≤ 100000) && decide (0 ≤ s.ti ∧ s.ti ≤ 2147483648) && stateF s

end Go.Ev

/- The program: whereabouts. -/
namespace Go.Ev
open Go
variable [Lib] [Has1] [Has2] [Has3] [Has4] [Has6] [Has7] [Has8] [Has9]

theorem shaped1_ok (x : Int) : CALL 0 N.places_shaped_1 [I x] [] = some (B (!decide (plT x)), []) := by
  refine CALL_of K.t_places_shaped_1 rfl ?_
  have i := in_ok x 0 2147483648
  unfold plT inT
  by_cases c : x = 1099511627776
  · subst c
    simp (disch := omega) only [go_sem, K.places_shaped_1, ↓reduceIte, Nat.reduceAdd, Nat.reduceSub]
  · by_cases c2 : 0 ≤ x ∧ x ≤ 2147483648
    · simp only [c2, and_self, decide_true] at i
      simp (disch := omega) only [go_sem, K.places_shaped_1, ↓reduceIte, i, c, c2, false_or, and_self, decide_true, Nat.reduceAdd, Nat.reduceSub]
    · simp only [c2, decide_false] at i
      simp (disch := omega) only [go_sem, K.places_shaped_1, ↓reduceIte, i, c, c2, false_or, decide_false, Nat.reduceAdd, Nat.reduceSub]
theorem shaped_ok (m : Mine) (hm : m.places.length ≤ 1000000) (w : Wh) (hl : w.frm.length ≤ 1000000) : CALL 0 N.places_shaped [.t m.e, .t w.e] [] = some (B (plainB w m.places.length), []) := by
  refine CALL_of K.t_places_shaped rfl ?_
  have i := in_ok w.time 0 2147483648
  have cf : CALL 0 N.slices_ContainsFunc_int_int [.t (tL w.frm), .fn N.places_shaped_1 []] [] = some (B (w.frm.any fun x => !decide (plT x)), []) := containsFunc_ok w.frm (by omega) N.places_shaped_1 [] (fun x => !decide (plT x)) (fun x _ => shaped1_ok x)
  have e : plainB w m.places.length = (decide ((w.frm.length : Int) = m.places.length ∧ inT w.time) && !(w.frm.any fun x => !decide (plT x))) := by
    unfold plainB
    rw [all_rng, any_rng w.frm (fun x => !decide (plT x))]
  rw [e]
  unfold inT
  generalize (w.frm.any fun x => !decide (plT x)) = r at *
  obtain ⟨places, roads⟩ := m
  obtain ⟨time, frm⟩ := w
  simp only at *
  clear e
  by_cases c1 : (frm.length : Int) = places.length
  · by_cases c2 : 0 ≤ time ∧ time ≤ 2147483648
    · simp only [c2, and_self, decide_true] at i
      cases r <;> simp (disch := omega) only [go_sem, K.places_shaped, ↓reduceIte, i, cf, c1, c2, and_self, decide_true, Bool.true_and, Nat.reduceAdd, Nat.reduceSub]
    · simp only [c2, decide_false] at i
      simp (disch := omega) only [go_sem, K.places_shaped, ↓reduceIte, i, cf, c1, c2, and_false, decide_false, Bool.false_and, Nat.reduceAdd, Nat.reduceSub]
  · simp (disch := omega) only [go_sem, K.places_shaped, ↓reduceIte, c1, false_and, decide_false, Bool.false_and, Nat.reduceAdd, Nat.reduceSub]
theorem pvalid_ok {m : Mine} (h : m.ok) (w : Wh) (hl : w.frm.length ≤ 1000000) : CALL 0 N.places_Valid [.t m.e, .t w.e] [] = some (B (validB m w), []) := by
  refine CALL_of K.t_places_Valid rfl ?_
  have np := h.np
  have v := planValid_ok h
  have s := shaped_ok m (by omega) w hl
  unfold validB
  cases hp : plainB w m.places.length with
  | false =>
    rw [hp] at s
    obtain ⟨places, roads⟩ := m
    obtain ⟨time, frm⟩ := w
    simp only at *
    simp (disch := omega) only [go_sem, K.places_Valid, ↓reduceIte, v, s, Bool.false_and, Nat.reduceAdd, Nat.reduceSub]
  | true =>
    rw [hp] at s
    obtain ⟨p1, p2, p3⟩ := plainB_spec hp
    have hb : bnd w.frm := fun x hx => plT_bnd (p3 x hx)
    have lo := (lowered_ok h w.time (by unfold inT at p2; omega) (by unfold inT at p2; omega) w.frm (by omega) hb).1
    have ll := closeF_len h w.time p2 none (by simp) (l := w.frm) (by omega) hb
    have eq := equal_ok (closeF m w.time none w.frm) w.frm (by omega) (by omega)
    generalize closeF m w.time none w.frm = c at *
    obtain ⟨places, roads⟩ := m
    obtain ⟨time, frm⟩ := w
    simp only at *
    clear hb p3
    simp (disch := omega) only [go_sem, K.places_Valid, ↓reduceIte, v, s, lo, eq, Bool.true_and, Nat.reduceAdd, Nat.reduceSub]

theorem pstart_ok {m : Mine} (h : m.ok) (h1 : 1 ≤ m.places.length) (p t : Int) : CALL 0 N.places_Start [.t m.e, I p, I t] [] = some (.tup [.t (startF m p t).1.e, I (startF m p t).2], []) := by
  refine CALL_of K.t_places_Start rfl ?_
  have np := h.np
  have v := planValid_ok h
  have i1 := in_ok p 0 (m.places.length - 1)
  have i2 := in_ok t 0 2147483648
  have nw := nowhere1_ok h h1
  have nl := neverL_len m.places.length
  unfold startF
  by_cases c1 : p < 0 ∨ (m.places.length : Int) ≤ p
  · rw [if_pos c1]
    rw [decide_eq_false (by omega)] at i1
    obtain ⟨places, roads⟩ := m
    simp only at *
    simp (disch := omega) only [go_sem, K.places_Start, ↓reduceIte, v, i1, Nat.reduceAdd, Nat.reduceSub]
    rfl
  · rw [if_neg c1]
    rw [decide_eq_true (by omega)] at i1
    by_cases c2 : inT t
    · rw [if_pos c2]
      rw [decide_eq_true (show 0 ≤ t ∧ t ≤ 2147483648 from c2)] at i2
      have hb : bnd ((neverL m.places.length).set p.toNat t) := bnd_set (neverL_bnd _) (by unfold inT at c2; omega) (by unfold inT at c2; omega)
      have lo := (lowered_ok h t (by unfold inT at c2; omega) (by unfold inT at c2; omega) ((neverL m.places.length).set p.toNat t) (by simp) hb).1
      generalize closeF m t none ((neverL m.places.length).set p.toNat t) = c at *
      generalize neverL m.places.length = ne at *
      obtain ⟨places, roads⟩ := m
      simp only at *
      clear hb
      simp (disch := omega) only [go_sem, K.places_Start, ↓reduceIte, v, i1, i2, nw, lo, Nat.reduceAdd, Nat.reduceSub]
    · rw [if_neg c2]
      rw [decide_eq_false (show ¬ (0 ≤ t ∧ t ≤ 2147483648) from c2)] at i2
      obtain ⟨places, roads⟩ := m
      simp only at *
      simp (disch := omega) only [go_sem, K.places_Start, ↓reduceIte, v, i1, i2, Nat.reduceAdd, Nat.reduceSub]
      rfl

theorem given25_ok {m : Mine} (h : m.ok) (w : Wh) (hl : w.frm.length ≤ 1000000) (places : List Int) (hp : places.length ≤ 1000000) (a b : Int) :
    CALL 0 N.places_given [.t m.e, .t w.e, .t (tL places), I a, I b] [] = some (I (askedF m w places a b), []) := by
  refine CALL_of K.t_places_given rfl ?_
  have np := h.np
  have v := pvalid_ok h w hl
  have s := rising_ok places 0 (m.places.length - 1) (by omega)
  rw [ris_set] at s
  have i1 := in_ok a 0 2147483648
  have i2 := in_ok b 0 2147483648
  have e0 : (places ≠ []) ↔ (places.length : Int) ≠ 0 := by rw [ne_eq, ← List.length_eq_zero_iff]; omega
  unfold askedF
  cases hv : validB m w with
  | false =>
    rw [hv] at v
    rw [if_neg (by simp)]
    obtain ⟨pl, roads⟩ := m
    obtain ⟨time, frm⟩ := w
    simp only at *
    simp (disch := omega) only [go_sem, K.places_given, ↓reduceIte, v, Nat.reduceAdd, Nat.reduceSub]
  | true =>
    rw [hv] at v
    by_cases c0 : (places.length : Int) = 0
    · rw [if_neg (fun h => e0.1 h.2.1 c0)]
      obtain ⟨pl, roads⟩ := m
      obtain ⟨time, frm⟩ := w
      simp only at *
      simp (disch := omega) only [go_sem, K.places_given, ↓reduceIte, v, c0, Nat.reduceAdd, Nat.reduceSub]
    · cases hs : setB places m.places.length with
      | false =>
        rw [hs] at s
        rw [if_neg (by simp)]
        obtain ⟨pl, roads⟩ := m
        obtain ⟨time, frm⟩ := w
        simp only at *
        simp (disch := omega) only [go_sem, K.places_given, ↓reduceIte, v, s, c0, Nat.reduceAdd, Nat.reduceSub]
      | true =>
        rw [hs] at s
        rw [if_pos ⟨rfl, e0.2 c0, rfl⟩]
        obtain ⟨pl, roads⟩ := m
        obtain ⟨time, frm⟩ := w
        simp only at *
        by_cases c1 : inT a
        · rw [decide_eq_true (show 0 ≤ a ∧ a ≤ 2147483648 from c1)] at i1
          by_cases c2 : inT b
          · rw [decide_eq_true (show 0 ≤ b ∧ b ≤ 2147483648 from c2)] at i2
            by_cases c3 : a ≤ b
            · rw [if_pos ⟨c1, c2, c3⟩]
              simp (disch := omega) only [go_sem, K.places_given, ↓reduceIte, v, s, c0, i1, i2, c3, Nat.reduceAdd, Nat.reduceSub]
            · rw [if_neg (fun h => c3 h.2.2)]
              simp (disch := omega) only [go_sem, K.places_given, ↓reduceIte, v, s, c0, i1, i2, c3, Nat.reduceAdd, Nat.reduceSub]
          · rw [decide_eq_false (show ¬ (0 ≤ b ∧ b ≤ 2147483648) from c2)] at i2
            rw [if_neg (fun h => c2 h.2.1)]
            simp (disch := omega) only [go_sem, K.places_given, ↓reduceIte, v, s, c0, i1, i2, Nat.reduceAdd, Nat.reduceSub]
        · rw [decide_eq_false (show ¬ (0 ≤ a ∧ a ≤ 2147483648) from c1)] at i1
          rw [if_neg (fun h => c1 h.1)]
          simp (disch := omega) only [go_sem, K.places_given, ↓reduceIte, v, s, c0, i1, Nat.reduceAdd, Nat.reduceSub]
def renewF (m : Mine) (w : Wh) (t : Int) : Wh × Int := if plainB w m.places.length = false then (w, 6) else if t < w.time ∨ 2147483648 < t then (w, 8) else (⟨t, closeF m t none w.frm⟩, 0)
end Go.Ev

/- The program: sights, absences, joins of whereabouts. -/
namespace Go.Ev
open Go
variable [Lib] [Has1] [Has2] [Has3] [Has4] [Has6] [Has7] [Has8] [Has9]

theorem psee_ok {m : Mine} (h : m.ok) (h1 : 1 ≤ m.places.length) (w : Wh) (hl : w.frm.length ≤ 1000000) (l : List Int) (hp : l.length ≤ 1000000) (a b : Int) :
    CALL 0 N.places_See [.t m.e, .t w.e, .t (tL l), I a, I b] [] = some (.tup [.t (seeF m w l a b).1.e, I (seeF m w l a b).2], []) := by
  refine CALL_of K.t_places_See rfl ?_
  have np := h.np
  have g := given25_ok h w hl l hp a b
  have nw := nowhere1_ok h h1
  unfold seeF
  by_cases c0 : askedF m w l a b = 0
  · rw [if_neg (by simpa using c0)]
    rw [c0] at g
    obtain ⟨hv, h0, hs, ia, ib, hab⟩ := askedF_0 c0
    obtain ⟨v1, v2, v3, -⟩ := validB_spec hv
    by_cases c1 : a < w.time
    · rw [if_pos c1]
      obtain ⟨places, roads⟩ := m
      obtain ⟨time, frm⟩ := w
      simp only at *
      simp (disch := omega) only [go_sem, K.places_See, ↓reduceIte, g, c1, Nat.reduceAdd, Nat.reduceSub]
    · rw [if_neg c1]
      have hb : bnd w.frm := fun x hx => plT_bnd (v3 x hx)
      have lm := fun {j : Nat} (hj : j < l.length) => setB_nth hs hj
      have sl := seeN_len w l b m.places.length
      have sb := seeN_bnd (n := m.places.length) hb l b (fun p hp => by
        obtain ⟨j, hj⟩ := List.mem_iff_getElem?.1 hp
        have := lm (List.getElem?_eq_some_iff.1 hj).1
        rw [nth_eq hj] at this
        omega) l.length (Nat.le_refl _)
      have loop : ∀ z0 z1 z2 z8 z9 z12 : D, exS CALL K.places_See_l1 ⟨[z0, z1, z2, I a, I b, .bp 0 0, .bp 1 0, .bp 2 0, z8, z9, .ref 3 0 m.places.length, B false, z12, .t (tL l), I l.length, I 0], [.box (mineCells m), .box [I w.time, .t (tL w.frm)], .box [I 0, .nil], arr1 (neverL m.places.length)]⟩ =
          some (.exit 0, ⟨[.und, .und, .und, I a, I b, .bp 0 0, .bp 1 0, .bp 2 0, .und, .und, .ref 3 0 m.places.length, B (seeN w l b m.places.length l.length).2, .und, .t (tL l), I l.length, I l.length], [.box (mineCells m), .box [I w.time, .t (tL w.frm)], .box [I 0, .nil], arr1 (seeN w l b m.places.length l.length).1]⟩) := by
        intro z0 z1 z2 z8 z9 z12
        refine loop_up (fun j => ⟨[.und, .und, .und, I a, I b, .bp 0 0, .bp 1 0, .bp 2 0, .und, .und, .ref 3 0 m.places.length, B (seeN w l b m.places.length j).2, .und, .t (tL l), I l.length, I j], [.box (mineCells m), .box [I w.time, .t (tL w.frm)], .box [I 0, .nil], arr1 (seeN w l b m.places.length j).1]⟩) l.length rfl ?_ ?_ (by simp)
        · intro j hj
          have lj := sl j
          have nj := lm hj
          simp only [seeN, seeStep]
          generalize seeN w l b m.places.length j = r at *
          obtain ⟨r1, r2⟩ := r
          obtain ⟨places, roads⟩ := m
          obtain ⟨time, frm⟩ := w
          simp only [mineCells] at *
          by_cases c : nth frm (nth l j).toNat ≤ b
          · simp (disch := omega) only [go_sem, K.places_See_l1b, ↓reduceIte, c, Nat.reduceAdd, Nat.reduceSub]
          · simp (disch := omega) only [go_sem, K.places_See_l1b, ↓reduceIte, c, Nat.reduceAdd, Nat.reduceSub]
        · obtain ⟨places, roads⟩ := m
          obtain ⟨time, frm⟩ := w
          simp only [mineCells] at *
          simp (disch := omega) only [go_sem, K.places_See_l1b, ↓reduceIte, Nat.reduceAdd, Nat.reduceSub]
      have sl := sl l.length
      have lo := (lowered_ok h a (by unfold inT at ia; omega) (by unfold inT at ia; omega) (seeN w l b m.places.length l.length).1 sl sb).1
      clear sb lm hb v3
      cases c2 : (seeN w l b m.places.length l.length).2 with
      | false =>
        rw [if_neg (by simp)]
        rw [c2] at loop
        generalize (seeN w l b m.places.length l.length).1 = r at *
        generalize neverL m.places.length = ne at *
        obtain ⟨places, roads⟩ := m
        obtain ⟨time, frm⟩ := w
        simp only [mineCells] at *
        simp (disch := omega) only [go_sem, K.places_See, ↓reduceIte, g, c1, nw, loop, Nat.reduceAdd, Nat.reduceSub]
      | true =>
        rw [if_pos rfl]
        rw [c2] at loop
        generalize closeF m a none (seeN w l b m.places.length l.length).1 = cl at *
        generalize (seeN w l b m.places.length l.length).1 = r at *
        generalize neverL m.places.length = ne at *
        obtain ⟨places, roads⟩ := m
        obtain ⟨time, frm⟩ := w
        simp only [mineCells] at *
        simp (disch := omega) only [go_sem, K.places_See, ↓reduceIte, g, c1, nw, loop, lo, sl, Nat.reduceAdd, Nat.reduceSub]
  · rw [if_pos c0]
    generalize askedF m w l a b = q at *
    obtain ⟨places, roads⟩ := m
    obtain ⟨time, frm⟩ := w
    simp only at *
    simp (disch := omega) only [go_sem, K.places_See, ↓reduceIte, g, c0, Nat.reduceAdd, Nat.reduceSub]

theorem pabs_ok {m : Mine} (h : m.ok) (w : Wh) (hl : w.frm.length ≤ 1000000) (l : List Int) (hp : l.length ≤ 1000000) (a b bl : Int) :
    CALL 0 N.places_Absent [.t m.e, .t w.e, .t (tL l), I a, I b, I bl] [] = some (.tup [.t (absF m w l a b bl).1.e, I (absF m w l a b bl).2], []) := by
  refine CALL_of K.t_places_Absent rfl ?_
  have np := h.np
  have g := given25_ok h w hl l hp a b
  have ib := in_ok bl 0 2147483648
  unfold absF
  by_cases c0 : askedF m w l a b = 0
  · rw [if_neg (by simpa using c0)]
    rw [c0] at g
    obtain ⟨hv, h0, hs, ia, ibb, hab⟩ := askedF_0 c0
    obtain ⟨v1, v2, v3, -⟩ := validB_spec hv
    unfold inT at v2 ia ibb
    by_cases c1 : inT bl
    · rw [if_neg (fun x => x c1)]
      rw [decide_eq_true (show 0 ≤ bl ∧ bl ≤ 2147483648 from c1)] at ib
      unfold inT at c1
      by_cases c2 : b < w.time
      · rw [if_pos c2]
        obtain ⟨places, roads⟩ := m
        obtain ⟨time, frm⟩ := w
        simp only at *
        simp (disch := omega) only [go_sem, K.places_Absent, ↓reduceIte, g, ib, c2, Nat.reduceAdd, Nat.reduceSub]
      · rw [if_neg c2]
        by_cases c3 : b - max a w.time ≤ bl
        · rw [if_pos c3]
          obtain ⟨places, roads⟩ := m
          obtain ⟨time, frm⟩ := w
          simp only at *
          simp (disch := omega) only [go_sem, K.places_Absent, ↓reduceIte, g, ib, c2, c3, Nat.reduceAdd, Nat.reduceSub]
        · rw [if_neg c3]
          have hb : bnd w.frm := fun x hx => plT_bnd (v3 x hx)
          have lm := fun {j : Nat} (hj : j < l.length) => setB_nth hs hj
          have ll := setB_len (n := m.places.length) hs
          have al := absN_len w.frm l
          have ab := absN_bnd hb l l.length
          have cl := clone1_ok w.frm hl
          have ht : inT (b - bl) := by unfold inT; omega
          have lo1 := (lowered_ok h (b - bl) ht.1 (by unfold inT at ht; omega) (absN w.frm l l.length) (by rw [al]; exact v1) ab).2 l (by omega)
          have hin : ∀ s, some l = some s → s ≠ [] ∧ s.length ≤ 64 := by intro s h; cases h; exact ⟨h0, by omega⟩
          have c1l := closeF_len h (b - bl) ht (some l) hin (l := absN w.frm l l.length) (by rw [al]; exact v1) ab
          have c1b := closeF_bnd h (b - bl) ht (some l) hin (l := absN w.frm l l.length) (by rw [al]; exact v1) ab
          have lo2 := (lowered_ok h b ibb.1 (by omega) _ c1l c1b).1
          have loop : ∀ z0 z1 z2 z3 z7 z10 z11 z13 : D, exS CALL K.places_Absent_l1 ⟨[z0, z1, z2, z3, I b, I bl, .bp 0 0, z7, .bp 2 0, .bp 3 0, z10, z11, .ref 4 0 w.frm.length, z13, .t (tL l), I l.length, I 0], [.box (mineCells m), .box [I w.time, .t (tL w.frm)], .box [.t (tL l)], .box [I 0, .nil], arr1 w.frm]⟩ =
              some (.exit 1, ⟨[.und, .und, .und, .und, I b, I bl, .bp 0 0, .und, .bp 2 0, .bp 3 0, .und, .und, .ref 4 0 w.frm.length, .und, .t (tL l), I l.length, I l.length], [.box (mineCells m), .box [I w.time, .t (tL w.frm)], .box [.t (tL l)], .box [I 0, .nil], arr1 (absN w.frm l l.length)]⟩) := by
            intro z0 z1 z2 z3 z7 z10 z11 z13
            refine loop_up (fun j => ⟨[.und, .und, .und, .und, I b, I bl, .bp 0 0, .und, .bp 2 0, .bp 3 0, .und, .und, .ref 4 0 w.frm.length, .und, .t (tL l), I l.length, I j], [.box (mineCells m), .box [I w.time, .t (tL w.frm)], .box [.t (tL l)], .box [I 0, .nil], arr1 (absN w.frm l j)]⟩) l.length rfl ?_ ?_ (by simp)
            · intro j hj
              have lj := al j
              have nj := lm hj
              simp only [absN]
              generalize absN w.frm l j = r at *
              obtain ⟨places, roads⟩ := m
              obtain ⟨time, frm⟩ := w
              simp only [mineCells] at *
              simp (disch := omega) only [go_sem, K.places_Absent_l1b, ↓reduceIte, Nat.reduceAdd, Nat.reduceSub]
            · obtain ⟨places, roads⟩ := m
              obtain ⟨time, frm⟩ := w
              simp only [mineCells] at *
              simp (disch := omega) only [go_sem, K.places_Absent_l1b, ↓reduceIte, Nat.reduceAdd, Nat.reduceSub]
          have al := al l.length
          clear ab lm hb v3 hin c1b
          generalize closeF m b none (closeF m (b - bl) (some l) (absN w.frm l l.length)) = r3 at *
          generalize closeF m (b - bl) (some l) (absN w.frm l l.length) = r2 at *
          generalize absN w.frm l l.length = r1 at *
          obtain ⟨places, roads⟩ := m
          obtain ⟨time, frm⟩ := w
          simp only [mineCells] at *
          have e2 : r2.length = frm.length := by omega
          simp (disch := omega) only [go_sem, K.places_Absent, ↓reduceIte, g, ib, c2, c3, cl, loop, lo1, lo2, al, e2, Nat.reduceAdd, Nat.reduceSub]
    · rw [if_pos c1]
      rw [decide_eq_false (show ¬ (0 ≤ bl ∧ bl ≤ 2147483648) from c1)] at ib
      obtain ⟨places, roads⟩ := m
      obtain ⟨time, frm⟩ := w
      simp only at *
      simp (disch := omega) only [go_sem, K.places_Absent, ↓reduceIte, g, ib, Nat.reduceAdd, Nat.reduceSub]
  · rw [if_pos c0]
    generalize askedF m w l a b = q at *
    obtain ⟨places, roads⟩ := m
    obtain ⟨time, frm⟩ := w
    simp only at *
    simp (disch := omega) only [go_sem, K.places_Absent, ↓reduceIte, g, c0, Nat.reduceAdd, Nat.reduceSub]
end Go.Ev

/- Chapter 26 of the references: who bears a tag; possible places; meetings. -/
namespace Go.Ev
open Go
variable [Lib] [Has1] [Has2]

def borneF (m : Mine) (b : Bel) (tag : Int) : Int := if belB m b = false then 6 else if bearerF (nth b.worlds 0).tags tag < 0 then 41 else 0

def meetB (a b : Wh) (t : Int) : Bool := (List.range (min a.frm.length b.frm.length)).any fun p => decide (nth a.frm p ≤ t ∧ nth b.frm p ≤ t)

def mayB (b : Bel) (person t : Int) (p : Nat) : Bool := (List.range b.worlds.length).any fun i => decide (0 ≤ person ∧ person < (nth b.worlds i).whr.length) && decide ((p : Int) ∈ possF (nth (nth b.worlds i).whr person.toNat) t)
def possB (b : Bel) (person t : Int) : List Int := whereF 64 (mayB b person t)

end Go.Ev

/- Chapter 26 of the references: starts. -/
namespace Go.Ev
open Go
variable [Lib] [Has1] [Has2]

def startWs (m : Mine) (starts : List Int) (t : Int) (j : Nat) : List Wh := (List.range j).map fun i => (startF m (nth starts i) t).1
@[simp] theorem startWs_len (m : Mine) (starts : List Int) (t : Int) (j : Nat) : (startWs m starts t j).length = j := by simp [startWs]

def startBel (m : Mine) (tags starts : List Int) (t : Int) : Bel × Int :=
  if tags.length = starts.length ∧ 1 ≤ tags.length ∧ tags.length ≤ 12 then
    if properB tags = true then match (List.range tags.length).find? (fun i => !decide ((startF m (nth starts i) t).2 = 0)) with
      | some i => (⟨[]⟩, (startF m (nth starts i) t).2)
      | none => (⟨[⟨tags, startWs m starts t tags.length⟩]⟩, 0)
    else (⟨[]⟩, 41)
  else (⟨[]⟩, 6)

abbrev stH (m : Mine) (tags : List Int) (r : D) (ws : List Wh) : Heap := [.box (mineCells m), .box [r], .arr 1 false 0 ((tags.map (T.int .i64)).map .t), .box [.ref 2 0 tags.length, .ref 5 0 ws.length], .arr 2 false 0 [], .arr 2 false 0 ((ws.map Wh.e).map .t)]

end Go.Ev

/- Chapter 26 of the references: sights. -/
namespace Go.Ev
open Go
variable [Lib] [Has1] [Has2]

@[go_sem] theorem allS_nil : ([] : List D).all scalarD = true := (rfl)
@[go_sem] theorem allS_cons (d : D) (r : List D) : (d :: r).all scalarD = (scalarD d && r.all scalarD) := (rfl)
@[go_sem] theorem scalarD_agg (cs : List T) : scalarD (.t (.agg cs)) = false := (rfl)
@[go_sem] theorem scalarD_sl (cs : List T) : scalarD (.t (.sl cs)) = false := (rfl)
@[go_sem] theorem scalarD_int (k : IntKind) (n : Int) : scalarD (.t (.int k n)) = true := (rfl)
@[go_sem] theorem scalarD_bool (b : Bool) : scalarD (.t (.bool b)) = true := (rfl)
@[go_sem] theorem set_wh (l : List Wh) (k : Nat) (a : Int) (b : List Int) : (List.map D.t (List.map Wh.e l)).set k (D.t (T.agg [tI a, tL b])) = List.map D.t (List.map Wh.e (l.set k ⟨a, b⟩)) := by
  rw [List.map_set, List.map_set]

/-- What a sight makes of one world: whether it is left out, and the new one. -/
def seeW (m : Mine) (tag : Int) (l : List Int) (a b : Int) (x : World) : Wh × Int := seeF m (nth x.whr (bearerF x.tags tag).toNat) l a b
def putW (tag : Int) (x : World) (w : Wh) : World := ⟨x.tags, x.whr.set (bearerF x.tags tag).toNat w⟩
def stepW (tag : Int) (r : Wh × Int) (x : World) (out : List World) : List World :=
  if r.2 = 43 then out else out ++ [if r.2 = 0 then putW tag x r.1 else x]
def seeNb (m : Mine) (tag : Int) (l : List Int) (a b : Int) (ws : List World) : Nat → List World
  | 0 => []
  | j + 1 => stepW tag (seeW m tag l a b (nth ws j)) (nth ws j) (seeNb m tag l a b ws j)

abbrev seeH (m : Mine) (ws out : List World) : Heap := [.box (mineCells m), .box [.t (.sl (ws.map World.e))], .box [.nil], .box [.ref 4 0 out.length], .arr 2 false 0 ((out.map World.e).map .t)]

def seeBad (m : Mine) (tag : Int) (l : List Int) (a b : Int) (ws : List World) (j : Nat) : Bool := decide ((seeW m tag l a b (nth ws j)).2 = 6 ∨ (seeW m tag l a b (nth ws j)).2 = 8)
def seeBel (m : Mine) (b : Bel) (tag : Int) (l : List Int) (a c : Int) : Bel × Int :=
  if borneF m b tag ≠ 0 then (b, borneF m b tag) else match (List.range b.worlds.length).find? (seeBad m tag l a c b.worlds) with
    | some i => (b, (seeW m tag l a c (nth b.worlds i)).2)
    | none => if (seeNb m tag l a c b.worlds b.worlds.length).length = 0 then (b, 43) else (⟨seeNb m tag l a c b.worlds b.worlds.length⟩, 0)

end Go.Ev

/- Chapter 26 of the references: absences. -/
namespace Go.Ev
open Go
variable [Lib] [Has1] [Has2]

def absW (m : Mine) (tag : Int) (l : List Int) (a b bl : Int) (x : World) : Wh × Int := absF m (nth x.whr (bearerF x.tags tag).toNat) l a b bl
def stepA (tag : Int) (r : Wh × Int) (x : World) (out : List World) : List World := out ++ [if r.2 = 0 then putW tag x r.1 else x]
def absNb (m : Mine) (tag : Int) (l : List Int) (a b bl : Int) (ws : List World) : Nat → List World
  | 0 => []
  | j + 1 => stepA tag (absW m tag l a b bl (nth ws j)) (nth ws j) (absNb m tag l a b bl ws j)
def absBad (m : Mine) (tag : Int) (l : List Int) (a b bl : Int) (ws : List World) (j : Nat) : Bool := decide ((absW m tag l a b bl (nth ws j)).2 = 6 ∨ (absW m tag l a b bl (nth ws j)).2 = 8)
def absBel (m : Mine) (b : Bel) (tag : Int) (l : List Int) (a c bl : Int) : Bel × Int :=
  if borneF m b tag ≠ 0 then (b, borneF m b tag) else match (List.range b.worlds.length).find? (absBad m tag l a c bl b.worlds) with
    | some i => (b, (absW m tag l a c bl (nth b.worlds i)).2)
    | none => (⟨absNb m tag l a c bl b.worlds b.worlds.length⟩, 0)

end Go.Ev

/- Chapter 26 of the references: worlds are tidied. -/
namespace Go.Ev
open Go
variable [Lib] [Has1] [Has2]

abbrev ints (l : List Int) : List D := (l.map (T.int .i64)).map .t
abbrev whs (l : List Wh) : List D := (l.map Wh.e).map .t

/-- Where a world belongs in an ordered list. -/
def tidyK (out : List World) (x : World) : Nat := match (List.range out.length).find? (fun k => !lessB (nth out k).tags x.tags) with
  | some k => k
  | none => out.length
def joinN (a b : List Wh) : Nat → List Wh
  | 0 => a
  | p + 1 => (joinN a b p).set p (joinF (nth a p) (nth b p)).1
def joinWs (a b : List Wh) : List Wh := joinN a b (min a.length b.length)
def tidy1 (out : List World) (x : World) : List World :=
  if tidyK out x < out.length ∧ (nth out (tidyK out x)).tags = x.tags then out.set (tidyK out x) ⟨x.tags, joinWs (nth out (tidyK out x)).whr x.whr⟩
  else out.take (tidyK out x) ++ [x] ++ out.drop (tidyK out x)
def tidyN (l : List World) : Nat → List World
  | 0 => []
  | j + 1 => tidy1 (tidyN l j) (nth l j)
def tidyF (l : List World) : List World := tidyN l l.length

/-- A list of worlds in a heap: an array of pairs of arrays. -/
structure Rp (H : Heap) (id : Nat) (es : List D) (fa fb : Nat → Nat) (out : List World) : Prop where
  arr : H[id]? = some (.arr 2 false 0 es)
  len : es.length = out.length
  el : ∀ j, j < out.length → es[j]? = some (.agg [.ref (fa j) 0 (nth out j).tags.length, .ref (fb j) 0 (nth out j).whr.length])
  ha : ∀ j, j < out.length → H[fa j]? = some (.arr 1 false 0 (ints (nth out j).tags))
  hb : ∀ j, j < out.length → H[fb j]? = some (.arr 2 false 0 (whs (nth out j).whr))
  na : ∀ j, j < out.length → fa j ≠ id
  nb : ∀ j, j < out.length → fb j ≠ id
  nab : ∀ i j, i < out.length → j < out.length → fa i ≠ fb j
  nbb : ∀ i j, i < out.length → j < out.length → i ≠ j → fb i ≠ fb j

def Rep (H : Heap) (v : D) (out : List World) : Prop := (v = .nil ∧ out = []) ∨ ∃ id es fa fb, v = .ref id 0 out.length ∧ 0 < out.length ∧ Rp H id es fa fb out

@[go_sem] theorem joinT_eq (a b : Wh) : (joinF a b).1.e = .agg [tI (joinF a b).1.time, tL (joinF a b).1.frm] := rfl

theorem Rp.size {H : Heap} {id : Nat} {es : List D} {fa fb : Nat → Nat} {out : List World} (hr : Rp H id es fa fb out) : ∀ e ∈ es, e.cells.length = 2 := by
  intro e he
  obtain ⟨j, hj⟩ := List.mem_iff_getElem?.1 he
  have hl := (List.getElem?_eq_some_iff.1 hj).1
  rw [hr.el j (by rw [← hr.len]; exact hl)] at hj
  cases hj; rfl

theorem set_nth {α : Type} [Dat α] (l : List α) (k : Nat) (hk : k < l.length) (x : α) (j : Nat) : nth (l.set k x) j = if j = k then x else nth l j := by
  unfold nth
  rw [List.getD_eq_getElem?_getD]
  by_cases h : j = k
  · rw [if_pos h, h, List.getElem?_set_self hk]; rfl
  · rw [if_neg h, List.getElem?_set_ne (fun e => h e.symm), List.getD_eq_getElem?_getD]

theorem Rp.merge {H : Heap} {id : Nat} {es : List D} {fa fb : Nat → Nat} {out : List World} (hr : Rp H id es fa fb out) {k : Nat} (hk : k < out.length) (x : World) (ht : (nth out k).tags = x.tags) (hw : x.whr.length = (nth out k).whr.length) :
    Rp (H.set (fb k) (.arr 2 false 0 (whs x.whr))) id es fa fb (out.set k x) := by
  have ol : (out.set k x).length = out.length := List.length_set
  have nk := hr.nb k hk
  have kl := hp_lt (hr.hb k hk)
  refine ⟨by rw [hp_set_ne nk]; exact hr.arr, by rw [ol]; exact hr.len, ?_, ?_, ?_, by rw [ol]; exact hr.na, by rw [ol]; exact hr.nb, by rw [ol]; exact hr.nab, by rw [ol]; exact hr.nbb⟩
  · intro j hj
    rw [ol] at hj
    rw [hr.el j hj, set_nth out k hk]
    by_cases h : j = k
    · rw [if_pos h, h, ht, hw]
    · rw [if_neg h]
  · intro j hj
    rw [ol] at hj
    rw [hp_set_ne (fun e => hr.nab j k hj hk e.symm), hr.ha j hj, set_nth out k hk]
    by_cases h : j = k
    · rw [if_pos h, h, ht]
    · rw [if_neg h]
  · intro j hj
    rw [ol] at hj
    rw [set_nth out k hk]
    by_cases h : j = k
    · rw [if_pos h, h, hp_set_get kl]
    · rw [if_neg h, hp_set_ne (fun e => hr.nbb j k hj hk h e.symm)]; exact hr.hb j hj

theorem Rp.frz {H : Heap} {id : Nat} {es : List D} {fa fb : Nat → Nat} {out : List World} (hr : Rp H id es fa fb out) :
    mapO (frz H 8) es = some (out.map World.e) ∧ ∀ i ∈ es.flatMap (arrs H 8), i ≠ id := by
  have hl := hr.len
  have key : ∀ (j : Nat) (hj : j < out.length), Go.Ev.frz H 8 (.agg [.ref (fa j) 0 (nth out j).tags.length, .ref (fb j) 0 (nth out j).whr.length]) = some (nth out j).e ∧
      arrs H 8 (.agg [.ref (fa j) 0 (nth out j).tags.length, .ref (fb j) 0 (nth out j).whr.length]) = [fa j, fb j] := by
    intro j hj
    have h1 := hr.ha j hj
    have h2 := hr.hb j hj
    simp (disch := omega) only [go_sem, h1, h2, ints, whs, ↓reduceIte]
  constructor
  · have : ∀ (es : List D) (ts : List T), es.length = ts.length → (∀ (j : Nat) e t, es[j]? = some e → ts[j]? = some t → Go.Ev.frz H 8 e = some t) → mapO (Go.Ev.frz H 8) es = some ts := by
      intro es
      induction es with
      | nil => intro ts h _; cases ts with
        | nil => rfl
        | cons => simp at h
      | cons e es ih =>
        intro ts h hh
        cases ts with
        | nil => simp at h
        | cons t ts =>
          have h1 := hh 0 e t rfl rfl
          have h2 := ih ts (by simpa using h) fun j e t he ht => hh (j + 1) e t (by simpa using he) (by simpa using ht)
          simp only [mapO, h1, Option.bind_some, h2, Option.map_some]
    refine this es _ (by rw [List.length_map, hl]) fun j e t he ht => ?_
    have hj : j < out.length := by rw [← hl]; exact (List.getElem?_eq_some_iff.1 he).1
    rw [hr.el j hj] at he
    rw [map_nth _ hj] at ht
    cases he; cases ht
    exact (key j hj).1
  · intro i hi
    obtain ⟨e, he, hi⟩ := List.mem_flatMap.1 hi
    obtain ⟨j, hj⟩ := List.mem_iff_getElem?.1 he
    have hjl : j < out.length := by rw [← hl]; exact (List.getElem?_eq_some_iff.1 hj).1
    rw [hr.el j hjl] at hj
    cases hj
    rw [(key j hjl).2] at hi
    simp only [List.mem_cons, List.not_mem_nil, or_false] at hi
    rcases hi with rfl | rfl
    · exact hr.na j hjl
    · exact hr.nb j hjl

end Go.Ev

/- Chapter 26 of the references: exchanges. -/
namespace Go.Ev
open Go
variable [Lib] [Has1] [Has2]

@[go_sem] theorem map2_nth_set {α β γ : Type} [Dat α] (f : β → γ) (g : α → β) {l : List α} {i j : Nat} {x : α} (h : j < l.length) : (((l.set i x).map g).map f)[j]? = some (f (g (nth (l.set i x) j))) := map2_nth f g (by rw [List.length_set]; exact h)

def swapL (l : List Int) (i j : Nat) : List Int := (l.set i (nth l j)).set j (nth l i)
def exchW (i j : Nat) (t : Int) (x : World) : World := ⟨swapL x.tags i j, (x.whr.set i (raiseF (nth x.whr i) t).1).set j (raiseF (nth x.whr j) t).1⟩
def exchS (i j : Nat) (t : Int) (x : World) (out : List World) : List World := if meetB (nth x.whr i) (nth x.whr j) t = true then out ++ [exchW i j t x] else out
def exchNb (i j : Nat) (t : Int) (ws : List World) : Nat → List World
  | 0 => ws
  | k + 1 => exchS i j t (nth ws k) (exchNb i j t ws k)
def exchBel (m : Mine) (b : Bel) (i j t : Int) : Bel × Int :=
  if belB m b = false then (b, 6) else if i < 0 ∨ ((nth b.worlds 0).tags.length : Int) ≤ i ∨ j < 0 ∨ ((nth b.worlds 0).tags.length : Int) ≤ j ∨ i = j then (b, 19)
  else if ¬ inT t then (b, 8) else if 24 < (tidyF (exchNb i.toNat j.toNat t b.worlds b.worlds.length)).length then (b, 44) else (⟨tidyF (exchNb i.toNat j.toNat t b.worlds b.worlds.length)⟩, 0)

abbrev exH (m : Mine) (ws out : List World) : Heap := [.box (mineCells m), .box [.t (.sl (ws.map World.e))], .box [.nil], .arr 2 false 0 ((out.map World.e).map .t)]

end Go.Ev

/- Made inputs: beliefs. -/
namespace Go.Ev
open Go
variable [Lib] [Has1] [Has2]

def tagsN : Nat → List Int
  | 0 => []
  | k + 1 => tagsN k ++ [3 + (k : Int) * 2]
def Dice.nextsN (d : Dice) (n : Int) : Nat → List Int × Dice
  | 0 => ([], d)
  | k + 1 => ((d.nextsN n k).1 ++ [((d.nextsN n k).2.next n).1], ((d.nextsN n k).2.next n).2)
structure BSt where
  b : Bel
  t : Int
  d : Dice

def Dice.belStep (m : Mine) (n : Int) (s : BSt) : BSt :=
  let a := s.d.next 60
  let c := a.2.next 3
  if c.1 = 0 then
    let i := c.2.next n
    let j := i.2.next n
    let r := exchBel m s.b i.1 j.1 (s.t + a.1)
    ⟨if r.2 = 0 then r.1 else s.b, s.t + a.1, j.2⟩
  else if c.1 = 1 then
    let g := c.2.next n
    let l := g.2.someN m.places.length
    let e := l.2.next 9
    let r := seeBel m s.b (3 + 2 * g.1) l.1 (s.t + a.1) (s.t + a.1 + e.1)
    ⟨if r.2 = 0 then r.1 else s.b, s.t + a.1, e.2⟩
  else
    let g := c.2.next n
    let l := g.2.someN m.places.length
    let e := l.2.next 40
    let r := absBel m s.b (3 + 2 * g.1) l.1 (s.t + a.1) (s.t + a.1 + 50) e.1
    ⟨if r.2 = 0 then r.1 else s.b, s.t + a.1, e.2⟩
def Dice.belN (m : Mine) (n : Int) (s : BSt) : Nat → BSt
  | 0 => s
  | k + 1 => Dice.belStep m n (Dice.belN m n s k)

def Dice.belP (d : Dice) : Nat := (1 + (d.next 3).1).toNat
def Dice.belS (d : Dice) (m : Mine) : List Int × Dice := (d.next 3).2.nextsN m.places.length d.belP
def Dice.bel0 (d : Dice) (m : Mine) : BSt := ⟨(startBel m (tagsN d.belP) (d.belS m).1 ((d.belS m).2.next 100).1).1, 100, (((d.belS m).2.next 100).2.next 5).2⟩
def Dice.belK (d : Dice) (m : Mine) : Nat := (((d.belS m).2.next 100).2.next 5).1.toNat
def Dice.belF (d : Dice) (m : Mine) : BSt := Dice.belN m d.belP (d.bel0 m) (d.belK m)
def Dice.belief (d : Dice) (m : Mine) : Bel × Dice := ((d.belF m).b, (d.belF m).d)

/-- What beliefs keep: sizes. -/
structure WOk (m : Mine) (N : Nat) (x : World) : Prop where
  tg : x.tags.length = N
  wh : x.whr.length = N
  fr : ∀ w ∈ x.whr, w.frm.length = m.places.length
  ti : ∀ w ∈ x.whr, inT w.time
structure BOk (m : Mine) (N : Nat) (b : Bel) : Prop where
  w1 : 1 ≤ b.worlds.length
  w2 : b.worlds.length ≤ 24
  n1 : 1 ≤ N
  n2 : N ≤ 12
  ws : ∀ x ∈ b.worlds, WOk m N x

theorem WOk.sz {m : Mine} {N : Nat} {x : World} (h : WOk m N x) (hm : m.ok) (hn : N ≤ 12) : x.sz := by
  have np := hm.np
  obtain ⟨t1, t2, t3, -⟩ := h
  exact ⟨by omega, by omega, fun w hw => by rw [t3 w hw]; omega⟩
theorem BOk.sz {m : Mine} {N : Nat} {b : Bel} (h : BOk m N b) (hm : m.ok) : b.sz :=
  ⟨by have := h.w2; omega, fun x hx => (h.ws x hx).sz hm h.n2⟩

abbrev blH (m : Mine) (p1 p2 : Bool) (tags starts : List Int) (s : BSt) : Heap := [s.d.obj, .box (mineCells m), .box [.nil], .arr 1 p1 0 (ints tags), .arr 1 p2 0 (ints starts), .box [.t (.sl (s.b.worlds.map World.e))]]

end Go.Ev

/- Made inputs: beliefs and smoke, by the code. -/
namespace Go.Ev
open Go
variable [Lib] [Has1] [Has2]

end Go.Ev

/- Made inputs: smoke that spreads; machines. -/
namespace Go.Ev
open Go
variable [Lib] [Has1] [Has2]

def Dice.spread (d : Dice) (m : Mine) (fl : List Spn) : Wh × Dice :=
  let p := d.next m.places.length
  let t := p.2.next 200
  let s := startS m fl [p.1] t.1
  let o := t.2.one 2
  if o.1 = true then
    let f := o.2.flows m
    let a := f.2.next 100
    let r := changeS m fl m f.1 s.1 (s.1.time + a.1)
    if r.2 = 0 then (r.1, a.2) else (s.1, a.2)
  else (s.1, o.2)

/-- Machines. -/
structure Mch where
  kind : Int
  num : Int
  pl : List Int
instance : Dat Mch := ⟨⟨0, 0, []⟩⟩
abbrev Mch.e (x : Mch) : T := .agg [tI x.kind, tI x.num, tL x.pl]
@[go_sem] theorem appOK_mch (l : List Mch) : appOK 3 (l.map Mch.e) = true := by cases l <;> rfl

def Dice.mch (d : Dice) (n : Nat) : Mch × Dice :=
  let a := d.next 2
  let b := a.2.next 5
  let l := b.2.someN n
  if l.1.length = 0 then (⟨1 + a.1, b.1, [(l.2.next n).1]⟩, (l.2.next n).2) else (⟨1 + a.1, b.1, l.1⟩, l.2)
def Dice.mchN (d : Dice) (n : Nat) : Nat → List Mch × Dice
  | 0 => ([], d)
  | k + 1 => ((d.mchN n k).1 ++ [((d.mchN n k).2.mch n).1], ((d.mchN n k).2.mch n).2)
def Dice.mchs (d : Dice) (n : Nat) : List Mch × Dice := (d.next 4).2.mchN n (d.next 4).1.toNat

end Go.Ev

/- The program: possible places of persons; places with smoke; the fire rules. -/
namespace Go.Ev
open Go
variable [Lib] [Has1] [Has2]

def mayW (person t : Int) (p : Nat) (x : World) : Bool := decide (0 ≤ person ∧ person < x.whr.length) && (decide (p < (nth x.whr person.toNat).frm.length) && decide (nth (nth x.whr person.toNat).frm p ≤ t))

def meetsB (a b : List Int) : Bool := a.any fun p => decide (p ∈ b)
def nearF (x : Mch) (b : Bel) (t : Int) : List Int := if b.worlds.length = 0 then [] else whereF (nth b.worlds 0).whr.length fun i => meetsB (possB b i t) x.pl
def cmdF (x : Mch) (s : Wh) (b : Bel) (t ahead : Int) : Int :=
  if meetsB (possF s t) x.pl = true then 2 else if meetsB (possF s (t + ahead)) x.pl = true then 1
  else if x.kind = 2 ∧ (possF s (t + ahead)).length ≠ 0 ∧ (nearF x b (t + ahead)).length ≠ 0 then 3 else 0

def drawnF (x : Mch) (s : Wh) (b : Bel) (t ahead : Int) : List Int := if cmdF x s b t ahead = 2 ∨ cmdF x s b t ahead = 1 then nearF x b (t + ahead) else []
end Go.Ev

/- FireRulesStay. -/
namespace Go.Ev
open Go
variable [Lib] [Has1] [Has2]

/- plain facts about the commands -/
abbrev stayH (d : Dice) (m : Mine) (s : Wh) (b : Bel) : Heap := [d.obj, .box (mineCells m), .box [I s.time, .t (tL s.frm)], .box [.t (.sl (b.worlds.map World.e))]]

section
variable {m : Mine} (hm : m.ok) {N : Nat} {b : Bel} (hb : BOk m N b) {s : Wh} (hs : s.frm.length = m.places.length) {l : List Mch}
variable (hl : ∀ y ∈ l, y.pl.length ≤ m.places.length ∧ 1 ≤ y.pl.length ∧ ∀ x ∈ y.pl, 0 ≤ x ∧ x < m.places.length) {t a : Int} (t0 : 0 ≤ t) (t1 : t ≤ 10000) (a0 : 0 ≤ a) (a1 : a ≤ 10000) (d : Dice)
include hm hb hs hl t0 t1 a0 a1

omit hm hb t0 t1 a1 in
end

def Dice.skip (d : Dice) (n : Int) : Nat → Dice
  | 0 => d
  | k + 1 => ((d.skip n k).next n).2
end Go.Ev

/- MADE BY PROGRAM (lib.py): the compact code of functions. -/
namespace Go.Ev.K
open Go.Ev
def law27_HeadsMore_l1b : C := (.seq (.ite [{ o := .mv (.v 9) }, { o := .fa (.v 3) 0 }, { o := .ld (.l 0) 1 false }, { o := .ln (.l 0) }, { o := .bin .lss (.l 3) (.l 0) }] [] 0 .skip (.exit 0)) (.seq (.blk 1 (.seq (.reg [{ o := .mv (.v 7) }, { o := .mv (.v 9) }, { o := .bs [.l 0] 1 }, { o := .app (.l 2) (.l 0) true 1 }, { o := .mv (.l 0), d := some 7 }] []) (.ite [{ o := .mv (.v 6) }, { o := .mv (.v 9) }, { o := .ca N.ref23_Has 0 [] [.l 1, .l 0] }, { o := .mv (.l 0) }, { o := .mv (.v 2), g := some (0, false) }, { o := .ca N.made_Dice_One 0 [] [.l 0, .i 2], g := some (1, false) }, { o := .pk (.l 2) (.b true) (.l 0) }] [] 0 (.reg [{ o := .mv (.v 8) }, { o := .mv (.v 9) }, { o := .bs [.l 0] 1 }, { o := .app (.l 2) (.l 0) true 1 }, { o := .mv (.l 0), d := some 8 }] []) .skip))) (.reg [{ o := .mv (.v 9) }, { o := .bin .add (.l 0) (.i 1) }, { o := .mv (.l 0), d := some 9 }] [])))
def law27_HeadsMore_l1 : C := .loop true [0, 1, 10, 11, 12, 13, 14, 15] K.law27_HeadsMore_l1b
def law27_HeadsMore_l3b : C := (.seq (.ite [{ o := .mv (.v 11) }, { o := .fa (.v 4) 0 }, { o := .ld (.l 0) 1 false }, { o := .mv (.v 10) }, { o := .ia (.l 1) (.l 0) 2 }, { o := .fa (.l 0) 1 }, { o := .ld (.l 0) 1 false }, { o := .ln (.l 0) }, { o := .bin .lss (.l 7) (.l 0) }] [] 0 .skip (.exit 4)) (.seq (.blk 5 (.ite [{ o := .fa (.v 4) 0 }, { o := .ld (.l 0) 1 false }, { o := .mv (.v 10) }, { o := .ia (.l 1) (.l 0) 2 }, { o := .fa (.l 0) 1 }, { o := .ld (.l 0) 1 false }, { o := .mv (.v 11) }, { o := .ia (.l 1) (.l 0) 2 }, { o := .ld (.l 0) 2 true }, { o := .mv (.v 5) }, { o := .ca N.ref25_Possible 0 [] [.l 1, .l 0] }, { o := .ln (.l 0) }, { o := .bin .eql (.l 0) (.i 0) }] [] 0 (.seq (.reg [{ o := .ca N.law27_awake 0 [] [] }, { o := .mv (.l 0), d := some 1 }] []) .ret) .skip)) (.reg [{ o := .mv (.v 11) }, { o := .bin .add (.l 0) (.i 1) }, { o := .mv (.l 0), d := some 11 }] [])))
def law27_HeadsMore_l3 : C := .loop true [0, 1, 2, 3, 9, 12, 13, 14, 15] K.law27_HeadsMore_l3b
def law27_HeadsMore_l2b : C := (.seq (.ite [{ o := .mv (.v 10) }, { o := .fa (.v 4) 0 }, { o := .ld (.l 0) 1 false }, { o := .ln (.l 0) }, { o := .bin .lss (.l 3) (.l 0) }] [] 0 .skip (.exit 2)) (.seq (.blk 3 (.seq (.reg [{ o := .mv (.i 0), d := some 11 }] []) (.blk 4 K.law27_HeadsMore_l3))) (.reg [{ o := .mv (.v 10) }, { o := .bin .add (.l 0) (.i 1) }, { o := .mv (.l 0), d := some 10 }] [])))
def law27_HeadsMore_l2 : C := .loop true [0, 1, 2, 3, 9, 11, 12, 13, 14, 15] K.law27_HeadsMore_l2b
/-- /law27.HeadsMore -/
def law27_HeadsMore : Fn := { nargs := 1, vars := [0, 2, 3, 4, 5, 6, 7, 8, 9, 10, 11, 12, 13, 14, 15, 16], body := (.seq (.reg [{ o := .mv (.b false), d := some 1 }] []) (.seq (.ite [{ o := .mv (.v 0) }, { o := .ca N.made_Light 0 [] [.l 0] }, { o := .un .not (.l 0) }] [] 0 (.seq (.reg [{ o := .ca N.law27_awake 0 [] [] }, { o := .mv (.l 0), d := some 1 }] []) .ret) .skip) (.seq (.reg [{ o := .mv (.v 0) }, { o := .ca N.made_Roll 0 [] [.l 0] }, { o := .mv (.l 0), d := some 2 }] []) (.seq (.reg [{ o := .mv (.v 2) }, { o := .ca N.made_Dice_Mine 0 [] [.l 0] }, { o := .al [.nil, .nil] [], d := some 3 }, { o := .st (.l 0) (.l 1) 2 [] }] []) (.seq (.reg [{ o := .mv (.v 2) }, { o := .ld (.v 3) 2 true }, { o := .ca N.made_Dice_Belief 0 [] [.l 1, .l 0] }, { o := .al [.nil] [], d := some 4 }, { o := .st (.l 0) (.l 1) 1 [] }] []) (.seq (.reg [{ o := .ld (.v 4) 1 true }, { o := .ca N.made_Last 0 [] [.l 0] }, { o := .mv (.v 2) }, { o := .ca N.made_Dice_Next 0 [] [.l 0, .i 100] }, { o := .bin .add (.l 2) (.l 0) }, { o := .mv (.l 0), d := some 5 }] []) (.seq (.reg [{ o := .mv (.v 2) }, { o := .fa (.v 3) 0 }, { o := .ld (.l 0) 1 false }, { o := .ln (.l 0) }, { o := .ca N.made_Dice_Some 0 [] [.l 3, .l 0] }, { o := .mv (.l 0), d := some 6 }] []) (.seq (.reg [{ o := .nw 1, d := some 7 }, { o := .nw 1, d := some 8 }] []) (.seq (.seq (.reg [{ o := .mv (.i 0), d := some 9 }] []) (.blk 0 K.law27_HeadsMore_l1)) (.seq (.seq (.reg [{ o := .mv (.i 0), d := some 10 }] []) (.blk 2 K.law27_HeadsMore_l2)) (.seq (.reg [{ o := .al [.t (.int .i64 (0)), .t (.int .i64 (0))] [], d := some 12 }, { o := .al [.t (.int .i64 (0)), .t (.int .i64 (0))] [], d := some 13 }, { o := .al [.t (.int .i64 (0)), .t (.int .i64 (0))] [], d := some 14 }, { o := .ld (.v 4) 1 true }, { o := .mv (.v 6) }, { o := .mv (.v 5) }, { o := .ca N.heads_Count 0 [] [.l 2, .l 1, .l 0] }, { o := .ld (.v 4) 1 true }, { o := .mv (.v 8) }, { o := .mv (.v 5) }, { o := .ca N.heads_Count 0 [] [.l 2, .l 1, .l 0] }, { o := .ld (.v 4) 1 true }, { o := .mv (.v 7) }, { o := .mv (.v 5) }, { o := .ca N.heads_Count 0 [] [.l 2, .l 1, .l 0] }, { o := .st (.l 14) (.l 8) 2 [] }, { o := .st (.l 14) (.l 5) 2 [] }, { o := .st (.l 14) (.l 2) 2 [] }] [(0, 7), (0, 11), (0, 15), (1, 7), (1, 11), (1, 15), (2, 7), (2, 11), (2, 15), (7, 3), (11, 3), (11, 7)]) (.seq (.reg [{ o := .fa (.v 4) 0 }, { o := .ld (.l 0) 1 false }, { o := .ia (.l 0) (.i 0) 2 }, { o := .fa (.l 0) 0 }, { o := .ld (.l 0) 1 false }, { o := .ln (.l 0) }, { o := .mv (.l 0), d := some 15 }] []) (.seq (.reg [{ o := .ca N.law27_awake 0 [] [] }, { o := .mv (.l 0) }, { o := .fa (.v 12) 0, g := some (0, true) }, { o := .ld (.l 0) 1 false, g := some (1, true) }, { o := .fa (.v 13) 0, g := some (2, true) }, { o := .ld (.l 0) 1 false, g := some (3, true) }, { o := .bin .leq (.l 2) (.l 0), g := some (4, true) }, { o := .pk (.l 5) (.l 0) (.b false) }, { o := .mv (.l 0) }, { o := .fa (.v 12) 1, g := some (0, true) }, { o := .ld (.l 0) 1 false, g := some (1, true) }, { o := .fa (.v 13) 1, g := some (2, true) }, { o := .ld (.l 0) 1 false, g := some (3, true) }, { o := .bin .leq (.l 2) (.l 0), g := some (4, true) }, { o := .pk (.l 5) (.l 0) (.b false) }, { o := .mv (.l 0) }, { o := .fa (.v 14) 0, g := some (0, true) }, { o := .ld (.l 0) 1 false, g := some (1, true) }, { o := .mv (.v 15), g := some (2, true) }, { o := .bin .eql (.l 1) (.l 0), g := some (3, true) }, { o := .pk (.l 4) (.l 0) (.b false) }, { o := .mv (.l 0) }, { o := .fa (.v 14) 1, g := some (0, true) }, { o := .ld (.l 0) 1 false, g := some (1, true) }, { o := .mv (.v 15), g := some (2, true) }, { o := .bin .eql (.l 1) (.l 0), g := some (3, true) }, { o := .pk (.l 4) (.l 0) (.b false) }, { o := .mv (.l 0), d := some 1 }] []) .ret))))))))))))), res := [(1, none)] }
def law27_HeadsSplit_l1b : C := (.seq (.ite [{ o := .mv (.v 9) }, { o := .fa (.v 3) 0 }, { o := .ld (.l 0) 1 false }, { o := .ln (.l 0) }, { o := .bin .lss (.l 3) (.l 0) }] [] 0 .skip (.exit 0)) (.seq (.blk 1 (.seq (.reg [{ o := .mv (.v 2) }, { o := .ca N.made_Dice_Next 0 [] [.l 0, .i 3], d := some 13 }] []) (.blk 2 (.ite [{ o := .bin .eql (.v 13) (.i 0) }, { o := .mv (.l 0) }] [] 0 (.reg [{ o := .mv (.v 6) }, { o := .mv (.v 9) }, { o := .bs [.l 0] 1 }, { o := .app (.l 2) (.l 0) true 1 }, { o := .mv (.v 8) }, { o := .mv (.v 9) }, { o := .bs [.l 0] 1 }, { o := .app (.l 2) (.l 0) true 1 }, { o := .mv (.l 4), d := some 6 }, { o := .mv (.l 1), d := some 8 }] []) (.ite [{ o := .bin .eql (.v 13) (.i 1) }, { o := .mv (.l 0) }] [] 0 (.reg [{ o := .mv (.v 7) }, { o := .mv (.v 9) }, { o := .bs [.l 0] 1 }, { o := .app (.l 2) (.l 0) true 1 }, { o := .mv (.v 8) }, { o := .mv (.v 9) }, { o := .bs [.l 0] 1 }, { o := .app (.l 2) (.l 0) true 1 }, { o := .mv (.l 4), d := some 7 }, { o := .mv (.l 1), d := some 8 }] []) .skip))))) (.reg [{ o := .mv (.v 9) }, { o := .bin .add (.l 0) (.i 1) }, { o := .mv (.l 0), d := some 9 }] [])))
def law27_HeadsSplit_l1 : C := .loop true [0, 1, 10, 11, 12, 13] K.law27_HeadsSplit_l1b
/-- /law27.HeadsSplit -/
def law27_HeadsSplit : Fn := { nargs := 1, vars := [0, 2, 3, 4, 5, 6, 7, 8, 9, 10, 11, 12, 13, 38], body := (.seq (.reg [{ o := .mv (.b false), d := some 1 }] []) (.seq (.ite [{ o := .mv (.v 0) }, { o := .ca N.made_Light 0 [] [.l 0] }, { o := .un .not (.l 0) }] [] 0 (.seq (.reg [{ o := .ca N.law27_awake 0 [] [] }, { o := .mv (.l 0), d := some 1 }] []) .ret) .skip) (.seq (.reg [{ o := .mv (.v 0) }, { o := .ca N.made_Roll 0 [] [.l 0] }, { o := .mv (.l 0), d := some 2 }] []) (.seq (.reg [{ o := .mv (.v 2) }, { o := .ca N.made_Dice_Mine 0 [] [.l 0] }, { o := .al [.nil, .nil] [], d := some 3 }, { o := .st (.l 0) (.l 1) 2 [] }] []) (.seq (.reg [{ o := .mv (.v 2) }, { o := .ld (.v 3) 2 true }, { o := .ca N.made_Dice_Belief 0 [] [.l 1, .l 0] }, { o := .al [.nil] [], d := some 4 }, { o := .st (.l 0) (.l 1) 1 [] }] []) (.seq (.reg [{ o := .ld (.v 4) 1 true }, { o := .ca N.made_Last 0 [] [.l 0] }, { o := .mv (.v 2) }, { o := .ca N.made_Dice_Next 0 [] [.l 0, .i 100] }, { o := .bin .add (.l 2) (.l 0) }, { o := .mv (.l 0), d := some 5 }] []) (.seq (.reg [{ o := .nw 1, d := some 6 }, { o := .nw 1, d := some 7 }, { o := .nw 1, d := some 8 }] []) (.seq (.seq (.reg [{ o := .mv (.i 0), d := some 9 }] []) (.blk 0 K.law27_HeadsSplit_l1)) (.seq (.reg [{ o := .al [.t (.int .i64 (0)), .t (.int .i64 (0))] [], d := some 10 }, { o := .al [.t (.int .i64 (0)), .t (.int .i64 (0))] [], d := some 11 }, { o := .al [.t (.int .i64 (0)), .t (.int .i64 (0))] [], d := some 12 }, { o := .ld (.v 4) 1 true }, { o := .mv (.v 6) }, { o := .mv (.v 5) }, { o := .ca N.heads_Count 0 [] [.l 2, .l 1, .l 0] }, { o := .ld (.v 4) 1 true }, { o := .mv (.v 7) }, { o := .mv (.v 5) }, { o := .ca N.heads_Count 0 [] [.l 2, .l 1, .l 0] }, { o := .ld (.v 4) 1 true }, { o := .mv (.v 8) }, { o := .mv (.v 5) }, { o := .ca N.heads_Count 0 [] [.l 2, .l 1, .l 0] }, { o := .st (.l 14) (.l 8) 2 [] }, { o := .st (.l 14) (.l 5) 2 [] }, { o := .st (.l 14) (.l 2) 2 [] }] [(0, 7), (0, 11), (0, 15), (1, 7), (1, 11), (1, 15), (2, 7), (2, 11), (2, 15), (7, 3), (11, 3), (11, 7)]) (.seq (.reg [{ o := .ca N.law27_awake 0 [] [] }, { o := .mv (.l 0) }, { o := .fa (.v 12) 0, g := some (0, true) }, { o := .ld (.l 0) 1 false, g := some (1, true) }, { o := .fa (.v 10) 0, g := some (2, true) }, { o := .ld (.l 0) 1 false, g := some (3, true) }, { o := .fa (.v 11) 0, g := some (4, true) }, { o := .ld (.l 0) 1 false, g := some (5, true) }, { o := .bin .add (.l 2) (.l 0), g := some (6, true) }, { o := .bin .geq (.l 5) (.l 0), g := some (7, true) }, { o := .pk (.l 8) (.l 0) (.b false) }, { o := .mv (.l 0) }, { o := .fa (.v 12) 1, g := some (0, true) }, { o := .ld (.l 0) 1 false, g := some (1, true) }, { o := .fa (.v 10) 1, g := some (2, true) }, { o := .ld (.l 0) 1 false, g := some (3, true) }, { o := .fa (.v 11) 1, g := some (4, true) }, { o := .ld (.l 0) 1 false, g := some (5, true) }, { o := .bin .add (.l 2) (.l 0), g := some (6, true) }, { o := .bin .leq (.l 5) (.l 0), g := some (7, true) }, { o := .pk (.l 8) (.l 0) (.b false) }, { o := .mv (.l 0) }, { o := .fa (.v 12) 0, g := some (0, true) }, { o := .ld (.l 0) 1 false, g := some (1, true) }, { o := .fa (.v 12) 1, g := some (2, true) }, { o := .ld (.l 0) 1 false, g := some (3, true) }, { o := .bin .leq (.l 2) (.l 0), g := some (4, true) }, { o := .pk (.l 5) (.l 0) (.b false) }, { o := .mv (.l 0), d := some 1 }] []) .ret)))))))))), res := [(1, none)] }
def law27_HeadsAll_l2b : C := (.its  [{ o := .bin .lss (.v 16) (.v 15) }] [] 0 .skip (.exit 2) (.seq (.blk 3 (.seq (.reg [{ o := .ia (.v 14) (.v 16) 1 }, { o := .ld (.l 0) 1 false }, { o := .mv (.l 0), d := some 10 }] []) (.ite [{ o := .ld (.v 7) 1 true }, { o := .mv (.v 9) }, { o := .mv (.v 10) }, { o := .ca N.heads_Count 0 [] [.l 2, .l 1, .l 0] }, { o := .ld (.v 7) 1 true }, { o := .mv (.v 9) }, { o := .mv (.v 10) }, { o := .ca N.ref27_Count 0 [] [.l 2, .l 1, .l 0] }, { o := .eqk (.ints 2) true (.l 4) (.l 0) }, { o := .mv (.l 0) }, { o := .ld (.v 7) 1 true, g := some (0, false) }, { o := .mv (.v 9), g := some (1, false) }, { o := .mv (.v 10), g := some (2, false) }, { o := .ca N.heads_Sure 0 [] [.l 2, .l 1, .l 0], g := some (3, false) }, { o := .ld (.v 7) 1 true, g := some (4, false) }, { o := .mv (.v 9), g := some (5, false) }, { o := .mv (.v 10), g := some (6, false) }, { o := .ca N.ref27_Sure 0 [] [.l 2, .l 1, .l 0], g := some (7, false) }, { o := .ca N.ref23_SameInts 0 [] [.l 4, .l 0], g := some (8, false) }, { o := .un .not (.l 0), g := some (9, false) }, { o := .pk (.l 10) (.b true) (.l 0) }, { o := .mv (.l 0) }, { o := .ld (.v 7) 1 true, g := some (0, false) }, { o := .mv (.v 9), g := some (1, false) }, { o := .mv (.v 10), g := some (2, false) }, { o := .ca N.heads_Maybe 0 [] [.l 2, .l 1, .l 0], g := some (3, false) }, { o := .ld (.v 7) 1 true, g := some (4, false) }, { o := .mv (.v 9), g := some (5, false) }, { o := .mv (.v 10), g := some (6, false) }, { o := .ca N.ref27_Maybe 0 [] [.l 2, .l 1, .l 0], g := some (7, false) }, { o := .ca N.ref23_SameInts 0 [] [.l 4, .l 0], g := some (8, false) }, { o := .un .not (.l 0), g := some (9, false) }, { o := .pk (.l 10) (.b true) (.l 0) }] [(4, 0), (14, 8), (26, 19)] 0 (.seq (.reg [{ o := .mv (.b false), d := some 4 }] []) .ret) .skip))) (.reg [{ o := .bin .add (.v 16) (.i 1) }, { o := .mv (.l 0), d := some 16 }] [])))
def law27_HeadsAll_l2 : C := .loop true [0, 1, 2, 4, 5, 6, 10] K.law27_HeadsAll_l2b
def law27_HeadsAll_l1b : C := (.its  [{ o := .bin .lss (.v 13) (.v 12) }] [] 0 .skip (.exit 0) (.seq (.blk 1 (.seq (.reg [{ o := .ia (.v 11) (.v 13) 1 }, { o := .ld (.l 0) 1 false }, { o := .mv (.l 0), d := some 9 }] []) (.seq (.reg [{ o := .mv (.v 8) }, { o := .iaa (.v 3) (.i 0) 2 1 }, { o := .ld (.l 0) 1 false }, { o := .bs [.l 2, .l 0] 1, d := some 14 }, { o := .ln (.l 0), d := some 15 }, { o := .mv (.i 0), d := some 16 }] []) (.blk 2 K.law27_HeadsAll_l2)))) (.reg [{ o := .bin .add (.v 13) (.i 1) }, { o := .mv (.l 0), d := some 13 }] [])))
def law27_HeadsAll_l1 : C := .loop true [0, 1, 2, 4, 5, 6, 9, 10, 14, 15, 16] K.law27_HeadsAll_l1b
/-- /law27.HeadsAll -/
def law27_HeadsAll : Fn := { nargs := 3, vars := [0, 1, 2, 5, 6, 7, 8, 9, 10, 12, 14, 44, 45, 46, 53, 54, 55], body := (.seq (.reg [{ o := .bx (.v 2) 2, d := some 3 }, { o := .mv (.b false), d := some 4 }] []) (.seq (.ite [{ o := .mv (.v 0) }, { o := .ca N.made_Light 0 [] [.l 0] }, { o := .un .not (.l 0) }, { o := .mv (.l 0) }, { o := .mv (.v 1), g := some (0, false) }, { o := .ln (.l 0), g := some (1, false) }, { o := .bin .gtr (.l 0) (.i 100), g := some (2, false) }, { o := .pk (.l 3) (.b true) (.l 0) }] [] 0 (.seq (.reg [{ o := .ca N.law27_awake 0 [] [] }, { o := .mv (.l 0), d := some 4 }] []) .ret) .skip) (.seq (.reg [{ o := .mv (.v 0) }, { o := .ca N.made_Roll 0 [] [.l 0] }, { o := .mv (.l 0), d := some 5 }] []) (.seq (.reg [{ o := .mv (.v 5) }, { o := .ca N.made_Dice_Mine 0 [] [.l 0] }, { o := .al [.nil, .nil] [], d := some 6 }, { o := .st (.l 0) (.l 1) 2 [] }] []) (.seq (.reg [{ o := .mv (.v 5) }, { o := .ld (.v 6) 2 true }, { o := .ca N.made_Dice_Belief 0 [] [.l 1, .l 0] }, { o := .al [.nil] [], d := some 7 }, { o := .st (.l 0) (.l 1) 1 [] }] []) (.seq (.reg [{ o := .ld (.v 7) 1 true }, { o := .ca N.made_Last 0 [] [.l 0] }, { o := .iaa (.v 3) (.i 0) 2 1 }, { o := .ld (.l 0) 1 false }, { o := .ca N.made_Mod 0 [] [.l 0, .i 200] }, { o := .bin .add (.l 3) (.l 0) }, { o := .bin .sub (.l 0) (.i 20) }, { o := .mv (.l 0), d := some 8 }] [(3, 0)]) (.seq (.seq (.reg [{ o := .mv (.v 1) }, { o := .mv (.v 5) }, { o := .fa (.v 6) 0 }, { o := .ld (.l 0) 1 false }, { o := .ln (.l 0) }, { o := .ca N.made_Dice_Some 0 [] [.l 3, .l 0] }, { o := .bs [.l 5, .l 0, .c (.nil)] 1, d := some 11 }, { o := .ln (.l 0), d := some 12 }, { o := .mv (.i 0), d := some 13 }] []) (.blk 0 K.law27_HeadsAll_l1)) (.seq (.reg [{ o := .ca N.law27_awake 0 [] [] }, { o := .mv (.l 0) }, { o := .ld (.v 7) 1 true, g := some (0, true) }, { o := .mv (.v 8), g := some (1, true) }, { o := .iaa (.v 3) (.i 1) 2 1, g := some (2, true) }, { o := .ld (.l 0) 1 false, g := some (3, true) }, { o := .ca N.made_Mod 0 [] [.l 0, .i 5], g := some (4, true) }, { o := .ca N.heads_Missing 0 [] [.l 4, .l 3, .l 0], g := some (5, true) }, { o := .ld (.v 7) 1 true, g := some (6, true) }, { o := .mv (.v 8), g := some (7, true) }, { o := .iaa (.v 3) (.i 1) 2 1, g := some (8, true) }, { o := .ld (.l 0) 1 false, g := some (9, true) }, { o := .ca N.made_Mod 0 [] [.l 0, .i 5], g := some (10, true) }, { o := .ca N.ref27_Missing 0 [] [.l 4, .l 3, .l 0], g := some (11, true) }, { o := .ca N.ref23_SameInts 0 [] [.l 6, .l 0], g := some (12, true) }, { o := .pk (.l 13) (.l 0) (.b false) }, { o := .mv (.l 0) }, { o := .ld (.v 7) 1 true, g := some (0, true) }, { o := .iaa (.v 3) (.i 0) 2 1, g := some (1, true) }, { o := .ld (.l 0) 1 false, g := some (2, true) }, { o := .iaa (.v 3) (.i 1) 2 1, g := some (3, true) }, { o := .ld (.l 0) 1 false, g := some (4, true) }, { o := .ca N.heads_Missing 0 [] [.l 4, .l 2, .l 0], g := some (5, true) }, { o := .ld (.v 7) 1 true, g := some (6, true) }, { o := .iaa (.v 3) (.i 0) 2 1, g := some (7, true) }, { o := .ld (.l 0) 1 false, g := some (8, true) }, { o := .iaa (.v 3) (.i 1) 2 1, g := some (9, true) }, { o := .ld (.l 0) 1 false, g := some (10, true) }, { o := .ca N.ref27_Missing 0 [] [.l 4, .l 2, .l 0], g := some (11, true) }, { o := .ca N.ref23_SameInts 0 [] [.l 6, .l 0], g := some (12, true) }, { o := .pk (.l 13) (.l 0) (.b false) }, { o := .mv (.l 0), d := some 4 }] [(2, 7), (8, 1), (8, 7), (8, 13), (11, 1), (11, 7), (23, 15), (25, 15), (27, 15)]) .ret)))))))), res := [(4, none)] }
def law27_HeadsTrue_l1b : C := (.seq (.ite [{ o := .mv (.v 9) }, { o := .fa (.v 7) 1 }, { o := .ld (.l 0) 1 false }, { o := .ln (.l 0) }, { o := .bin .lss (.l 3) (.l 0) }] [] 0 .skip (.exit 0)) (.seq (.blk 1 (.seq (.reg [{ o := .fa (.v 7) 1 }, { o := .ld (.l 0) 1 false }, { o := .mv (.v 9) }, { o := .ia (.l 1) (.l 0) 2 }, { o := .ld (.l 0) 2 true }, { o := .mv (.v 5) }, { o := .ca N.ref25_Possible 0 [] [.l 1, .l 0] }, { o := .mv (.l 0), d := some 10 }] []) (.seq (.ite [{ o := .mv (.v 10) }, { o := .ln (.l 0) }, { o := .bin .eql (.l 0) (.i 0) }] [] 0 (.seq (.reg [{ o := .ca N.law27_awake 0 [] [] }, { o := .mv (.l 0), d := some 1 }] []) .ret) .skip) (.seq (.reg [{ o := .mv (.v 6) }, { o := .mv (.v 10) }, { o := .mv (.v 2) }, { o := .mv (.v 10) }, { o := .ln (.l 0) }, { o := .ca N.made_Dice_Next 0 [] [.l 2, .l 0] }, { o := .ia (.l 4) (.l 0) 1 }, { o := .ld (.l 0) 1 false }, { o := .ca N.ref23_Has 0 [] [.l 7, .l 0] }, { o := .mv (.l 0), d := some 11 }] []) (.seq (.ite [{ o := .mv (.v 11) }] [] 0 (.reg [{ o := .mv (.v 8) }, { o := .bin .add (.l 0) (.i 1) }, { o := .mv (.l 0), d := some 8 }] []) .skip) (.ite [{ o := .mv (.v 11) }, { o := .un .not (.l 0) }, { o := .mv (.l 0) }, { o := .ld (.v 4) 1 true, g := some (0, true) }, { o := .mv (.v 6), g := some (1, true) }, { o := .mv (.v 5), g := some (2, true) }, { o := .ca N.heads_Sure 0 [] [.l 2, .l 1, .l 0], g := some (3, true) }, { o := .mv (.v 9), g := some (4, true) }, { o := .ca N.ref23_Has 0 [] [.l 1, .l 0], g := some (5, true) }, { o := .pk (.l 6) (.l 0) (.b false) }, { o := .mv (.l 0) }, { o := .mv (.v 11), g := some (0, false) }, { o := .mv (.l 0), g := some (1, false) }, { o := .ld (.v 4) 1 true, g := some (0, true) }, { o := .mv (.v 6), g := some (1, true) }, { o := .mv (.v 5), g := some (2, true) }, { o := .ca N.heads_Maybe 0 [] [.l 2, .l 1, .l 0], g := some (3, true) }, { o := .mv (.v 9), g := some (4, true) }, { o := .ca N.ref23_Has 0 [] [.l 1, .l 0], g := some (5, true) }, { o := .un .not (.l 0), g := some (6, true) }, { o := .pk (.l 7) (.l 0) (.b false), g := some (9, false) }, { o := .pk (.l 10) (.b true) (.l 0) }] [] 0 (.seq (.reg [{ o := .mv (.b false), d := some 1 }] []) .ret) .skip)))))) (.reg [{ o := .mv (.v 9) }, { o := .bin .add (.l 0) (.i 1) }, { o := .mv (.l 0), d := some 9 }] [])))
def law27_HeadsTrue_l1 : C := .loop true [0, 1, 3, 10, 11, 12] K.law27_HeadsTrue_l1b
/-- /law27.HeadsTrue -/
def law27_HeadsTrue : Fn := { nargs := 1, vars := [0, 2, 3, 4, 5, 6, 7, 8, 9, 10, 11, 12, 13], body := (.seq (.reg [{ o := .mv (.b false), d := some 1 }] []) (.seq (.ite [{ o := .mv (.v 0) }, { o := .ca N.made_Light 0 [] [.l 0] }, { o := .un .not (.l 0) }] [] 0 (.seq (.reg [{ o := .ca N.law27_awake 0 [] [] }, { o := .mv (.l 0), d := some 1 }] []) .ret) .skip) (.seq (.reg [{ o := .mv (.v 0) }, { o := .ca N.made_Roll 0 [] [.l 0] }, { o := .mv (.l 0), d := some 2 }] []) (.seq (.reg [{ o := .mv (.v 2) }, { o := .ca N.made_Dice_Mine 0 [] [.l 0] }, { o := .al [.nil, .nil] [], d := some 3 }, { o := .st (.l 0) (.l 1) 2 [] }] []) (.seq (.reg [{ o := .mv (.v 2) }, { o := .ld (.v 3) 2 true }, { o := .ca N.made_Dice_Belief 0 [] [.l 1, .l 0] }, { o := .al [.nil] [], d := some 4 }, { o := .st (.l 0) (.l 1) 1 [] }] []) (.seq (.reg [{ o := .ld (.v 4) 1 true }, { o := .ca N.made_Last 0 [] [.l 0] }, { o := .mv (.v 2) }, { o := .ca N.made_Dice_Next 0 [] [.l 0, .i 100] }, { o := .bin .add (.l 2) (.l 0) }, { o := .mv (.l 0), d := some 5 }] []) (.seq (.reg [{ o := .mv (.v 2) }, { o := .fa (.v 3) 0 }, { o := .ld (.l 0) 1 false }, { o := .ln (.l 0) }, { o := .ca N.made_Dice_Some 0 [] [.l 3, .l 0] }, { o := .mv (.l 0), d := some 6 }] []) (.seq (.reg [{ o := .al [.nil, .nil] [], d := some 7 }, { o := .fa (.v 4) 0 }, { o := .ld (.l 0) 1 false }, { o := .mv (.v 2) }, { o := .fa (.v 4) 0 }, { o := .ld (.l 0) 1 false }, { o := .ln (.l 0) }, { o := .ca N.made_Dice_Next 0 [] [.l 3, .l 0] }, { o := .ia (.l 5) (.l 0) 2 }, { o := .ld (.l 0) 2 true }, { o := .st (.l 9) (.l 0) 2 [] }] [(0, 8), (2, 8)]) (.seq (.reg [{ o := .mv (.i 0), d := some 8 }] []) (.seq (.seq (.reg [{ o := .mv (.i 0), d := some 9 }] []) (.blk 0 K.law27_HeadsTrue_l1)) (.seq (.reg [{ o := .ld (.v 4) 1 true }, { o := .mv (.v 6) }, { o := .mv (.v 5) }, { o := .ca N.heads_Count 0 [] [.l 2, .l 1, .l 0] }, { o := .al [.t (.int .i64 (0)), .t (.int .i64 (0))] [], d := some 12 }, { o := .st (.l 0) (.l 1) 2 [] }] []) (.seq (.reg [{ o := .ca N.law27_awake 0 [] [] }, { o := .mv (.l 0) }, { o := .fa (.v 12) 0, g := some (0, true) }, { o := .ld (.l 0) 1 false, g := some (1, true) }, { o := .mv (.v 8), g := some (2, true) }, { o := .bin .leq (.l 1) (.l 0), g := some (3, true) }, { o := .pk (.l 4) (.l 0) (.b false) }, { o := .mv (.l 0) }, { o := .mv (.v 8), g := some (0, true) }, { o := .fa (.v 12) 1, g := some (1, true) }, { o := .ld (.l 0) 1 false, g := some (2, true) }, { o := .bin .leq (.l 2) (.l 0), g := some (3, true) }, { o := .pk (.l 4) (.l 0) (.b false) }, { o := .mv (.l 0), d := some 1 }] []) .ret)))))))))))), res := [(1, none)] }
/-- /law27.awake -/
def law27_awake : Fn := { nargs := 0, vars := [0, 1, 2, 3], body := (.seq (.reg [{ o := .mv (.b false), d := some 0 }] []) (.seq (.reg [{ o := .bs [.i 1, .i 2] 1 }, { o := .bs [.i 0, .i 1099511627776] 1 }, { o := .bd [.t (.int .i64 (0)), .nil] [(1, 1, .l 0)] }, { o := .bs [.i 0, .i 0] 1 }, { o := .bd [.t (.int .i64 (0)), .nil] [(1, 1, .l 0)] }, { o := .bs [.l 2, .l 0] 2 }, { o := .bd [.nil, .nil] [(0, 1, .l 5), (1, 1, .l 0)] }, { o := .bs [.l 0] 2 }, { o := .bd [.nil] [(0, 1, .l 0)] }, { o := .al [.nil] [], d := some 1 }, { o := .st (.l 0) (.l 1) 1 [] }] []) (.seq (.reg [{ o := .ld (.v 1) 1 true }, { o := .bs [.i 0] 1 }, { o := .ca N.heads_Count 0 [] [.l 1, .l 0, .i 5] }, { o := .al [.t (.int .i64 (0)), .t (.int .i64 (0))] [], d := some 2 }, { o := .st (.l 0) (.l 1) 2 [] }] []) (.seq (.reg [{ o := .ld (.v 1) 1 true }, { o := .bs [.i 0] 1 }, { o := .ca N.heads_Sure 0 [] [.l 1, .l 0, .i 5] }, { o := .mv (.l 0), d := some 3 }] []) (.seq (.reg [{ o := .fa (.v 2) 0 }, { o := .ld (.l 0) 1 false }, { o := .bin .eql (.l 0) (.i 1) }, { o := .mv (.l 0) }, { o := .fa (.v 2) 1, g := some (0, true) }, { o := .ld (.l 0) 1 false, g := some (1, true) }, { o := .bin .eql (.l 0) (.i 2), g := some (2, true) }, { o := .pk (.l 3) (.l 0) (.b false) }, { o := .mv (.l 0) }, { o := .mv (.v 3), g := some (0, true) }, { o := .ln (.l 0), g := some (1, true) }, { o := .bin .eql (.l 0) (.i 1), g := some (2, true) }, { o := .pk (.l 3) (.l 0) (.b false) }, { o := .mv (.l 0) }, { o := .ld (.v 1) 1 true, g := some (0, true) }, { o := .ca N.heads_Missing 0 [] [.l 0, .i 5, .i 1], g := some (1, true) }, { o := .ln (.l 0), g := some (2, true) }, { o := .bin .eql (.l 0) (.i 1), g := some (3, true) }, { o := .pk (.l 4) (.l 0) (.b false) }, { o := .mv (.l 0), d := some 0 }] []) .ret))))), res := [(0, none)] }
def heads_Count_l2b : C := (.its  [{ o := .bin .lss (.v 17) (.v 16) }] [] 0 .skip (.exit 2) (.seq (.blk 3 (.seq (.reg [{ o := .mv (.v 17) }, { o := .mv (.l 0), d := some 10 }] []) (.seq (.reg [{ o := .ld (.v 7) 2 true }, { o := .mv (.v 10) }, { o := .mv (.v 1) }, { o := .mv (.v 2) }, { o := .ca N.heads_look 0 [] [.l 3, .l 2, .l 1, .l 0] }, { o := .mv (.l 0) }, { o := .ex (.l 0) 0 }, { o := .ex (.l 1) 1 }, { o := .mv (.l 1), d := some 11 }, { o := .mv (.l 1), d := some 12 }] []) (.seq (.ite [{ o := .mv (.v 11) }] [] 0 (.reg [{ o := .mv (.v 8) }, { o := .bin .add (.l 0) (.i 1) }, { o := .mv (.l 0), d := some 8 }] []) .skip) (.ite [{ o := .mv (.v 12) }] [] 0 (.reg [{ o := .mv (.v 9) }, { o := .bin .add (.l 0) (.i 1) }, { o := .mv (.l 0), d := some 9 }] []) .skip))))) (.reg [{ o := .bin .add (.v 17) (.i 1) }, { o := .mv (.l 0), d := some 17 }] [])))
def heads_Count_l2 : C := .loop true [0, 3, 10, 11, 12] K.heads_Count_l2b
def heads_Count_l1b : C := (.its  [{ o := .bin .lss (.v 15) (.v 14) }] [] 0 .skip (.exit 0) (.seq (.blk 1 (.seq (.reg [{ o := .mv (.v 15) }, { o := .ia (.v 13) (.v 15) 2 }, { o := .ld (.l 0) 2 true }, { o := .al [.nil, .nil] [], d := some 7 }, { o := .mv (.l 3), d := some 6 }, { o := .st (.l 1) (.l 2) 2 [] }] []) (.seq (.reg [{ o := .mv (.i 0), d := some 8 }, { o := .mv (.i 0), d := some 9 }] []) (.seq (.seq (.reg [{ o := .fa (.v 7) 1 }, { o := .ld (.l 0) 1 false }, { o := .ln (.l 0), d := some 16 }, { o := .mv (.i 0), d := some 17 }] []) (.blk 2 K.heads_Count_l2)) (.seq (.ite [{ o := .mv (.v 6) }, { o := .bin .eql (.l 0) (.i 0) }] [] 0 (.reg [{ o := .mv (.v 8) }, { o := .mv (.v 9) }, { o := .bd [.t (.int .i64 (0)), .t (.int .i64 (0))] [(0, 1, .l 1), (1, 1, .l 0)] }, { o := .st (.v 5) (.l 0) 2 [] }] []) .skip) (.reg [{ o := .fa (.v 5) 0 }, { o := .ld (.l 0) 1 false }, { o := .mv (.v 8) }, { o := .mn [.l 1, .l 0] }, { o := .fa (.v 5) 1 }, { o := .ld (.l 0) 1 false }, { o := .mv (.v 9) }, { o := .mx [.l 1, .l 0] }, { o := .bd [.t (.int .i64 (0)), .t (.int .i64 (0))] [(0, 1, .l 4), (1, 1, .l 0)] }, { o := .st (.v 5) (.l 0) 2 [] }] [])))))) (.reg [{ o := .bin .add (.v 15) (.i 1) }, { o := .mv (.l 0), d := some 15 }] [])))
def heads_Count_l1 : C := .loop true [0, 3, 6, 7, 8, 9, 10, 11, 12, 16, 17] K.heads_Count_l1b
/-- /heads.Count -/
def heads_Count : Fn := { nargs := 3, vars := [0, 1, 2, 3, 6, 7, 8, 9, 10, 11, 12, 13, 14, 16, 17, 18, 25, 26], body := (.seq (.reg [{ o := .bx (.v 0) 1, d := some 3 }, { o := .al [.t (.int .i64 (0)), .t (.int .i64 (0))] [], d := some 4 }] []) (.seq (.reg [{ o := .al [.t (.int .i64 (0)), .t (.int .i64 (0))] [], d := some 5 }] []) (.seq (.seq (.reg [{ o := .fa (.v 3) 0 }, { o := .ld (.l 0) 1 false, d := some 13 }, { o := .ln (.l 0), d := some 14 }, { o := .mv (.i 0), d := some 15 }] []) (.blk 0 K.heads_Count_l1)) (.seq (.reg [{ o := .ld (.v 5) 2 true }, { o := .st (.v 4) (.l 0) 2 [] }] []) .ret)))), res := [(4, some (2, true))] }
def ref27_Count_l2b : C := (.seq (.ite [{ o := .mv (.v 9) }, { o := .fa (.v 3) 0 }, { o := .ld (.l 0) 1 false }, { o := .mv (.v 6) }, { o := .ia (.l 1) (.l 0) 2 }, { o := .fa (.l 0) 1 }, { o := .ld (.l 0) 1 false }, { o := .ln (.l 0) }, { o := .bin .lss (.l 7) (.l 0) }] [] 0 .skip (.exit 2)) (.seq (.blk 3 (.seq (.reg [{ o := .fa (.v 3) 0 }, { o := .ld (.l 0) 1 false }, { o := .mv (.v 6) }, { o := .ia (.l 1) (.l 0) 2 }, { o := .fa (.l 0) 1 }, { o := .ld (.l 0) 1 false }, { o := .mv (.v 9) }, { o := .ia (.l 1) (.l 0) 2 }, { o := .ld (.l 0) 2 true }, { o := .mv (.v 1) }, { o := .mv (.v 2) }, { o := .ca N.ref27_state 0 [] [.l 2, .l 1, .l 0] }, { o := .mv (.l 0), d := some 10 }] []) (.seq (.ite [{ o := .mv (.v 10) }, { o := .bin .eql (.l 0) (.i 2) }] [] 0 (.reg [{ o := .mv (.v 7) }, { o := .bin .add (.l 0) (.i 1) }, { o := .mv (.l 0), d := some 7 }] []) .skip) (.ite [{ o := .mv (.v 10) }, { o := .bin .gtr (.l 0) (.i 0) }] [] 0 (.reg [{ o := .mv (.v 8) }, { o := .bin .add (.l 0) (.i 1) }, { o := .mv (.l 0), d := some 8 }] []) .skip)))) (.reg [{ o := .mv (.v 9) }, { o := .bin .add (.l 0) (.i 1) }, { o := .mv (.l 0), d := some 9 }] [])))
def ref27_Count_l2 : C := .loop true [0, 10] K.ref27_Count_l2b
def ref27_Count_l1b : C := (.seq (.ite [{ o := .mv (.v 6) }, { o := .fa (.v 3) 0 }, { o := .ld (.l 0) 1 false }, { o := .ln (.l 0) }, { o := .bin .lss (.l 3) (.l 0) }] [] 0 .skip (.exit 0)) (.seq (.blk 1 (.seq (.reg [{ o := .mv (.i 0), d := some 7 }, { o := .mv (.i 0), d := some 8 }] []) (.seq (.seq (.reg [{ o := .mv (.i 0), d := some 9 }] []) (.blk 2 K.ref27_Count_l2)) (.seq (.ite [{ o := .mv (.v 6) }, { o := .bin .eql (.l 0) (.i 0) }, { o := .mv (.l 0) }, { o := .mv (.v 7), g := some (0, false) }, { o := .fa (.v 5) 0, g := some (1, false) }, { o := .ld (.l 0) 1 false, g := some (2, false) }, { o := .bin .lss (.l 2) (.l 0), g := some (3, false) }, { o := .pk (.l 4) (.b true) (.l 0) }] [] 0 (.reg [{ o := .mv (.v 7) }, { o := .fa (.v 5) 0 }, { o := .st (.l 0) (.l 1) 1 [] }] []) .skip) (.reg [{ o := .fa (.v 5) 1 }, { o := .ld (.l 0) 1 false }, { o := .mv (.v 8) }, { o := .mx [.l 1, .l 0] }, { o := .fa (.v 5) 1 }, { o := .st (.l 0) (.l 1) 1 [] }] []))))) (.reg [{ o := .mv (.v 6) }, { o := .bin .add (.l 0) (.i 1) }, { o := .mv (.l 0), d := some 6 }] [])))
def ref27_Count_l1 : C := .loop true [0, 7, 8, 9, 10] K.ref27_Count_l1b
/-- /ref27.Count -/
def ref27_Count : Fn := { nargs := 3, vars := [0, 1, 2, 3, 6, 7, 8, 9, 10, 11, 12], body := (.seq (.reg [{ o := .bx (.v 0) 1, d := some 3 }, { o := .al [.t (.int .i64 (0)), .t (.int .i64 (0))] [], d := some 4 }] []) (.seq (.reg [{ o := .al [.t (.int .i64 (0)), .t (.int .i64 (0))] [], d := some 5 }] []) (.seq (.seq (.reg [{ o := .mv (.i 0), d := some 6 }] []) (.blk 0 K.ref27_Count_l1)) (.seq (.reg [{ o := .ld (.v 5) 2 true }, { o := .st (.v 4) (.l 0) 2 [] }] []) .ret)))), res := [(4, some (2, true))] }
/-- /heads.Sure -/
def heads_Sure : Fn := { nargs := 3, vars := [0, 1, 2, 3, 4, 5, 6], body := (.seq (.reg [{ o := .bx (.v 0) 1, d := some 3 }, { o := .bx (.v 1) 1, d := some 4 }, { o := .bx (.v 2) 1, d := some 5 }, { o := .mv (.c (.nil)), d := some 6 }] []) (.seq (.reg [{ o := .ld (.v 3) 1 true }, { o := .ca N.heads_persons 0 [] [.l 0] }, { o := .mf N.heads_Sure_1 [.v 3, .v 4, .v 5] }, { o := .ca N.lists_Where 0 [] [.l 1, .l 0] }, { o := .mv (.l 0), d := some 6 }] []) .ret)), res := [(6, none)] }
def ref27_Sure_l2b : C := (.seq (.ite [{ o := .mv (.v 8) }, { o := .fa (.v 3) 0 }, { o := .ld (.l 0) 1 false }, { o := .ln (.l 0) }, { o := .bin .lss (.l 3) (.l 0) }] [] 0 .skip (.exit 2)) (.seq (.blk 3 (.reg [{ o := .mv (.v 7) }, { o := .mv (.l 0) }, { o := .fa (.v 3) 0, g := some (0, true) }, { o := .ld (.l 0) 1 false, g := some (1, true) }, { o := .mv (.v 8), g := some (2, true) }, { o := .ia (.l 1) (.l 0) 2, g := some (3, true) }, { o := .fa (.l 0) 1, g := some (4, true) }, { o := .ld (.l 0) 1 false, g := some (5, true) }, { o := .mv (.v 6), g := some (6, true) }, { o := .ia (.l 1) (.l 0) 2, g := some (7, true) }, { o := .ld (.l 0) 2 true, g := some (8, true) }, { o := .mv (.v 1), g := some (9, true) }, { o := .mv (.v 2), g := some (10, true) }, { o := .ca N.ref27_state 0 [] [.l 2, .l 1, .l 0], g := some (11, true) }, { o := .bin .eql (.l 0) (.i 2), g := some (12, true) }, { o := .pk (.l 13) (.l 0) (.b false) }, { o := .mv (.l 0), d := some 7 }] [])) (.reg [{ o := .mv (.v 8) }, { o := .bin .add (.l 0) (.i 1) }, { o := .mv (.l 0), d := some 8 }] [])))
def ref27_Sure_l2 : C := .loop true [0, 4] K.ref27_Sure_l2b
def ref27_Sure_l1b : C := (.seq (.ite [{ o := .mv (.v 6) }, { o := .ld (.v 3) 1 true }, { o := .ca N.ref27_people 0 [] [.l 0] }, { o := .bin .lss (.l 2) (.l 0) }] [] 0 .skip (.exit 0)) (.seq (.blk 1 (.seq (.reg [{ o := .mv (.b true), d := some 7 }] []) (.seq (.seq (.reg [{ o := .mv (.i 0), d := some 8 }] []) (.blk 2 K.ref27_Sure_l2)) (.ite [{ o := .mv (.v 7) }] [] 0 (.reg [{ o := .mv (.v 5) }, { o := .mv (.v 6) }, { o := .bs [.l 0] 1 }, { o := .app (.l 2) (.l 0) true 1 }, { o := .mv (.l 0), d := some 5 }] []) .skip)))) (.reg [{ o := .mv (.v 6) }, { o := .bin .add (.l 0) (.i 1) }, { o := .mv (.l 0), d := some 6 }] [])))
def ref27_Sure_l1 : C := .loop true [0, 4, 7, 8] K.ref27_Sure_l1b
/-- /ref27.Sure -/
def ref27_Sure : Fn := { nargs := 3, vars := [0, 1, 2, 3, 6, 7, 8, 9, 10], body := (.seq (.reg [{ o := .bx (.v 0) 1, d := some 3 }, { o := .mv (.c (.nil)), d := some 4 }] []) (.seq (.reg [{ o := .nw 1, d := some 5 }] []) (.seq (.seq (.reg [{ o := .mv (.i 0), d := some 6 }] []) (.blk 0 K.ref27_Sure_l1)) (.seq (.reg [{ o := .mv (.v 5) }, { o := .mv (.l 0), d := some 4 }] []) .ret)))), res := [(4, none)] }
/-- /heads.Maybe -/
def heads_Maybe : Fn := { nargs := 3, vars := [0, 1, 2, 3, 4, 5, 6], body := (.seq (.reg [{ o := .bx (.v 0) 1, d := some 3 }, { o := .bx (.v 1) 1, d := some 4 }, { o := .bx (.v 2) 1, d := some 5 }, { o := .mv (.c (.nil)), d := some 6 }] []) (.seq (.reg [{ o := .ld (.v 3) 1 true }, { o := .ca N.heads_persons 0 [] [.l 0] }, { o := .mf N.heads_Maybe_1 [.v 3, .v 4, .v 5] }, { o := .ca N.lists_Where 0 [] [.l 1, .l 0] }, { o := .mv (.l 0), d := some 6 }] []) .ret)), res := [(6, none)] }
def ref27_Maybe_l2b : C := (.seq (.ite [{ o := .mv (.v 8) }, { o := .fa (.v 3) 0 }, { o := .ld (.l 0) 1 false }, { o := .ln (.l 0) }, { o := .bin .lss (.l 3) (.l 0) }] [] 0 .skip (.exit 2)) (.seq (.blk 3 (.reg [{ o := .mv (.v 7) }, { o := .mv (.l 0) }, { o := .fa (.v 3) 0, g := some (0, false) }, { o := .ld (.l 0) 1 false, g := some (1, false) }, { o := .mv (.v 8), g := some (2, false) }, { o := .ia (.l 1) (.l 0) 2, g := some (3, false) }, { o := .fa (.l 0) 1, g := some (4, false) }, { o := .ld (.l 0) 1 false, g := some (5, false) }, { o := .mv (.v 6), g := some (6, false) }, { o := .ia (.l 1) (.l 0) 2, g := some (7, false) }, { o := .ld (.l 0) 2 true, g := some (8, false) }, { o := .mv (.v 1), g := some (9, false) }, { o := .mv (.v 2), g := some (10, false) }, { o := .ca N.ref27_state 0 [] [.l 2, .l 1, .l 0], g := some (11, false) }, { o := .bin .gtr (.l 0) (.i 0), g := some (12, false) }, { o := .pk (.l 13) (.b true) (.l 0) }, { o := .mv (.l 0), d := some 7 }] [])) (.reg [{ o := .mv (.v 8) }, { o := .bin .add (.l 0) (.i 1) }, { o := .mv (.l 0), d := some 8 }] [])))
def ref27_Maybe_l2 : C := .loop true [0, 4] K.ref27_Maybe_l2b
def ref27_Maybe_l1b : C := (.seq (.ite [{ o := .mv (.v 6) }, { o := .ld (.v 3) 1 true }, { o := .ca N.ref27_people 0 [] [.l 0] }, { o := .bin .lss (.l 2) (.l 0) }] [] 0 .skip (.exit 0)) (.seq (.blk 1 (.seq (.reg [{ o := .mv (.b false), d := some 7 }] []) (.seq (.seq (.reg [{ o := .mv (.i 0), d := some 8 }] []) (.blk 2 K.ref27_Maybe_l2)) (.ite [{ o := .mv (.v 7) }] [] 0 (.reg [{ o := .mv (.v 5) }, { o := .mv (.v 6) }, { o := .bs [.l 0] 1 }, { o := .app (.l 2) (.l 0) true 1 }, { o := .mv (.l 0), d := some 5 }] []) .skip)))) (.reg [{ o := .mv (.v 6) }, { o := .bin .add (.l 0) (.i 1) }, { o := .mv (.l 0), d := some 6 }] [])))
def ref27_Maybe_l1 : C := .loop true [0, 4, 7, 8] K.ref27_Maybe_l1b
/-- /ref27.Maybe -/
def ref27_Maybe : Fn := { nargs := 3, vars := [0, 1, 2, 3, 6, 7, 8, 9, 10], body := (.seq (.reg [{ o := .bx (.v 0) 1, d := some 3 }, { o := .mv (.c (.nil)), d := some 4 }] []) (.seq (.reg [{ o := .nw 1, d := some 5 }] []) (.seq (.seq (.reg [{ o := .mv (.i 0), d := some 6 }] []) (.blk 0 K.ref27_Maybe_l1)) (.seq (.reg [{ o := .mv (.v 5) }, { o := .mv (.l 0), d := some 4 }] []) .ret)))), res := [(4, none)] }
/-- /heads.Missing -/
def heads_Missing : Fn := { nargs := 3, vars := [0, 1, 2, 3, 4, 5, 6], body := (.seq (.reg [{ o := .bx (.v 0) 1, d := some 3 }, { o := .bx (.v 1) 1, d := some 4 }, { o := .bx (.v 2) 1, d := some 5 }, { o := .mv (.c (.nil)), d := some 6 }] []) (.seq (.reg [{ o := .ld (.v 3) 1 true }, { o := .ca N.heads_persons 0 [] [.l 0] }, { o := .mf N.heads_Missing_1 [.v 3, .v 4, .v 5] }, { o := .ca N.lists_Where 0 [] [.l 1, .l 0] }, { o := .mv (.l 0), d := some 6 }] []) .ret)), res := [(6, none)] }
def ref27_Missing_l1b : C := (.seq (.ite [{ o := .mv (.v 6) }, { o := .ld (.v 3) 1 true }, { o := .ca N.ref27_people 0 [] [.l 0] }, { o := .bin .lss (.l 2) (.l 0) }] [] 0 .skip (.exit 0)) (.seq (.blk 1 (.ite [{ o := .ld (.v 3) 1 true }, { o := .mv (.v 6) }, { o := .mv (.v 1) }, { o := .ca N.ref26_Possible 0 [] [.l 2, .l 1, .l 0] }, { o := .ln (.l 0) }, { o := .mv (.v 2) }, { o := .bin .gtr (.l 1) (.l 0) }] [] 0 (.reg [{ o := .mv (.v 5) }, { o := .mv (.v 6) }, { o := .bs [.l 0] 1 }, { o := .app (.l 2) (.l 0) true 1 }, { o := .mv (.l 0), d := some 5 }] []) .skip)) (.reg [{ o := .mv (.v 6) }, { o := .bin .add (.l 0) (.i 1) }, { o := .mv (.l 0), d := some 6 }] [])))
def ref27_Missing_l1 : C := .loop true [0, 4] K.ref27_Missing_l1b
/-- /ref27.Missing -/
def ref27_Missing : Fn := { nargs := 3, vars := [0, 1, 2, 3, 6, 7, 8], body := (.seq (.reg [{ o := .bx (.v 0) 1, d := some 3 }, { o := .mv (.c (.nil)), d := some 4 }] []) (.seq (.reg [{ o := .nw 1, d := some 5 }] []) (.seq (.seq (.reg [{ o := .mv (.i 0), d := some 6 }] []) (.blk 0 K.ref27_Missing_l1)) (.seq (.reg [{ o := .mv (.v 5) }, { o := .mv (.l 0), d := some 4 }] []) .ret)))), res := [(4, none)] }
/-- /heads.look -/
def heads_look : Fn := { nargs := 4, vars := [0, 1, 2, 3, 4, 6, 8, 9, 10, 11], body := (.seq (.reg [{ o := .bx (.v 0) 2, d := some 4 }, { o := .bx (.v 2) 1, d := some 5 }, { o := .mv (.b false), d := some 6 }, { o := .mv (.b false), d := some 7 }] []) (.seq (.ite [{ o := .mv (.v 1) }, { o := .fa (.v 4) 1 }, { o := .ld (.l 0) 1 false }, { o := .ln (.l 0) }, { o := .bin .geq (.l 3) (.l 0) }] [] 0 (.seq (.reg [{ o := .mv (.b false), d := some 6 }, { o := .mv (.b false), d := some 7 }] []) .ret) .skip) (.seq (.reg [{ o := .fa (.v 4) 1 }, { o := .ld (.l 0) 1 false }, { o := .mv (.v 1) }, { o := .ia (.l 1) (.l 0) 2 }, { o := .ld (.l 0) 2 true }, { o := .mv (.v 3) }, { o := .ca N.places_Possible 0 [] [.l 1, .l 0] }, { o := .mv (.l 0), d := some 8 }] []) (.seq (.reg [{ o := .mf N.heads_look_1 [.v 5] }, { o := .al [.und] [], d := some 9 }, { o := .st (.l 0) (.l 1) 1 [] }] []) (.seq (.reg [{ o := .mv (.v 8) }, { o := .ld (.v 9) 1 false }, { o := .ca N.slices_ContainsFunc_int_int 0 [] [.l 1, .l 0] }, { o := .mv (.l 0), d := some 7 }] []) (.seq (.reg [{ o := .mv (.v 7) }, { o := .mv (.l 0) }, { o := .mv (.v 8), g := some (0, true) }, { o := .mf N.heads_look_2 [.v 9], g := some (1, true) }, { o := .ca N.slices_ContainsFunc_int_int 0 [] [.l 1, .l 0], g := some (2, true) }, { o := .un .not (.l 0), g := some (3, true) }, { o := .pk (.l 4) (.l 0) (.b false) }, { o := .mv (.v 7) }, { o := .mv (.l 1), d := some 6 }, { o := .mv (.l 1), d := some 7 }] []) .ret)))))), res := [(6, none), (7, none)] }
def ref27_state_l1b : C := (.seq (.ite [{ o := .mv (.v 8) }, { o := .mv (.v 5) }, { o := .ln (.l 0) }, { o := .bin .lss (.l 2) (.l 0) }] [] 0 .skip (.exit 0)) (.seq (.blk 1 (.ite [{ o := .mv (.v 1) }, { o := .mv (.v 5) }, { o := .mv (.v 8) }, { o := .ia (.l 1) (.l 0) 1 }, { o := .ld (.l 0) 1 false }, { o := .ca N.ref23_Has 0 [] [.l 4, .l 0] }] [] 0 (.reg [{ o := .mv (.b true), d := some 6 }] []) (.reg [{ o := .mv (.b false), d := some 7 }] []))) (.reg [{ o := .mv (.v 8) }, { o := .bin .add (.l 0) (.i 1) }, { o := .mv (.l 0), d := some 8 }] [])))
def ref27_state_l1 : C := .loop true [0, 2, 3, 4] K.ref27_state_l1b
/-- /ref27.state -/
def ref27_state : Fn := { nargs := 3, vars := [0, 1, 2, 3, 6, 7, 8, 9, 10], body := (.seq (.reg [{ o := .bx (.v 0) 2, d := some 3 }, { o := .mv (.i 0), d := some 4 }] []) (.seq (.reg [{ o := .ld (.v 3) 2 true }, { o := .mv (.v 2) }, { o := .ca N.ref25_Possible 0 [] [.l 1, .l 0] }, { o := .mv (.l 0), d := some 5 }] []) (.seq (.reg [{ o := .mv (.b false), d := some 6 }, { o := .mv (.b true), d := some 7 }] []) (.seq (.seq (.reg [{ o := .mv (.i 0), d := some 8 }] []) (.blk 0 K.ref27_state_l1)) (.seq (.ite [{ o := .mv (.v 6) }, { o := .mv (.l 0) }, { o := .mv (.v 7), g := some (0, true) }, { o := .pk (.l 1) (.l 0) (.b false) }] [] 0 (.seq (.reg [{ o := .mv (.i 2), d := some 4 }] []) .ret) .skip) (.seq (.ite [{ o := .mv (.v 6) }] [] 0 (.seq (.reg [{ o := .mv (.i 1), d := some 4 }] []) .ret) .skip) (.seq (.reg [{ o := .mv (.i 0), d := some 4 }] []) .ret))))))), res := [(4, none)] }
/-- /heads.persons -/
def heads_persons : Fn := { nargs := 1, vars := [0, 1, 2], body := (.seq (.reg [{ o := .bx (.v 0) 1, d := some 1 }, { o := .mv (.i 0), d := some 2 }] []) (.seq (.ite [{ o := .fa (.v 1) 0 }, { o := .ld (.l 0) 1 false }, { o := .ln (.l 0) }, { o := .bin .eql (.l 0) (.i 0) }] [] 0 (.seq (.reg [{ o := .mv (.i 0), d := some 2 }] []) .ret) .skip) (.seq (.reg [{ o := .fa (.v 1) 0 }, { o := .ld (.l 0) 1 false }, { o := .ia (.l 0) (.i 0) 2 }, { o := .fa (.l 0) 1 }, { o := .ld (.l 0) 1 false }, { o := .ln (.l 0) }, { o := .mv (.l 0), d := some 2 }] []) .ret))), res := [(2, none)] }
/-- /heads.Sure.1 -/
def heads_Sure_1 : Fn := { nargs := 4, vars := [0, 1, 2, 3, 4, 5], body := (.seq (.reg [{ o := .bx (.v 0) 1, d := some 4 }, { o := .mv (.b false), d := some 5 }] []) (.seq (.reg [{ o := .fa (.v 1) 0 }, { o := .ld (.l 0) 1 false }, { o := .mf N.heads_Sure_1_1 [.v 4, .v 2, .v 3] }, { o := .ca N.slices_ContainsFunc_api_World_api_World 0 [] [.l 1, .l 0] }, { o := .un .not (.l 0) }, { o := .mv (.l 0), d := some 5 }] []) .ret)), res := [(5, none)] }
/-- /heads.Sure.1.1 -/
def heads_Sure_1_1 : Fn := { nargs := 4, vars := [0, 1, 2, 3, 4, 5, 6], body := (.seq (.reg [{ o := .bx (.v 0) 2, d := some 4 }, { o := .mv (.b false), d := some 5 }] []) (.seq (.reg [{ o := .ld (.v 4) 2 true }, { o := .ld (.v 1) 1 false }, { o := .ld (.v 2) 1 false }, { o := .ld (.v 3) 1 false }, { o := .ca N.heads_look 0 [] [.l 3, .l 2, .l 1, .l 0] }, { o := .mv (.l 0) }, { o := .ex (.l 0) 0 }, { o := .ex (.l 1) 1 }, { o := .mv (.l 1), d := some 6 }, { o := .mv (.l 1) }] []) (.seq (.reg [{ o := .mv (.v 6) }, { o := .un .not (.l 0) }, { o := .mv (.l 0), d := some 5 }] []) .ret))), res := [(5, none)] }
/-- /ref27.people -/
def ref27_people : Fn := { nargs := 1, vars := [0, 1, 2], body := (.seq (.reg [{ o := .bx (.v 0) 1, d := some 1 }, { o := .mv (.i 0), d := some 2 }] []) (.seq (.ite [{ o := .fa (.v 1) 0 }, { o := .ld (.l 0) 1 false }, { o := .ln (.l 0) }, { o := .bin .eql (.l 0) (.i 0) }] [] 0 (.seq (.reg [{ o := .mv (.i 0), d := some 2 }] []) .ret) .skip) (.seq (.reg [{ o := .fa (.v 1) 0 }, { o := .ld (.l 0) 1 false }, { o := .ia (.l 0) (.i 0) 2 }, { o := .fa (.l 0) 1 }, { o := .ld (.l 0) 1 false }, { o := .ln (.l 0) }, { o := .mv (.l 0), d := some 2 }] []) .ret))), res := [(2, none)] }
/-- /heads.Maybe.1 -/
def heads_Maybe_1 : Fn := { nargs := 4, vars := [0, 1, 2, 3, 4, 5], body := (.seq (.reg [{ o := .bx (.v 0) 1, d := some 4 }, { o := .mv (.b false), d := some 5 }] []) (.seq (.reg [{ o := .fa (.v 1) 0 }, { o := .ld (.l 0) 1 false }, { o := .mf N.heads_Maybe_1_1 [.v 4, .v 2, .v 3] }, { o := .ca N.slices_ContainsFunc_api_World_api_World 0 [] [.l 1, .l 0] }, { o := .mv (.l 0), d := some 5 }] []) .ret)), res := [(5, none)] }
/-- /heads.Maybe.1.1 -/
def heads_Maybe_1_1 : Fn := { nargs := 4, vars := [0, 1, 2, 3, 4, 5, 7], body := (.seq (.reg [{ o := .bx (.v 0) 2, d := some 4 }, { o := .mv (.b false), d := some 5 }] []) (.seq (.reg [{ o := .ld (.v 4) 2 true }, { o := .ld (.v 1) 1 false }, { o := .ld (.v 2) 1 false }, { o := .ld (.v 3) 1 false }, { o := .ca N.heads_look 0 [] [.l 3, .l 2, .l 1, .l 0] }, { o := .mv (.l 0) }, { o := .ex (.l 0) 0 }, { o := .ex (.l 1) 1 }, { o := .mv (.l 1) }, { o := .mv (.l 1), d := some 6 }] []) (.seq (.reg [{ o := .mv (.v 6) }, { o := .mv (.l 0), d := some 5 }] []) .ret))), res := [(5, none)] }
/-- /heads.Missing.1 -/
def heads_Missing_1 : Fn := { nargs := 4, vars := [0, 1, 2, 3, 5], body := (.seq (.reg [{ o := .mv (.b false), d := some 4 }] []) (.seq (.reg [{ o := .ld (.v 1) 1 true }, { o := .mv (.v 0) }, { o := .ld (.v 2) 1 false }, { o := .ca N.swaps_Possible 0 [] [.l 2, .l 1, .l 0] }, { o := .ln (.l 0) }, { o := .ld (.v 3) 1 false }, { o := .bin .gtr (.l 1) (.l 0) }, { o := .mv (.l 0), d := some 4 }] [(5, 0)]) .ret)), res := [(4, none)] }
/-- /places.Possible -/
def places_Possible : Fn := { nargs := 2, vars := [0, 1, 2, 3, 4], body := (.seq (.reg [{ o := .bx (.v 0) 2, d := some 2 }, { o := .bx (.v 1) 1, d := some 3 }, { o := .mv (.c (.nil)), d := some 4 }] []) (.seq (.reg [{ o := .fa (.v 2) 1 }, { o := .ld (.l 0) 1 false }, { o := .ln (.l 0) }, { o := .mf N.places_Possible_1 [.v 2, .v 3] }, { o := .ca N.lists_Where 0 [] [.l 1, .l 0] }, { o := .mv (.l 0), d := some 4 }] []) .ret)), res := [(4, none)] }
/-- /heads.look.1 -/
def heads_look_1 : Fn := { nargs := 2, vars := [0, 1, 3], body := (.seq (.reg [{ o := .mv (.b false), d := some 2 }] []) (.seq (.reg [{ o := .ld (.v 1) 1 false }, { o := .mv (.v 0) }, { o := .ca N.slices_Contains_int_int 0 [] [.l 1, .l 0] }, { o := .mv (.l 0), d := some 2 }] []) .ret)), res := [(2, none)] }
/-- /heads.look.2 -/
def heads_look_2 : Fn := { nargs := 2, vars := [0, 1, 3], body := (.seq (.reg [{ o := .mv (.b false), d := some 2 }] []) (.seq (.reg [{ o := .ld (.v 1) 1 false }, { o := .mv (.v 0) }, { o := .cw (.l 1) 0 [] [.l 0] }, { o := .un .not (.l 0) }, { o := .mv (.l 0), d := some 2 }] []) .ret)), res := [(2, none)] }
/-- /places.Possible.1 -/
def places_Possible_1 : Fn := { nargs := 3, vars := [0, 1, 2, 4], body := (.seq (.reg [{ o := .mv (.b false), d := some 3 }] []) (.seq (.reg [{ o := .fa (.v 1) 1 }, { o := .ld (.l 0) 1 false }, { o := .mv (.v 0) }, { o := .ia (.l 1) (.l 0) 1 }, { o := .ld (.l 0) 1 false }, { o := .ld (.v 2) 1 false }, { o := .bin .leq (.l 1) (.l 0) }, { o := .mv (.l 0), d := some 3 }] []) .ret)), res := [(3, none)] }
end Go.Ev.K
namespace Go.Ev
class Has5 [Lib] : Prop where
  t_law27_HeadsMore : Lib.fs N.law27_HeadsMore = some K.law27_HeadsMore
  t_law27_HeadsSplit : Lib.fs N.law27_HeadsSplit = some K.law27_HeadsSplit
  t_law27_HeadsAll : Lib.fs N.law27_HeadsAll = some K.law27_HeadsAll
  t_law27_HeadsTrue : Lib.fs N.law27_HeadsTrue = some K.law27_HeadsTrue
  t_law27_awake : Lib.fs N.law27_awake = some K.law27_awake
  t_heads_Count : Lib.fs N.heads_Count = some K.heads_Count
  t_ref27_Count : Lib.fs N.ref27_Count = some K.ref27_Count
  t_heads_Sure : Lib.fs N.heads_Sure = some K.heads_Sure
  t_ref27_Sure : Lib.fs N.ref27_Sure = some K.ref27_Sure
  t_heads_Maybe : Lib.fs N.heads_Maybe = some K.heads_Maybe
  t_ref27_Maybe : Lib.fs N.ref27_Maybe = some K.ref27_Maybe
  t_heads_Missing : Lib.fs N.heads_Missing = some K.heads_Missing
  t_ref27_Missing : Lib.fs N.ref27_Missing = some K.ref27_Missing
  t_heads_look : Lib.fs N.heads_look = some K.heads_look
  t_ref27_state : Lib.fs N.ref27_state = some K.ref27_state
  t_heads_persons : Lib.fs N.heads_persons = some K.heads_persons
  t_heads_Sure_1 : Lib.fs N.heads_Sure_1 = some K.heads_Sure_1
  t_heads_Sure_1_1 : Lib.fs N.heads_Sure_1_1 = some K.heads_Sure_1_1
  t_ref27_people : Lib.fs N.ref27_people = some K.ref27_people
  t_heads_Maybe_1 : Lib.fs N.heads_Maybe_1 = some K.heads_Maybe_1
  t_heads_Maybe_1_1 : Lib.fs N.heads_Maybe_1_1 = some K.heads_Maybe_1_1
  t_heads_Missing_1 : Lib.fs N.heads_Missing_1 = some K.heads_Missing_1
  t_places_Possible : Lib.fs N.places_Possible = some K.places_Possible
  t_heads_look_1 : Lib.fs N.heads_look_1 = some K.heads_look_1
  t_heads_look_2 : Lib.fs N.heads_look_2 = some K.heads_look_2
  t_places_Possible_1 : Lib.fs N.places_Possible_1 = some K.places_Possible_1
namespace K
variable [Lib] [Has5]
theorem t_law27_HeadsMore : Lib.fs N.law27_HeadsMore = some K.law27_HeadsMore := Has5.t_law27_HeadsMore
theorem t_law27_HeadsSplit : Lib.fs N.law27_HeadsSplit = some K.law27_HeadsSplit := Has5.t_law27_HeadsSplit
theorem t_law27_HeadsAll : Lib.fs N.law27_HeadsAll = some K.law27_HeadsAll := Has5.t_law27_HeadsAll
theorem t_law27_HeadsTrue : Lib.fs N.law27_HeadsTrue = some K.law27_HeadsTrue := Has5.t_law27_HeadsTrue
theorem t_law27_awake : Lib.fs N.law27_awake = some K.law27_awake := Has5.t_law27_awake
theorem t_heads_Count : Lib.fs N.heads_Count = some K.heads_Count := Has5.t_heads_Count
theorem t_ref27_Count : Lib.fs N.ref27_Count = some K.ref27_Count := Has5.t_ref27_Count
theorem t_heads_Sure : Lib.fs N.heads_Sure = some K.heads_Sure := Has5.t_heads_Sure
theorem t_ref27_Sure : Lib.fs N.ref27_Sure = some K.ref27_Sure := Has5.t_ref27_Sure
theorem t_heads_Maybe : Lib.fs N.heads_Maybe = some K.heads_Maybe := Has5.t_heads_Maybe
theorem t_ref27_Maybe : Lib.fs N.ref27_Maybe = some K.ref27_Maybe := Has5.t_ref27_Maybe
theorem t_heads_Missing : Lib.fs N.heads_Missing = some K.heads_Missing := Has5.t_heads_Missing
theorem t_ref27_Missing : Lib.fs N.ref27_Missing = some K.ref27_Missing := Has5.t_ref27_Missing
theorem t_heads_look : Lib.fs N.heads_look = some K.heads_look := Has5.t_heads_look
theorem t_ref27_state : Lib.fs N.ref27_state = some K.ref27_state := Has5.t_ref27_state
theorem t_heads_persons : Lib.fs N.heads_persons = some K.heads_persons := Has5.t_heads_persons
theorem t_heads_Sure_1 : Lib.fs N.heads_Sure_1 = some K.heads_Sure_1 := Has5.t_heads_Sure_1
theorem t_heads_Sure_1_1 : Lib.fs N.heads_Sure_1_1 = some K.heads_Sure_1_1 := Has5.t_heads_Sure_1_1
theorem t_ref27_people : Lib.fs N.ref27_people = some K.ref27_people := Has5.t_ref27_people
theorem t_heads_Maybe_1 : Lib.fs N.heads_Maybe_1 = some K.heads_Maybe_1 := Has5.t_heads_Maybe_1
theorem t_heads_Maybe_1_1 : Lib.fs N.heads_Maybe_1_1 = some K.heads_Maybe_1_1 := Has5.t_heads_Maybe_1_1
theorem t_heads_Missing_1 : Lib.fs N.heads_Missing_1 = some K.heads_Missing_1 := Has5.t_heads_Missing_1
theorem t_places_Possible : Lib.fs N.places_Possible = some K.places_Possible := Has5.t_places_Possible
theorem t_heads_look_1 : Lib.fs N.heads_look_1 = some K.heads_look_1 := Has5.t_heads_look_1
theorem t_heads_look_2 : Lib.fs N.heads_look_2 = some K.heads_look_2 := Has5.t_heads_look_2
theorem t_places_Possible_1 : Lib.fs N.places_Possible_1 = some K.places_Possible_1 := Has5.t_places_Possible_1
end K
end Go.Ev

/- The program: head counts. -/
namespace Go.Ev
open Go
variable [Lib] [Has1] [Has2] [Has5]

theorem plposs1_ok (s : Wh) (t : Int) (k : Nat) (hk : k < s.frm.length) : CALL 0 N.places_Possible_1 [I k, .bp 0 0, .bp 1 0] [.box [I s.time, .t (tL s.frm)], .box [I t]] = some (B (decide (nth s.frm k ≤ t)), [.box [I s.time, .t (tL s.frm)], .box [I t]]) := by
  refine CALL_of K.t_places_Possible_1 rfl ?_
  simp (disch := omega) only [go_sem, K.places_Possible_1, ↓reduceIte, Nat.reduceAdd, Nat.reduceSub]
theorem plposs_ok (s : Wh) (t : Int) (hl : s.frm.length ≤ 1000000) : CALL 0 N.places_Possible [.t s.e, I t] [] = some (.t (tL (possF s t)), []) := by
  refine CALL_of K.t_places_Possible rfl ?_
  have wh := where_ok s.frm.length hl N.places_Possible_1 [[tI s.time, tL s.frm], [tI t]] (fun k => decide (nth s.frm k ≤ t)) (fun k hk => plposs1_ok s t k hk)
  have wh : CALL 0 N.lists_Where [I s.frm.length, .fn N.places_Possible_1 [.bp 0 0, .bp 1 0]] [.box [I s.time, .t (tL s.frm)], .box [I t]] = some (.t (tL (possF s t)), [.box [I s.time, .t (tL s.frm)], .box [I t]]) := wh
  obtain ⟨time, frm⟩ := s
  simp only at hl wh
  generalize possF ⟨time, frm⟩ t = r at *
  simp (disch := omega) only [go_sem, K.places_Possible, ↓reduceIte, wh, Nat.reduceAdd, Nat.reduceSub]

/- a closure over any variables -/
abbrev lkH (area : List Int) : Heap := [.box [.fn N.heads_look_1 [.bp 1 0]], .box [.t (tL area)]]
def canF (w : Wh) (area : List Int) (t : Int) : Bool := (possF w t).any fun x => decide (x ∈ area)
def isF (w : Wh) (area : List Int) (t : Int) : Bool := canF w area t && !((possF w t).any fun x => !decide (x ∈ area))
def lookF (x : World) (i : Nat) (area : List Int) (t : Int) : Bool × Bool := if x.whr.length ≤ i then (false, false) else (isF (nth x.whr i) area t, canF (nth x.whr i) area t)

end Go.Ev

/- PlacesRaw. -/
namespace Go.Ev
open Go
variable [Lib] [Has1] [Has2] [Has3] [Has4] [Has5] [Has6] [Has7] [Has8] [Has9]

end Go.Ev

/- PlacesJoins. -/
namespace Go.Ev
open Go
variable [Lib] [Has1] [Has2] [Has3] [Has4] [Has5] [Has6] [Has7] [Has8] [Has9]

end Go.Ev

/- PlacesLess. -/
namespace Go.Ev
open Go
variable [Lib] [Has1] [Has2] [Has3] [Has4] [Has5] [Has6] [Has7] [Has8] [Has9]

theorem abs_cases {m : Mine} (h : m.ok) {w : Wh} (hv : validB m w = true) (l : List Int) (a b bl : Int) :
    (absF m w l a b bl = (⟨b, closeF m b none (closeF m (b - bl) (some l) (absN w.frm l l.length))⟩, 0) ∧ askedF m w l a b = 0 ∧ w.time ≤ b ∧ max a w.time < b - bl ∧ inT bl ∧
      (closeF m (b - bl) (some l) (absN w.frm l l.length)).length = m.places.length ∧ (∀ x ∈ closeF m (b - bl) (some l) (absN w.frm l l.length), plT x)) ∨
    ((absF m w l a b bl).1 = w ∧ ((absF m w l a b bl).2 = 0 → w.time ≤ b ∧ askedF m w l a b = 0)) := by
  by_cases c0 : askedF m w l a b = 0
  · obtain ⟨-, h0, hs, ia, ib, hab⟩ := askedF_0 c0
    by_cases c1 : inT bl
    · by_cases c2 : b < w.time
      · right; unfold absF; rw [if_neg (by simpa using c0), if_neg (fun x => x c1), if_pos c2]; exact ⟨rfl, by simp⟩
      · by_cases c3 : b - max a w.time ≤ bl
        · right; unfold absF; rw [if_neg (by simpa using c0), if_neg (fun x => x c1), if_neg c2, if_pos c3]; exact ⟨rfl, fun _ => ⟨by omega, c0⟩⟩
        · left
          obtain ⟨v1, v2, v3, -⟩ := validB_spec hv
          have pl : ∀ x ∈ absN w.frm l l.length, plT x := by
            have key : ∀ k, ∀ x ∈ absN w.frm l k, plT x := by
              intro k
              induction k with
              | zero => exact v3
              | succ k ih =>
                intro x hx
                rcases List.mem_or_eq_of_mem_set hx with hx | hx
                · exact ih x hx
                · exact .inl hx
            exact key _
          have bn : bnd (absN w.frm l l.length) := fun x hx => plT_bnd (pl x hx)
          unfold inT at ia c1 v2 ib
          refine ⟨?_, c0, by omega, by omega, c1, (closeF_lb h (by rw [absN_len]; exact v1) bn).1, closeF_mem h plT (by rw [absN_len]; exact v1) bn pl (fun x h1 h2 => .inr ⟨by omega, h2⟩)⟩
          unfold absF; rw [if_neg (by simpa using c0), if_neg (fun x => x (by unfold inT; omega)), if_neg c2, if_neg c3]
    · right; unfold absF; rw [if_neg (by simpa using c0), if_pos c1]; exact ⟨rfl, by simp⟩
  · right; unfold absF; rw [if_pos c0]; exact ⟨rfl, fun h => absurd h c0⟩
theorem abs_valid {m : Mine} (h : m.ok) {w : Wh} (hv : validB m w = true) (l : List Int) (a b bl : Int) : validB m (absF m w l a b bl).1 = true := by
  rcases abs_cases h hv l a b bl with ⟨e, c0, -, hm, hbl, ln, pl⟩ | ⟨e, -⟩
  · obtain ⟨-, -, hs, ia, ib, hab⟩ := askedF_0 c0
    rw [e]
    exact close_valid h ln pl (by unfold inT at ib; omega) (Int.le_refl _) ib
  · rw [e]; exact hv
def newRoad (n : Nat) : Road := ⟨0, (n : Int) - 1, 30, 1, true, false, 1, 1, 0, 0⟩
end Go.Ev

/- Closing times are shifted with the clock. -/
namespace Go.Ev
open Go
variable [Lib] [Has1] [Has2]

def finN : List Int → Nat
  | [] => 0
  | x :: r => (if x < 1099511627776 then 1 else 0) + finN r
def sh (s x : Int) : Int := if x < 1099511627776 then x + s else x
def shL (s : Int) (l : List Int) : List Int := l.map (sh s)
@[simp] theorem shL_len (s : Int) (l : List Int) : (shL s l).length = l.length := List.length_map ..
end Go.Ev

/- A walker by dice: one second. -/
namespace Go.Ev
open Go
variable [Lib] [Has1] [Has2] [Has3] [Has4] [Has5] [Has6] [Has7] [Has8] [Has9]

abbrev wkS (e : Dice) (m : Mine) (l : List Int) (place road left t : Int) : St := ⟨[.bp 0 0, .und, .und, .und, I 400, .bp 1 0, .und, .ref 2 0 l.length, I place, I road, I left, I t, .und, .und, .und, .und, .und], [e.obj, .box (mineCells m), .arr 1 false 0 ((l.map (T.int .i64)).map .t)]⟩
/-- What dice do at a place. -/
def wkC (m : Mine) (place road left road2 left2 : Int) : Prop := (road2 = road ∧ left2 = left) ∨ (road2 = -1 ∧ left2 = left) ∨ ∃ (k : Nat) (back : Bool), k < m.roads.length ∧ (nth m.roads k).src back = place ∧ 0 ≤ walkT m k back 6 9 12 ∧ road2 = k ∧ left2 = walkT m k back 6 9 12

theorem wk_round1 {m : Mine} (h : m.ok) (r1 : 1 ≤ m.roads.length) {e : Dice} (el : e.light) (l : List Int) (place left : Int) (hw : -1000000000 ≤ left ∧ left ≤ 1000000000) (hp : 0 ≤ place ∧ place < 1000) (t : Nat) (ht : t ≤ 400) (hl : l.length = t) :
    ∃ (e' : Dice) (road2 left2 : Int), roundC true [1, 2, 3, 6, 12, 13, 14, 15, 16] 3 (exS CALL K.law25_walker_l1b (wkS e m l place (-1) left t)) = some (wkS e' m (l ++ [place]) place road2 left2 (t + 1)) ∧ e'.light ∧ wkC m place (-1) left road2 left2 := by
  have np := h.np
  have nr := h.nr
  obtain ⟨b7, f1, o7, q1⟩ := one_x el 7 (by omega) (by omega)
  cases b7 with
  | false =>
    refine ⟨f1, -1, left, ?_, q1, .inr (.inl ⟨rfl, rfl⟩)⟩
    obtain ⟨places, roads⟩ := m
    simp only [mineCells, wkS] at *
    simp (disch := omega) only [go_sem, K.law25_walker_l1b, ↓reduceIte, o7, List.map_append, List.map_cons, List.map_nil, List.length_append, List.length_cons, List.length_nil, Nat.reduceAdd, Nat.reduceSub]
  | true =>
    obtain ⟨v, f2, ov, q2, v0, v9⟩ := next_x q1 m.roads.length (by omega) (by omega)
    obtain ⟨k, rfl⟩ := Int.eq_ofNat_of_zero_le v0
    have hk : k < m.roads.length := by omega
    have t1 := time_ok h k hk false
    have t2 := time_ok h k hk true
    have w1 := (walkT_lo h k hk false).2
    have w2 := (walkT_lo h k hk true).2
    have n1 := (h.rs _ (nth_mem hk)).ne
    by_cases c1 : (nth m.roads k).frm = place
    · by_cases c2 : 0 ≤ walkT m k false 6 9 12
      · refine ⟨f2, k, walkT m k false 6 9 12, ?_, q2, .inr (.inr ⟨k, false, hk, by simpa [Road.src] using c1, c2, rfl, rfl⟩)⟩
        obtain ⟨places, roads⟩ := m
        simp only [mineCells, wkS] at *
        generalize walkT ⟨places, roads⟩ k false 6 9 12 = s1 at *
        generalize walkT ⟨places, roads⟩ k true 6 9 12 = s2 at *
        generalize hy : nth roads k = y at *
        obtain ⟨yf, yt, yl, ya, yw, yc, y1, y2, y3, y4⟩ := y
        simp only [Road.src, Bool.false_eq_true, ↓reduceIte] at *
        simp (disch := omega) only [go_sem, K.law25_walker_l1b, ↓reduceIte, o7, ov, t1, t2, c1, c2, hy, List.map_append, List.map_cons, List.map_nil, List.length_append, List.length_cons, List.length_nil, Nat.reduceAdd, Nat.reduceSub]
      · have c3 : (nth m.roads k).to ≠ place := fun x => n1 (by rw [c1, x])
        refine ⟨f2, -1, left, ?_, q2, .inr (.inl ⟨rfl, rfl⟩)⟩
        obtain ⟨places, roads⟩ := m
        simp only [mineCells, wkS] at *
        generalize walkT ⟨places, roads⟩ k false 6 9 12 = s1 at *
        generalize walkT ⟨places, roads⟩ k true 6 9 12 = s2 at *
        generalize hy : nth roads k = y at *
        obtain ⟨yf, yt, yl, ya, yw, yc, y1, y2, y3, y4⟩ := y
        simp only [Road.src, Bool.false_eq_true, ↓reduceIte] at *
        simp (disch := omega) only [go_sem, K.law25_walker_l1b, ↓reduceIte, o7, ov, t1, t2, c1, c2, c3, hy, List.map_append, List.map_cons, List.map_nil, List.length_append, List.length_cons, List.length_nil, Nat.reduceAdd, Nat.reduceSub]
    · by_cases c3 : (nth m.roads k).to = place
      · by_cases c4 : 0 ≤ walkT m k true 6 9 12
        · refine ⟨f2, k, walkT m k true 6 9 12, ?_, q2, .inr (.inr ⟨k, true, hk, by simpa [Road.src] using c3, c4, rfl, rfl⟩)⟩
          obtain ⟨places, roads⟩ := m
          simp only [mineCells, wkS] at *
          generalize walkT ⟨places, roads⟩ k false 6 9 12 = s1 at *
          generalize walkT ⟨places, roads⟩ k true 6 9 12 = s2 at *
          generalize hy : nth roads k = y at *
          obtain ⟨yf, yt, yl, ya, yw, yc, y1, y2, y3, y4⟩ := y
          simp only [Road.src, Bool.false_eq_true, ↓reduceIte] at *
          simp (disch := omega) only [go_sem, K.law25_walker_l1b, ↓reduceIte, o7, ov, t1, t2, c1, c3, c4, hy, List.map_append, List.map_cons, List.map_nil, List.length_append, List.length_cons, List.length_nil, Nat.reduceAdd, Nat.reduceSub]
        · refine ⟨f2, -1, left, ?_, q2, .inr (.inl ⟨rfl, rfl⟩)⟩
          obtain ⟨places, roads⟩ := m
          simp only [mineCells, wkS] at *
          generalize walkT ⟨places, roads⟩ k false 6 9 12 = s1 at *
          generalize walkT ⟨places, roads⟩ k true 6 9 12 = s2 at *
          generalize hy : nth roads k = y at *
          obtain ⟨yf, yt, yl, ya, yw, yc, y1, y2, y3, y4⟩ := y
          simp only [Road.src, Bool.false_eq_true, ↓reduceIte] at *
          simp (disch := omega) only [go_sem, K.law25_walker_l1b, ↓reduceIte, o7, ov, t1, t2, c1, c3, c4, hy, List.map_append, List.map_cons, List.map_nil, List.length_append, List.length_cons, List.length_nil, Nat.reduceAdd, Nat.reduceSub]
      · refine ⟨f2, -1, left, ?_, q2, .inr (.inl ⟨rfl, rfl⟩)⟩
        obtain ⟨places, roads⟩ := m
        simp only [mineCells, wkS] at *
        generalize walkT ⟨places, roads⟩ k false 6 9 12 = s1 at *
        generalize walkT ⟨places, roads⟩ k true 6 9 12 = s2 at *
        generalize hy : nth roads k = y at *
        obtain ⟨yf, yt, yl, ya, yw, yc, y1, y2, y3, y4⟩ := y
        simp only [Road.src, Bool.false_eq_true, ↓reduceIte] at *
        simp (disch := omega) only [go_sem, K.law25_walker_l1b, ↓reduceIte, o7, ov, t1, t2, c1, c3, hy, List.map_append, List.map_cons, List.map_nil, List.length_append, List.length_cons, List.length_nil, Nat.reduceAdd, Nat.reduceSub]
theorem wk_round2 {m : Mine} (h : m.ok) (r1 : 1 ≤ m.roads.length) {e : Dice} (el : e.light) (l : List Int) (place left : Int) (hw : -1000000000 ≤ left ∧ left ≤ 1000000000) (hp : 0 ≤ place ∧ place < 1000) (t : Nat) (ht : t ≤ 400) (hl : l.length = t) (rr : Nat) (hr : rr < m.roads.length) (d : left - 1 ≤ 0) (f : (nth m.roads rr).frm = place) :
    ∃ (e' : Dice) (road2 left2 : Int), roundC true [1, 2, 3, 6, 12, 13, 14, 15, 16] 3 (exS CALL K.law25_walker_l1b (wkS e m l place rr left t)) = some (wkS e' m (l ++ [(nth m.roads rr).to]) (nth m.roads rr).to road2 left2 (t + 1)) ∧ e'.light ∧ wkC m ((nth m.roads rr).to) (-1) (left - 1) road2 left2 := by
  have np := h.np
  have nr := h.nr
  have xo := h.rs _ (nth_mem hr)
  have x2 := xo.t0
  have x3 := xo.t1
  clear xo
  obtain ⟨b7, f1, o7, q1⟩ := one_x el 7 (by omega) (by omega)
  cases b7 with
  | false =>
    refine ⟨f1, -1, left - 1, ?_, q1, .inr (.inl ⟨rfl, rfl⟩)⟩
    obtain ⟨places, roads⟩ := m
    simp only [mineCells, wkS] at *
    generalize hx : nth roads rr = x at *
    obtain ⟨xf, xt, xl, xa, xw, xc, x1, x2, x3, x4⟩ := x
    simp only [Road.src, Bool.false_eq_true, ↓reduceIte] at *
    simp (disch := omega) only [go_sem, K.law25_walker_l1b, ↓reduceIte, d, f, o7, hx, List.map_append, List.map_cons, List.map_nil, List.length_append, List.length_cons, List.length_nil, Nat.reduceAdd, Nat.reduceSub]
  | true =>
    obtain ⟨v, f2, ov, q2, v0, v9⟩ := next_x q1 m.roads.length (by omega) (by omega)
    obtain ⟨k, rfl⟩ := Int.eq_ofNat_of_zero_le v0
    have hk : k < m.roads.length := by omega
    have t1 := time_ok h k hk false
    have t2 := time_ok h k hk true
    have w1 := (walkT_lo h k hk false).2
    have w2 := (walkT_lo h k hk true).2
    have n1 := (h.rs _ (nth_mem hk)).ne
    by_cases c1 : (nth m.roads k).frm = (nth m.roads rr).to
    · by_cases c2 : 0 ≤ walkT m k false 6 9 12
      · refine ⟨f2, k, walkT m k false 6 9 12, ?_, q2, .inr (.inr ⟨k, false, hk, by simpa [Road.src] using c1, c2, rfl, rfl⟩)⟩
        obtain ⟨places, roads⟩ := m
        simp only [mineCells, wkS] at *
        generalize walkT ⟨places, roads⟩ k false 6 9 12 = s1 at *
        generalize walkT ⟨places, roads⟩ k true 6 9 12 = s2 at *
        generalize hx : nth roads rr = x at *
        obtain ⟨xf, xt, xl, xa, xw, xc, x1, x2, x3, x4⟩ := x
        generalize hy : nth roads k = y at *
        obtain ⟨yf, yt, yl, ya, yw, yc, y1, y2, y3, y4⟩ := y
        simp only [Road.src, Bool.false_eq_true, ↓reduceIte] at *
        simp (disch := omega) only [go_sem, K.law25_walker_l1b, ↓reduceIte, d, f, o7, ov, t1, t2, c1, c2, hx, hy, List.map_append, List.map_cons, List.map_nil, List.length_append, List.length_cons, List.length_nil, Nat.reduceAdd, Nat.reduceSub]
      · have c3 : (nth m.roads k).to ≠ (nth m.roads rr).to := fun x => n1 (by rw [c1, x])
        refine ⟨f2, -1, left - 1, ?_, q2, .inr (.inl ⟨rfl, rfl⟩)⟩
        obtain ⟨places, roads⟩ := m
        simp only [mineCells, wkS] at *
        generalize walkT ⟨places, roads⟩ k false 6 9 12 = s1 at *
        generalize walkT ⟨places, roads⟩ k true 6 9 12 = s2 at *
        generalize hx : nth roads rr = x at *
        obtain ⟨xf, xt, xl, xa, xw, xc, x1, x2, x3, x4⟩ := x
        generalize hy : nth roads k = y at *
        obtain ⟨yf, yt, yl, ya, yw, yc, y1, y2, y3, y4⟩ := y
        simp only [Road.src, Bool.false_eq_true, ↓reduceIte] at *
        simp (disch := omega) only [go_sem, K.law25_walker_l1b, ↓reduceIte, d, f, o7, ov, t1, t2, c1, c2, c3, hx, hy, List.map_append, List.map_cons, List.map_nil, List.length_append, List.length_cons, List.length_nil, Nat.reduceAdd, Nat.reduceSub]
    · by_cases c3 : (nth m.roads k).to = (nth m.roads rr).to
      · by_cases c4 : 0 ≤ walkT m k true 6 9 12
        · refine ⟨f2, k, walkT m k true 6 9 12, ?_, q2, .inr (.inr ⟨k, true, hk, by simpa [Road.src] using c3, c4, rfl, rfl⟩)⟩
          obtain ⟨places, roads⟩ := m
          simp only [mineCells, wkS] at *
          generalize walkT ⟨places, roads⟩ k false 6 9 12 = s1 at *
          generalize walkT ⟨places, roads⟩ k true 6 9 12 = s2 at *
          generalize hx : nth roads rr = x at *
          obtain ⟨xf, xt, xl, xa, xw, xc, x1, x2, x3, x4⟩ := x
          generalize hy : nth roads k = y at *
          obtain ⟨yf, yt, yl, ya, yw, yc, y1, y2, y3, y4⟩ := y
          simp only [Road.src, Bool.false_eq_true, ↓reduceIte] at *
          simp (disch := omega) only [go_sem, K.law25_walker_l1b, ↓reduceIte, d, f, o7, ov, t1, t2, c1, c3, c4, hx, hy, List.map_append, List.map_cons, List.map_nil, List.length_append, List.length_cons, List.length_nil, Nat.reduceAdd, Nat.reduceSub]
        · refine ⟨f2, -1, left - 1, ?_, q2, .inr (.inl ⟨rfl, rfl⟩)⟩
          obtain ⟨places, roads⟩ := m
          simp only [mineCells, wkS] at *
          generalize walkT ⟨places, roads⟩ k false 6 9 12 = s1 at *
          generalize walkT ⟨places, roads⟩ k true 6 9 12 = s2 at *
          generalize hx : nth roads rr = x at *
          obtain ⟨xf, xt, xl, xa, xw, xc, x1, x2, x3, x4⟩ := x
          generalize hy : nth roads k = y at *
          obtain ⟨yf, yt, yl, ya, yw, yc, y1, y2, y3, y4⟩ := y
          simp only [Road.src, Bool.false_eq_true, ↓reduceIte] at *
          simp (disch := omega) only [go_sem, K.law25_walker_l1b, ↓reduceIte, d, f, o7, ov, t1, t2, c1, c3, c4, hx, hy, List.map_append, List.map_cons, List.map_nil, List.length_append, List.length_cons, List.length_nil, Nat.reduceAdd, Nat.reduceSub]
      · refine ⟨f2, -1, left - 1, ?_, q2, .inr (.inl ⟨rfl, rfl⟩)⟩
        obtain ⟨places, roads⟩ := m
        simp only [mineCells, wkS] at *
        generalize walkT ⟨places, roads⟩ k false 6 9 12 = s1 at *
        generalize walkT ⟨places, roads⟩ k true 6 9 12 = s2 at *
        generalize hx : nth roads rr = x at *
        obtain ⟨xf, xt, xl, xa, xw, xc, x1, x2, x3, x4⟩ := x
        generalize hy : nth roads k = y at *
        obtain ⟨yf, yt, yl, ya, yw, yc, y1, y2, y3, y4⟩ := y
        simp only [Road.src, Bool.false_eq_true, ↓reduceIte] at *
        simp (disch := omega) only [go_sem, K.law25_walker_l1b, ↓reduceIte, d, f, o7, ov, t1, t2, c1, c3, hx, hy, List.map_append, List.map_cons, List.map_nil, List.length_append, List.length_cons, List.length_nil, Nat.reduceAdd, Nat.reduceSub]
theorem wk_round3 {m : Mine} (h : m.ok) (r1 : 1 ≤ m.roads.length) {e : Dice} (el : e.light) (l : List Int) (place left : Int) (hw : -1000000000 ≤ left ∧ left ≤ 1000000000) (hp : 0 ≤ place ∧ place < 1000) (t : Nat) (ht : t ≤ 400) (hl : l.length = t) (rr : Nat) (hr : rr < m.roads.length) (d : left - 1 ≤ 0) (f : (nth m.roads rr).frm ≠ place) :
    ∃ (e' : Dice) (road2 left2 : Int), roundC true [1, 2, 3, 6, 12, 13, 14, 15, 16] 3 (exS CALL K.law25_walker_l1b (wkS e m l place rr left t)) = some (wkS e' m (l ++ [(nth m.roads rr).frm]) (nth m.roads rr).frm road2 left2 (t + 1)) ∧ e'.light ∧ wkC m ((nth m.roads rr).frm) (-1) (left - 1) road2 left2 := by
  have np := h.np
  have nr := h.nr
  have xo := h.rs _ (nth_mem hr)
  have x2 := xo.f0
  have x3 := xo.f1
  clear xo
  obtain ⟨b7, f1, o7, q1⟩ := one_x el 7 (by omega) (by omega)
  cases b7 with
  | false =>
    refine ⟨f1, -1, left - 1, ?_, q1, .inr (.inl ⟨rfl, rfl⟩)⟩
    obtain ⟨places, roads⟩ := m
    simp only [mineCells, wkS] at *
    generalize hx : nth roads rr = x at *
    obtain ⟨xf, xt, xl, xa, xw, xc, x1, x2, x3, x4⟩ := x
    simp only [Road.src, Bool.false_eq_true, ↓reduceIte] at *
    simp (disch := omega) only [go_sem, K.law25_walker_l1b, ↓reduceIte, d, f, o7, hx, List.map_append, List.map_cons, List.map_nil, List.length_append, List.length_cons, List.length_nil, Nat.reduceAdd, Nat.reduceSub]
  | true =>
    obtain ⟨v, f2, ov, q2, v0, v9⟩ := next_x q1 m.roads.length (by omega) (by omega)
    obtain ⟨k, rfl⟩ := Int.eq_ofNat_of_zero_le v0
    have hk : k < m.roads.length := by omega
    have t1 := time_ok h k hk false
    have t2 := time_ok h k hk true
    have w1 := (walkT_lo h k hk false).2
    have w2 := (walkT_lo h k hk true).2
    have n1 := (h.rs _ (nth_mem hk)).ne
    by_cases c1 : (nth m.roads k).frm = (nth m.roads rr).frm
    · by_cases c2 : 0 ≤ walkT m k false 6 9 12
      · refine ⟨f2, k, walkT m k false 6 9 12, ?_, q2, .inr (.inr ⟨k, false, hk, by simpa [Road.src] using c1, c2, rfl, rfl⟩)⟩
        obtain ⟨places, roads⟩ := m
        simp only [mineCells, wkS] at *
        generalize walkT ⟨places, roads⟩ k false 6 9 12 = s1 at *
        generalize walkT ⟨places, roads⟩ k true 6 9 12 = s2 at *
        generalize hx : nth roads rr = x at *
        obtain ⟨xf, xt, xl, xa, xw, xc, x1, x2, x3, x4⟩ := x
        generalize hy : nth roads k = y at *
        obtain ⟨yf, yt, yl, ya, yw, yc, y1, y2, y3, y4⟩ := y
        simp only [Road.src, Bool.false_eq_true, ↓reduceIte] at *
        simp (disch := omega) only [go_sem, K.law25_walker_l1b, ↓reduceIte, d, f, o7, ov, t1, t2, c1, c2, hx, hy, List.map_append, List.map_cons, List.map_nil, List.length_append, List.length_cons, List.length_nil, Nat.reduceAdd, Nat.reduceSub]
      · have c3 : (nth m.roads k).to ≠ (nth m.roads rr).frm := fun x => n1 (by rw [c1, x])
        refine ⟨f2, -1, left - 1, ?_, q2, .inr (.inl ⟨rfl, rfl⟩)⟩
        obtain ⟨places, roads⟩ := m
        simp only [mineCells, wkS] at *
        generalize walkT ⟨places, roads⟩ k false 6 9 12 = s1 at *
        generalize walkT ⟨places, roads⟩ k true 6 9 12 = s2 at *
        generalize hx : nth roads rr = x at *
        obtain ⟨xf, xt, xl, xa, xw, xc, x1, x2, x3, x4⟩ := x
        generalize hy : nth roads k = y at *
        obtain ⟨yf, yt, yl, ya, yw, yc, y1, y2, y3, y4⟩ := y
        simp only [Road.src, Bool.false_eq_true, ↓reduceIte] at *
        simp (disch := omega) only [go_sem, K.law25_walker_l1b, ↓reduceIte, d, f, o7, ov, t1, t2, c1, c2, c3, hx, hy, List.map_append, List.map_cons, List.map_nil, List.length_append, List.length_cons, List.length_nil, Nat.reduceAdd, Nat.reduceSub]
    · by_cases c3 : (nth m.roads k).to = (nth m.roads rr).frm
      · by_cases c4 : 0 ≤ walkT m k true 6 9 12
        · refine ⟨f2, k, walkT m k true 6 9 12, ?_, q2, .inr (.inr ⟨k, true, hk, by simpa [Road.src] using c3, c4, rfl, rfl⟩)⟩
          obtain ⟨places, roads⟩ := m
          simp only [mineCells, wkS] at *
          generalize walkT ⟨places, roads⟩ k false 6 9 12 = s1 at *
          generalize walkT ⟨places, roads⟩ k true 6 9 12 = s2 at *
          generalize hx : nth roads rr = x at *
          obtain ⟨xf, xt, xl, xa, xw, xc, x1, x2, x3, x4⟩ := x
          generalize hy : nth roads k = y at *
          obtain ⟨yf, yt, yl, ya, yw, yc, y1, y2, y3, y4⟩ := y
          simp only [Road.src, Bool.false_eq_true, ↓reduceIte] at *
          simp (disch := omega) only [go_sem, K.law25_walker_l1b, ↓reduceIte, d, f, o7, ov, t1, t2, c1, c3, c4, hx, hy, List.map_append, List.map_cons, List.map_nil, List.length_append, List.length_cons, List.length_nil, Nat.reduceAdd, Nat.reduceSub]
        · refine ⟨f2, -1, left - 1, ?_, q2, .inr (.inl ⟨rfl, rfl⟩)⟩
          obtain ⟨places, roads⟩ := m
          simp only [mineCells, wkS] at *
          generalize walkT ⟨places, roads⟩ k false 6 9 12 = s1 at *
          generalize walkT ⟨places, roads⟩ k true 6 9 12 = s2 at *
          generalize hx : nth roads rr = x at *
          obtain ⟨xf, xt, xl, xa, xw, xc, x1, x2, x3, x4⟩ := x
          generalize hy : nth roads k = y at *
          obtain ⟨yf, yt, yl, ya, yw, yc, y1, y2, y3, y4⟩ := y
          simp only [Road.src, Bool.false_eq_true, ↓reduceIte] at *
          simp (disch := omega) only [go_sem, K.law25_walker_l1b, ↓reduceIte, d, f, o7, ov, t1, t2, c1, c3, c4, hx, hy, List.map_append, List.map_cons, List.map_nil, List.length_append, List.length_cons, List.length_nil, Nat.reduceAdd, Nat.reduceSub]
      · refine ⟨f2, -1, left - 1, ?_, q2, .inr (.inl ⟨rfl, rfl⟩)⟩
        obtain ⟨places, roads⟩ := m
        simp only [mineCells, wkS] at *
        generalize walkT ⟨places, roads⟩ k false 6 9 12 = s1 at *
        generalize walkT ⟨places, roads⟩ k true 6 9 12 = s2 at *
        generalize hx : nth roads rr = x at *
        obtain ⟨xf, xt, xl, xa, xw, xc, x1, x2, x3, x4⟩ := x
        generalize hy : nth roads k = y at *
        obtain ⟨yf, yt, yl, ya, yw, yc, y1, y2, y3, y4⟩ := y
        simp only [Road.src, Bool.false_eq_true, ↓reduceIte] at *
        simp (disch := omega) only [go_sem, K.law25_walker_l1b, ↓reduceIte, d, f, o7, ov, t1, t2, c1, c3, hx, hy, List.map_append, List.map_cons, List.map_nil, List.length_append, List.length_cons, List.length_nil, Nat.reduceAdd, Nat.reduceSub]
theorem wk_round4 {m : Mine} (h : m.ok) (r1 : 1 ≤ m.roads.length) {e : Dice} (el : e.light) (l : List Int) (place left : Int) (hw : -1000000000 ≤ left ∧ left ≤ 1000000000) (hp : 0 ≤ place ∧ place < 1000) (t : Nat) (ht : t ≤ 400) (hl : l.length = t) (rr : Nat) (hr : rr < m.roads.length) (d : ¬ left - 1 ≤ 0) :
    ∃ (e' : Dice) (road2 left2 : Int), roundC true [1, 2, 3, 6, 12, 13, 14, 15, 16] 3 (exS CALL K.law25_walker_l1b (wkS e m l place rr left t)) = some (wkS e' m (l ++ [place]) place road2 left2 (t + 1)) ∧ e'.light ∧ wkC m place rr (left - 1) road2 left2 := by
  have np := h.np
  have nr := h.nr
  obtain ⟨b6, f0, o6, q0⟩ := one_x el 60 (by omega) (by omega)
  cases b6 with
  | false =>
    refine ⟨f0, rr, left - 1, ?_, q0, .inl ⟨rfl, rfl⟩⟩
    obtain ⟨places, roads⟩ := m
    simp only [mineCells, wkS] at *
    simp (disch := omega) only [go_sem, K.law25_walker_l1b, ↓reduceIte, d, o6, List.map_append, List.map_cons, List.map_nil, List.length_append, List.length_cons, List.length_nil, Nat.reduceAdd, Nat.reduceSub]
  | true =>
    obtain ⟨b7, f1, o7, q1⟩ := one_x q0 7 (by omega) (by omega)
    cases b7 with
    | false =>
      refine ⟨f1, -1, left - 1, ?_, q1, .inr (.inl ⟨rfl, rfl⟩)⟩
      obtain ⟨places, roads⟩ := m
      simp only [mineCells, wkS] at *
      simp (disch := omega) only [go_sem, K.law25_walker_l1b, ↓reduceIte, d, o6, o7, List.map_append, List.map_cons, List.map_nil, List.length_append, List.length_cons, List.length_nil, Nat.reduceAdd, Nat.reduceSub]
    | true =>
      obtain ⟨v, f2, ov, q2, v0, v9⟩ := next_x q1 m.roads.length (by omega) (by omega)
      obtain ⟨k, rfl⟩ := Int.eq_ofNat_of_zero_le v0
      have hk : k < m.roads.length := by omega
      have t1 := time_ok h k hk false
      have t2 := time_ok h k hk true
      have w1 := (walkT_lo h k hk false).2
      have w2 := (walkT_lo h k hk true).2
      have n1 := (h.rs _ (nth_mem hk)).ne
      by_cases c1 : (nth m.roads k).frm = place
      · by_cases c2 : 0 ≤ walkT m k false 6 9 12
        · refine ⟨f2, k, walkT m k false 6 9 12, ?_, q2, .inr (.inr ⟨k, false, hk, by simpa [Road.src] using c1, c2, rfl, rfl⟩)⟩
          obtain ⟨places, roads⟩ := m
          simp only [mineCells, wkS] at *
          generalize walkT ⟨places, roads⟩ k false 6 9 12 = s1 at *
          generalize walkT ⟨places, roads⟩ k true 6 9 12 = s2 at *
          generalize hy : nth roads k = y at *
          obtain ⟨yf, yt, yl, ya, yw, yc, y1, y2, y3, y4⟩ := y
          simp only [Road.src, Bool.false_eq_true, ↓reduceIte] at *
          simp (disch := omega) only [go_sem, K.law25_walker_l1b, ↓reduceIte, d, o6, o7, ov, t1, t2, c1, c2, hy, List.map_append, List.map_cons, List.map_nil, List.length_append, List.length_cons, List.length_nil, Nat.reduceAdd, Nat.reduceSub]
        · have c3 : (nth m.roads k).to ≠ place := fun x => n1 (by rw [c1, x])
          refine ⟨f2, -1, left - 1, ?_, q2, .inr (.inl ⟨rfl, rfl⟩)⟩
          obtain ⟨places, roads⟩ := m
          simp only [mineCells, wkS] at *
          generalize walkT ⟨places, roads⟩ k false 6 9 12 = s1 at *
          generalize walkT ⟨places, roads⟩ k true 6 9 12 = s2 at *
          generalize hy : nth roads k = y at *
          obtain ⟨yf, yt, yl, ya, yw, yc, y1, y2, y3, y4⟩ := y
          simp only [Road.src, Bool.false_eq_true, ↓reduceIte] at *
          simp (disch := omega) only [go_sem, K.law25_walker_l1b, ↓reduceIte, d, o6, o7, ov, t1, t2, c1, c2, c3, hy, List.map_append, List.map_cons, List.map_nil, List.length_append, List.length_cons, List.length_nil, Nat.reduceAdd, Nat.reduceSub]
      · by_cases c3 : (nth m.roads k).to = place
        · by_cases c4 : 0 ≤ walkT m k true 6 9 12
          · refine ⟨f2, k, walkT m k true 6 9 12, ?_, q2, .inr (.inr ⟨k, true, hk, by simpa [Road.src] using c3, c4, rfl, rfl⟩)⟩
            obtain ⟨places, roads⟩ := m
            simp only [mineCells, wkS] at *
            generalize walkT ⟨places, roads⟩ k false 6 9 12 = s1 at *
            generalize walkT ⟨places, roads⟩ k true 6 9 12 = s2 at *
            generalize hy : nth roads k = y at *
            obtain ⟨yf, yt, yl, ya, yw, yc, y1, y2, y3, y4⟩ := y
            simp only [Road.src, Bool.false_eq_true, ↓reduceIte] at *
            simp (disch := omega) only [go_sem, K.law25_walker_l1b, ↓reduceIte, d, o6, o7, ov, t1, t2, c1, c3, c4, hy, List.map_append, List.map_cons, List.map_nil, List.length_append, List.length_cons, List.length_nil, Nat.reduceAdd, Nat.reduceSub]
          · refine ⟨f2, -1, left - 1, ?_, q2, .inr (.inl ⟨rfl, rfl⟩)⟩
            obtain ⟨places, roads⟩ := m
            simp only [mineCells, wkS] at *
            generalize walkT ⟨places, roads⟩ k false 6 9 12 = s1 at *
            generalize walkT ⟨places, roads⟩ k true 6 9 12 = s2 at *
            generalize hy : nth roads k = y at *
            obtain ⟨yf, yt, yl, ya, yw, yc, y1, y2, y3, y4⟩ := y
            simp only [Road.src, Bool.false_eq_true, ↓reduceIte] at *
            simp (disch := omega) only [go_sem, K.law25_walker_l1b, ↓reduceIte, d, o6, o7, ov, t1, t2, c1, c3, c4, hy, List.map_append, List.map_cons, List.map_nil, List.length_append, List.length_cons, List.length_nil, Nat.reduceAdd, Nat.reduceSub]
        · refine ⟨f2, -1, left - 1, ?_, q2, .inr (.inl ⟨rfl, rfl⟩)⟩
          obtain ⟨places, roads⟩ := m
          simp only [mineCells, wkS] at *
          generalize walkT ⟨places, roads⟩ k false 6 9 12 = s1 at *
          generalize walkT ⟨places, roads⟩ k true 6 9 12 = s2 at *
          generalize hy : nth roads k = y at *
          obtain ⟨yf, yt, yl, ya, yw, yc, y1, y2, y3, y4⟩ := y
          simp only [Road.src, Bool.false_eq_true, ↓reduceIte] at *
          simp (disch := omega) only [go_sem, K.law25_walker_l1b, ↓reduceIte, d, o6, o7, ov, t1, t2, c1, c3, hy, List.map_append, List.map_cons, List.map_nil, List.length_append, List.length_cons, List.length_nil, Nat.reduceAdd, Nat.reduceSub]
end Go.Ev

/- A walker's way: what is true of it. -/
namespace Go.Ev
open Go
variable [Lib] [Has1] [Has2] [Has3] [Has4] [Has5] [Has6] [Has7] [Has8] [Has9]

theorem nth_snocL (l : List Int) (x : Int) {j : Nat} (hj : j < l.length) : nth (l ++ [x]) j = nth l j := by
  unfold nth; simp [List.getD_eq_getElem?_getD, List.getElem?_append_left hj]
theorem nth_snocR (l : List Int) (x : Int) : nth (l ++ [x]) l.length = x := by
  unfold nth; simp [List.getD_eq_getElem?_getD]
/-- A way along one road. -/
def Trip (m : Mine) (A : List Int) (k : Nat) (back : Bool) (d e : Nat) : Prop := k < m.roads.length ∧ 0 ≤ walkT m k back 6 9 12 ∧ (e : Int) = d + max 1 (walkT m k back 6 9 12) ∧ (∀ τ, d ≤ τ → τ < e → nth A τ = (nth m.roads k).src back) ∧ nth A e = (nth m.roads k).dst back ∧ e < A.length
def Trace (m : Mine) (A : List Int) : Prop := ∀ τ, τ + 1 < A.length → nth A (τ + 1) = nth A τ ∨ ∃ k back d, Trip m A k back d (τ + 1)
theorem Trip.snoc {m : Mine} {A : List Int} {k : Nat} {back : Bool} {d e : Nat} (h : Trip m A k back d e) (x : Int) : Trip m (A ++ [x]) k back d e := by
  obtain ⟨h1, h2, h3, h4, h5, h6⟩ := h
  refine ⟨h1, h2, h3, fun τ a b => ?_, ?_, by simp; omega⟩
  · rw [nth_snocL _ _ (by omega)]; exact h4 τ a b
  · rw [nth_snocL _ _ h6]; exact h5
/-- Under way, or not. -/
def wkW (m : Mine) (l : List Int) (place road left : Int) : Prop := road = -1 ∨ ∃ (k : Nat) (back : Bool) (d : Nat), road = k ∧ k < m.roads.length ∧ 0 ≤ walkT m k back 6 9 12 ∧ (nth m.roads k).src back = place ∧ d < l.length ∧ left = walkT m k back 6 9 12 - ((l.length : Int) - 1 - d) ∧ (1 ≤ left ∨ d + 1 = l.length) ∧ ∀ τ, d ≤ τ → τ < l.length → nth l τ = place
def wkI (m : Mine) (start : Int) (l : List Int) (place road left : Int) : Prop :=
  (0 ≤ place ∧ place < m.places.length) ∧ (∀ x ∈ l, 0 ≤ x ∧ x < m.places.length) ∧ Trace m l ∧ (-1 ≤ left ∧ left ≤ 1000012) ∧ (l.length = 0 → place = start) ∧ (0 < l.length → nth l 0 = start ∧ nth l (l.length - 1) = place) ∧ wkW m l place road left
theorem wk_stay {m : Mine} (h : m.ok) {start : Int} {l : List Int} {place road left left1 : Int} (w : wkI m start l place road left) (hl : -1 ≤ left1 ∧ left1 ≤ 1000012) (place1 road1 : Int) (p1 : 0 ≤ place1 ∧ place1 < m.places.length)
    (hs : l.length = 0 → place1 = place) (hn : 0 < l.length → place1 = place ∨ ∃ k back d, Trip m (l ++ [place1]) k back d l.length) (ww : wkW m (l ++ [place1]) place1 road1 left1) {road2 left2 : Int} (c : wkC m place1 road1 left1 road2 left2) :
    wkI m start (l ++ [place1]) place1 road2 left2 := by
  obtain ⟨w1, w2, w3, w4, w5, w6, w7⟩ := w
  have ln : (l ++ [place1]).length = l.length + 1 := by simp
  refine ⟨p1, ?_, ?_, ?_, ?_, ?_, ?_⟩
  · intro x hx
    simp only [List.mem_append, List.mem_singleton] at hx
    rcases hx with hx | rfl
    · exact w2 x hx
    · exact p1
  · intro τ hτ
    rw [ln] at hτ
    by_cases c : τ + 1 < l.length
    · rcases w3 τ c with h | ⟨k, back, d, h⟩
      · left; rw [nth_snocL _ _ c, nth_snocL _ _ (by omega)]; exact h
      · right; exact ⟨k, back, d, h.snoc _⟩
    · have e : τ + 1 = l.length := by omega
      rcases hn (by omega) with h | ⟨k, back, d, h⟩
      · left
        rw [nth_snocL _ _ (show τ < l.length by omega)]
        have := (w6 (by omega)).2
        rw [show l.length - 1 = τ by omega] at this
        rw [e, nth_snocR, this, h]
      · right; rw [e]; exact ⟨k, back, d, h⟩
  · rcases c with ⟨-, e⟩ | ⟨-, e⟩ | ⟨k, back, hk, -, -, -, e⟩
    · omega
    · omega
    · have := walkT_lo h k hk back; omega
  · intro x; omega
  · intro _
    refine ⟨?_, by rw [ln, Nat.add_sub_cancel, nth_snocR]⟩
    by_cases c : 0 < l.length
    · rw [nth_snocL _ _ c]; exact (w6 c).1
    · have z : l.length = 0 := by omega
      have := nth_snocR l place1
      rw [z] at this
      rw [this, hs z, w5 z]
  · rcases c with ⟨e1, e2⟩ | ⟨e1, -⟩ | ⟨k, back, hk, hs, h0, e1, e2⟩
    · rw [e1, e2]; exact ww
    · left; exact e1
    · right
      refine ⟨k, back, l.length, e1, hk, h0, hs, by omega, by rw [ln]; omega, .inr (by omega), fun τ a b => ?_⟩
      rw [show τ = l.length by omega, nth_snocR]
theorem wk_next {m : Mine} (h : m.ok) (r1 : 1 ≤ m.roads.length) {start : Int} {e : Dice} (el : e.light) {l : List Int} {place road left : Int} (w : wkI m start l place road left) {t : Nat} (ht : t ≤ 400) (hl : l.length = t) :
    ∃ (e' : Dice) (l' : List Int) (place2 road2 left2 : Int), roundC true [1, 2, 3, 6, 12, 13, 14, 15, 16] 3 (exS CALL K.law25_walker_l1b (wkS e m l place road left t)) = some (wkS e' m l' place2 road2 left2 (t + 1)) ∧ e'.light ∧ l'.length = t + 1 ∧ wkI m start l' place2 road2 left2 := by
  have w0 := w
  have np := h.np
  obtain ⟨w1, w2, w3, w4, w5, w6, w7⟩ := w
  rcases w7 with rfl | ⟨k, back, d, rfl, hk, h0, hs, hd, e1, e2, al⟩
  · obtain ⟨e', road2, left2, rr, lt, c⟩ := wk_round1 h r1 el l place left (by omega) (by omega) t ht hl
    exact ⟨e', _, _, _, _, rr, lt, by simp [hl], wk_stay h w0 w4 _ _ w1 (fun _ => rfl) (fun _ => .inl rfl) (.inl rfl) c⟩
  · have ro := h.rs _ (nth_mem hk)
    have wt := walkT_lo h k hk back
    by_cases c1 : left - 1 ≤ 0
    · have trip : ∀ y, y = (nth m.roads k).dst back → Trip m (l ++ [y]) k back d l.length := by
        intro y hy
        refine ⟨hk, h0, by omega, fun τ a b => ?_, by rw [nth_snocR, hy], by simp⟩
        rw [nth_snocL _ _ b, al τ a b, hs]
      by_cases c2 : (nth m.roads k).frm = place
      · have bk : back = false := by
          cases back with
          | false => rfl
          | true => exfalso; simp only [Road.src, ↓reduceIte] at hs; exact ro.ne (by rw [c2, hs])
        subst bk
        obtain ⟨e', road2, left2, rr, lt, c⟩ := wk_round2 h r1 el l place left (by omega) (by omega) t ht hl k hk c1 c2
        exact ⟨e', _, _, _, _, rr, lt, by simp [hl], wk_stay h w0 (by omega) _ _ ⟨ro.t0, ro.t1⟩ (fun z => by omega) (fun _ => .inr ⟨k, false, d, trip _ rfl⟩) (.inl rfl) c⟩
      · have bk : back = true := by
          cases back with
          | true => rfl
          | false => exfalso; simp only [Road.src, Bool.false_eq_true, ↓reduceIte] at hs; exact c2 hs
        subst bk
        obtain ⟨e', road2, left2, rr, lt, c⟩ := wk_round3 h r1 el l place left (by omega) (by omega) t ht hl k hk c1 c2
        exact ⟨e', _, _, _, _, rr, lt, by simp [hl], wk_stay h w0 (by omega) _ _ ⟨ro.f0, ro.f1⟩ (fun z => by omega) (fun _ => .inr ⟨k, true, d, trip _ rfl⟩) (.inl rfl) c⟩
    · obtain ⟨e', road2, left2, rr, lt, c⟩ := wk_round4 h r1 el l place left (by omega) (by omega) t ht hl k hk c1
      refine ⟨e', _, _, _, _, rr, lt, by simp [hl], wk_stay h w0 (by omega) _ _ w1 (fun _ => rfl) (fun _ => .inl rfl) (.inr ⟨k, back, d, rfl, hk, h0, hs, by simp; omega, by simp; omega, .inl (by omega), fun τ a b => ?_⟩) c⟩
      by_cases c3 : τ < l.length
      · rw [nth_snocL _ _ c3]; exact al τ a c3
      · have : τ = l.length := by simp at b; omega
        rw [this, nth_snocR]
theorem walker_x {d : Dice} (hd : d.light) {m : Mine} (h : m.ok) (r1 : 1 ≤ m.roads.length) {start : Int} (s0 : 0 ≤ start) (s1 : start < m.places.length) :
    ∃ (A : List Int) (e : Dice), CALL 0 N.law25_walker [.bp 0 0, .t m.e, I start, I 0, I 400] [d.obj] = some (.t (tL A), [e.obj]) ∧ A.length = 401 ∧ nth A 0 = start ∧ (∀ x ∈ A, 0 ≤ x ∧ x < m.places.length) ∧ Trace m A := by
  have lp : ∀ z1 z2 z3 z6 z12 z13 z14 z15 z16 : D, ∃ q, exS CALL K.law25_walker_l1 ⟨[.bp 0 0, z1, z2, z3, I 400, .bp 1 0, z6, .ref 2 0 0, I start, I (-1), I 0, I 0, z12, z13, z14, z15, z16], [d.obj, .box (mineCells m), .arr 1 false 0 []]⟩ = some q ∧
      ∃ (e : Dice) (A : List Int) (p r f : Int), q = (.exit 0, wkS e m A p r f 401) ∧ A.length = 401 ∧ nth A 0 = start ∧ (∀ x ∈ A, 0 ≤ x ∧ x < m.places.length) ∧ Trace m A := by
    intro z1 z2 z3 z6 z12 z13 z14 z15 z16
    refine loop_x (fun j st => ∃ (e : Dice) (l : List Int) (p r f : Int), st = wkS e m l p r f j ∧ e.light ∧ l.length = j ∧ wkI m start l p r f) 401 _ ?_ ?_ ?_
    · refine ⟨d, [], start, -1, 0, rfl, hd, rfl, ⟨s0, s1⟩, by simp, fun τ h => by simp at h, by omega, fun _ => rfl, fun h => by simp at h, .inl rfl⟩
    · rintro j st hj ⟨e, l, p, r, f, rfl, el, hl, w⟩
      obtain ⟨e', l', p', r', f', a, b, c, d⟩ := wk_next h r1 el w (t := j) (by omega) hl
      exact .inl ⟨_, a, e', l', p', r', f', rfl, b, c, d⟩
    · rintro st ⟨e, l, p, r, f, rfl, el, hl, w⟩
      refine ⟨(.exit 0, wkS e m l p r f 401), ?_, by simp, e, l, p, r, f, rfl, hl, (w.2.2.2.2.2.1 (by omega)).1, w.2.1, w.2.2.1⟩
      clear w
      obtain ⟨places, roads⟩ := m
      simp only [mineCells, wkS] at *
      simp (disch := omega) only [go_sem, K.law25_walker_l1b, ↓reduceIte, show ((401 : Nat) : Int) = 401 from rfl, Nat.reduceAdd, Nat.reduceSub]
  obtain ⟨q, hq, e, A, p, r, f, rfl, a1, a2, a3, a4⟩ := lp (.t m.e) (I start) (I 0) .nil .und .und .und .und .und
  refine ⟨A, e, CALL_of K.t_law25_walker rfl ?_, a1, a2, a3, a4⟩
  clear lp a2 a3 a4
  obtain ⟨places, roads⟩ := m
  simp only [mineCells, wkS] at *
  simp (disch := omega) only [go_sem, K.law25_walker, ↓reduceIte, hq, Nat.reduceAdd, Nat.reduceSub]
end Go.Ev

/- PlacesShift. -/
namespace Go.Ev
open Go
variable [Lib] [Has1] [Has2] [Has3] [Has4] [Has5] [Has6] [Has7] [Has8] [Has9]

def shW (s : Int) (w : Wh) : Wh := ⟨w.time + s, shL s w.frm⟩
/-- The times are not too late. -/
def FB (K : Int) (w : Wh) : Prop := ∀ j, nth w.frm j < 1099511627776 → nth w.frm j ≤ K
end Go.Ev

/- PlacesMade. -/
namespace Go.Ev
open Go
variable [Lib] [Has1] [Has2] [Has3] [Has4] [Has5] [Has6] [Has7] [Has8] [Has9]

def flipR (l : List Road) (k : Nat) : List Road := l.set k { nth l k with closed := !(nth l k).closed }
abbrev pmS (e : Dice) (m : Mine) (w v : Wh) (j : Int) : St := ⟨[.und, .und, .bp 0 0, .bp 1 0, .bp 2 0, .bp 3 0, I j, .und, .und, .und, .und, .und], [e.obj, .box (mineCells m), .box [I w.time, .t (tL w.frm)], .box [I v.time, .t (tL v.frm)]]⟩
end Go.Ev

/- PlacesShift's law. -/
namespace Go.Ev
open Go
variable [Lib] [Has1] [Has2] [Has3] [Has4] [Has5] [Has6] [Has7] [Has8] [Has9]

abbrev psS (e : Dice) (m : Mine) (s : Int) (w : Wh) (now k : Int) : St := ⟨[.und, .und, .und, .bp 0 0, .bp 1 0, I s, .und, .bp 2 0, .und, .bp 3 0, .und, I now, I k, .und, .und, .und, .und, .und], [e.obj, .box (mineCells m), .box [I w.time, .t (tL w.frm)], .box [I (w.time + s), .t (tL (shL s w.frm))]]⟩
def psP (m : Mine) (s : Int) (k0 j : Nat) (st : St) : Prop := ∃ (e : Dice) (w : Wh) (now : Int), st = psS e m s w now ((k0 : Int) - j) ∧ e.light ∧ validB m w = true ∧ FB (1000 + 150 * (j : Int) + (2 * (j : Int) + 1) * ((m.places.length : Int) * 1000012)) w ∧ w.time ≤ now ∧ 50 ≤ now ∧ now ≤ 50 + 150 * (j : Int)
end Go.Ev

/- Whoever walks is never lost: the plain law. -/
namespace Go.Ev
open Go
variable [Lib] [Has1] [Has2] [Has3] [Has4] [Has5] [Has6] [Has7] [Has8] [Has9]

theorem walk_on {m : Mine} {A : List Int} (hA : A.length = 401) (tr : Trace m A) {t : Int} {into : Option (List Int)} {y : List Int} (cl : clW m t into y) {T U : Nat} (hU : U ≤ 400) (ht : t ≤ T) (hT : nth y (nth A T).toNat ≤ T)
    (ho : ∀ k back d e, Trip m A k back d e → d ≤ T → T < e → nth y ((nth m.roads k).src back).toNat + walkT m k back 6 9 12 ≤ e) (hin : ∀ τ, T < τ → τ ≤ U → inOK into (nth A τ) = true) :
    ∀ τ, T ≤ τ → τ ≤ U → nth y (nth A τ).toNat ≤ τ ∧ ∀ k back d e, Trip m A k back d e → d ≤ τ → T < e → nth y ((nth m.roads k).src back).toNat + walkT m k back 6 9 12 ≤ e := by
  intro τ h1
  obtain ⟨n, rfl⟩ : ∃ n, τ = T + n := ⟨τ - T, by omega⟩
  clear h1
  induction n with
  | zero => intro _; exact ⟨hT, ho⟩
  | succ n ih =>
    intro h2
    obtain ⟨i1, i2⟩ := ih (by omega)
    have now : nth y (nth A (T + n + 1)).toNat ≤ ((T + n + 1 : Nat) : Int) := by
      rcases tr (T + n) (by omega) with h | ⟨k, back, d, h⟩
      · rw [h]; omega
      · obtain ⟨p1, p2, p3, p4, p5, p6⟩ := h
        have s := i2 k back d _ ⟨p1, p2, p3, p4, p5, p6⟩ (by omega) (by omega)
        have q := cl k p1 back (by rw [← p5]; exact hin _ (by omega) h2) p2 (by omega) (by omega)
        rw [p5]
        omega
    refine ⟨now, fun k back d e h hd he => ?_⟩
    by_cases c : d ≤ T + n
    · exact i2 k back d e h c he
    · obtain ⟨p1, p2, p3, p4, p5, p6⟩ := h
      have := p4 d (Nat.le_refl _) (by omega)
      have dd : d = T + n + 1 := by omega
      rw [← dd, this] at now
      omega
/-- The walker is where they can be, from some time on. -/
def WkInv (m : Mine) (A : List Int) (w : Wh) : Prop := (∀ τ : Nat, w.time ≤ τ → τ ≤ 400 → nth w.frm (nth A τ).toNat ≤ τ) ∧ ∀ k back d e, Trip m A k back d e → w.time < e → nth w.frm ((nth m.roads k).src back).toNat + walkT m k back 6 9 12 ≤ e
theorem inv_of {m : Mine} {A : List Int} (hA : A.length = 401) (tr : Trace m A) {t : Int} {y : List Int} (cl : clW m t none y) {T : Nat} (hT4 : T ≤ 400) (ht : t ≤ T) (hT : nth y (nth A T).toNat ≤ T)
    (ho : ∀ k back d e, Trip m A k back d e → d ≤ T → T < e → nth y ((nth m.roads k).src back).toNat + walkT m k back 6 9 12 ≤ e) {b : Int} (hb : T ≤ b) : WkInv m A ⟨b, y⟩ := by
  have w := walk_on hA tr cl (U := 400) (by omega) ht hT ho (fun _ _ _ => rfl)
  refine ⟨fun τ h1 h2 => (w τ (by simp only at h1; omega) h2).1, fun k back d e h he => ?_⟩
  obtain ⟨p1, p2, p3, p4, p5, p6⟩ := h
  simp only at he ⊢
  by_cases c : T ≤ d
  · exact (w d c (by omega)).2 k back d e ⟨p1, p2, p3, p4, p5, p6⟩ (Nat.le_refl _) (by omega)
  · exact (w T (Nat.le_refl _) hT4).2 k back d e ⟨p1, p2, p3, p4, p5, p6⟩ (by omega) (by omega)
theorem start_inv {m : Mine} (h : m.ok) {A : List Int} (hA : A.length = 401) (tr : Trace m A) {p : Int} (p0 : 0 ≤ p) (p9 : p < m.places.length) (h0 : nth A 0 = p) : WkInv m A (startF m p 0).1 := by
  obtain ⟨se, sv⟩ := start_valid h p0 p9 (t := 0) ⟨by omega, by omega⟩
  rw [se] at sv ⊢
  have ln : ((neverL m.places.length).set p.toNat 0).length = m.places.length := by simp
  have bn : bnd ((neverL m.places.length).set p.toNat 0) := bnd_set (fun x hx => plT_bnd (neverL_pl _ x hx)) (by omega) (by omega)
  have le := closeF_le h (t := 0) (into := none) ln bn p.toNat
  rw [nth_set (by rw [neverL_len]; omega), if_pos rfl] at le
  refine inv_of hA tr (validB_cl h sv) (T := 0) (by omega) (Int.le_refl _) (by rw [h0]; exact le) (fun k back d e t hd he => ?_) (Int.le_refl _)
  obtain ⟨p1, p2, p3, p4, p5, p6⟩ := t
  have := p4 0 (by omega) he
  rw [← this, h0]
  show nth (closeF m 0 none ((neverL m.places.length).set p.toNat 0)) p.toNat + walkT m k back 6 9 12 ≤ e
  omega
theorem seeN_any (w : Wh) (l : List Int) (b : Int) (n : Nat) : ∀ k, k ≤ l.length → ∀ j, j < k → nth w.frm (nth l j).toNat ≤ b → (seeN w l b n k).2 = true
  | 0, _, j, hj, _ => by omega
  | k + 1, hk, j, hj, h => by
    simp only [seeN, seeStep]
    by_cases c : j = k
    · subst c; rw [if_pos h]
    · have ih := seeN_any w l b n k (by omega) j (by omega) h
      split
      · rfl
      · exact ih
theorem see_inv {m : Mine} (h : m.ok) {A : List Int} (hA : A.length = 401) (tr : Trace m A) (hR : ∀ x ∈ A, 0 ≤ x ∧ x < m.places.length) {w : Wh} (hv : validB m w = true) (wi : WkInv m A w) {l : List Int} {a b : Int} {look : Nat} (hl : look ≤ 400) (hin : nth A look ∈ l) (ha : a ≤ look) (hb : look ≤ b) (as : askedF m w l a b = 0) :
    ((seeF m w l a b).2 = 0 ∧ WkInv m A (seeF m w l a b).1 ∧ validB m (seeF m w l a b).1 = true ∧ (seeF m w l a b).1.time = b) ∨ seeF m w l a b = (w, 42) := by
  obtain ⟨v1, v2, v3, -⟩ := validB_spec hv
  obtain ⟨-, -, hs, ia, ib, hab⟩ := askedF_0 as
  have ms := setB_memW hs
  by_cases c1 : a < w.time
  · right; unfold seeF; rw [if_neg (by simpa using as), if_pos c1]
  · have r := ms _ hin
    have now := wi.1 look (by omega) hl
    have sn := seeN_nth (w := w) (b := b) ms _ (Nat.le_refl _) (nth A look).toNat (by omega)
    have hin2 : (((nth A look).toNat : Nat) : Int) ∈ l.take l.length := by
      rw [List.take_length, show (((nth A look).toNat : Nat) : Int) = nth A look by omega]; exact hin
    rw [if_pos ⟨hin2, by omega⟩] at sn
    rcases see_cases h hv l a b with ⟨e, c0, ha2, c2, hv2⟩ | ⟨e, e2⟩
    · left
      have pl := seeN_pl (b := b) ms v3 v1
      have bn : bnd (seeN w l b m.places.length l.length).1 := fun x hx => plT_bnd (pl x hx)
      have le := closeF_le h (t := a) (into := none) (seeN_len ..) bn (nth A look).toNat
      have cl := closeF_cl h (t := a) (into := none) (seeN_len w l b m.places.length l.length) bn
      rw [e] at hv2 ⊢
      refine ⟨rfl, inv_of hA tr cl (T := look) hl ha (by omega) (fun k back d e t hd he => ?_) hb, hv2, rfl⟩
      have s := t.2.2.2.1 look hd he
      have := wi.2 k back d e t (by omega)
      rw [← s] at this ⊢
      omega
    · exfalso
      have c2 : (seeN w l b m.places.length l.length).2 = true := by
        obtain ⟨j, hj⟩ := List.mem_iff_getElem?.1 hin
        exact seeN_any w l b _ _ (Nat.le_refl _) j (List.getElem?_eq_some_iff.1 hj).1 (by rw [nth_eq hj]; omega)
      unfold seeF at e2
      rw [if_neg (by simpa using as), if_neg c1, if_pos c2] at e2
      simp at e2
theorem abs_inv {m : Mine} (h : m.ok) {A : List Int} (hA : A.length = 401) (tr : Trace m A) (hR : ∀ x ∈ A, 0 ≤ x ∧ x < m.places.length) {w : Wh} (hv : validB m w = true) (wi : WkInv m A w) {l : List Int} {a b bl g : Int} (hb0 : 0 ≤ a) (hb4 : b ≤ 400) (hbl : g ≤ bl) (hg : ∀ u v : Nat, a ≤ u → v ≤ b + 1 → u ≤ v → (∀ τ, u ≤ τ → τ < v → nth A τ ∈ l) → (v : Int) - u ≤ g) (as : askedF m w l a b = 0) (ibl : inT bl) :
    ((absF m w l a b bl).2 = 0 ∧ WkInv m A (absF m w l a b bl).1 ∧ validB m (absF m w l a b bl).1 = true ∧ (absF m w l a b bl).1.time ≤ max b w.time ∧ w.time ≤ b) ∨ absF m w l a b bl = (w, 42) := by
  obtain ⟨v1, v2, v3, -⟩ := validB_spec hv
  obtain ⟨-, -, hs, ia, ib, hab⟩ := askedF_0 as
  have ms := setB_memW hs
  by_cases c2 : b < w.time
  · right; unfold absF; rw [if_neg (by simpa using as), if_neg (fun x => x ibl), if_pos c2]
  · left
    by_cases c3 : b - max a w.time ≤ bl
    · have e : absF m w l a b bl = (w, 0) := by unfold absF; rw [if_neg (by simpa using as), if_neg (fun x => x ibl), if_neg c2, if_pos c3]
      rw [e]; exact ⟨rfl, wi, hv, by simp only; omega, by omega⟩
    · have e : absF m w l a b bl = (⟨b, closeF m b none (closeF m (b - bl) (some l) (absN w.frm l l.length))⟩, 0) := by unfold absF; rw [if_neg (by simpa using as), if_neg (fun x => x ibl), if_neg c2, if_neg c3]
      have hv2 := abs_valid h hv l a b bl
      rw [e] at hv2 ⊢
      unfold inT at ibl v2
      have bw : bnd w.frm := fun x hx => plT_bnd (v3 x hx)
      have b0 : bnd (absN w.frm l l.length) := absN_bnd bw l _
      have l0 : (absN w.frm l l.length).length = m.places.length := by rw [absN_len]; exact v1
      have lb := closeF_lb h (t := b - bl) (into := some l) l0 b0
      have le1 := closeF_le h (t := b - bl) (into := some l) l0 b0
      have le2 := closeF_le h (t := b) (into := none) lb.1 lb.2
      have cl1 := closeF_cl h (t := b - bl) (into := some l) l0 b0
      have cl2 := closeF_cl h (t := b) (into := none) lb.1 lb.2
      have out : ∀ x : Int, 0 ≤ x → x ∉ l → nth (closeF m (b - bl) (some l) (absN w.frm l l.length)) x.toNat ≤ nth w.frm x.toNat := by
        intro x hx hn
        have := le1 x.toNat
        rw [absN_nth (fun p hp => by have := ms p hp; omega) _ (Nat.le_refl _), if_neg] at this
        · exact this
        · rw [List.take_length, show ((x.toNat : Nat) : Int) = x by omega]; exact hn
      -- the last time that they were elsewhere
      have ex : ∀ n : Nat, (n : Int) ≤ b - max a w.time → (∃ σ : Nat, (σ : Int) ≤ b ∧ b - n ≤ σ ∧ nth A σ ∉ l ∧ ∀ τ : Nat, σ < τ → (τ : Int) ≤ b → nth A τ ∈ l) ∨ ∀ τ : Nat, b - n ≤ τ → (τ : Int) ≤ b → nth A τ ∈ l := by
        intro n
        induction n with
        | zero =>
          intro _
          by_cases c : nth A b.toNat ∈ l
          · right; intro τ h1 h2; rw [show τ = b.toNat by omega]; exact c
          · left; exact ⟨b.toNat, by omega, by omega, c, fun τ h1 h2 => by omega⟩
        | succ n ih =>
          intro hn
          rcases ih (by omega) with ⟨σ, s1, s2, s3, s4⟩ | al
          · left; exact ⟨σ, s1, by omega, s3, s4⟩
          · by_cases c : nth A (b - (n + 1)).toNat ∈ l
            · right
              intro τ h1 h2
              by_cases q : b - n ≤ τ
              · exact al τ q h2
              · rw [show τ = (b - (n + 1)).toNat by omega]; exact c
            · left; exact ⟨(b - (n + 1)).toNat, by omega, by omega, c, fun τ h1 h2 => al τ (by omega) h2⟩
      obtain ⟨σ, s1, s2, s3, s4⟩ : ∃ σ : Nat, (σ : Int) ≤ b ∧ max a w.time ≤ σ ∧ nth A σ ∉ l ∧ ∀ τ : Nat, σ < τ → (τ : Int) ≤ b → nth A τ ∈ l := by
        rcases ex (b - max a w.time).toNat (by omega) with ⟨σ, s1, s2, s3, s4⟩ | al
        · exact ⟨σ, s1, by omega, s3, s4⟩
        · exfalso
          have := hg (max a w.time).toNat (b + 1).toNat (by omega) (by omega) (by omega) (fun τ h1 h2 => al τ (by omega) (by omega))
          omega
      have run := hg (σ + 1) (b + 1).toNat (by omega) (by omega) (by omega) (fun τ h1 h2 => s4 τ (by omega) (by omega))
      have hσ := wi.1 σ (by omega) (by omega)
      have rσ : 0 ≤ nth A σ := (hR _ (nth_mem (by omega))).1
      have o1 := out _ rσ s3
      have w1 := walk_on hA tr cl1 (T := σ) (U := b.toNat) (by omega) (by omega) (by omega) (fun k back d e t hd he => by
        have s := t.2.2.2.1 σ hd he
        have := wi.2 k back d e t (by omega)
        rw [← s] at this ⊢
        omega) (fun τ h1 h2 => by
          have := s4 τ h1 (by omega)
          simpa [inOK] using this) b.toNat (by omega) (Nat.le_refl _)
      have e2 := le2 (nth A b.toNat).toNat
      refine ⟨rfl, inv_of hA tr cl2 (T := b.toNat) (by omega) (by omega) (by omega) (fun k back d e t hd he => ?_) (by omega), hv2, by simp only; omega, by omega⟩
      have := w1.2 k back d e t hd (by omega)
      have := le2 ((nth m.roads k).src back).toNat
      omega
end Go.Ev

/- Whoever walks is never lost: the longest stay. -/
namespace Go.Ev
open Go
variable [Lib] [Has1] [Has2] [Has3] [Has4] [Has5] [Has6] [Has7] [Has8] [Has9]

theorem setB_snoc {l : List Int} {n : Nat} (h : setB l n = true) : setB l ((n + 1 : Nat) : Int) = true ∧ setB (l ++ [(n : Int)]) ((n + 1 : Nat) : Int) = true := by
  simp only [setB, List.all_eq_true, List.mem_range, decide_eq_true_eq] at h ⊢
  refine ⟨fun j hj => ?_, fun j hj => ?_⟩
  · obtain ⟨a, b, c⟩ := h j hj; exact ⟨a, by omega, c⟩
  · by_cases c : j < l.length
    · obtain ⟨a, b, c⟩ := h j c
      rw [nth_snocL _ _ (by omega)]
      refine ⟨a, by omega, fun hj => ?_⟩
      rw [nth_snocL _ _ (by omega)]; exact c hj
    · have e : j = l.length := by simp at hj; omega
      subst e
      rw [nth_snocR]
      refine ⟨by omega, by omega, fun hj => ?_⟩
      rw [nth_snocL _ _ (by omega)]
      exact (h (l.length - 1) (by omega)).2.1
theorem someN_setB (d : Dice) : ∀ n : Nat, setB (d.someN n).1 n = true
  | 0 => rfl
  | n + 1 => by
    have ih := someN_setB d n
    have := setB_snoc ih
    simp only [Dice.someN]
    split
    · exact this.2
    · exact this.1
theorem someS_x {d : Dice} (hd : d.light) (n : Nat) (hn : n ≤ 1000000) :
    ∃ (l : List Int) (e : Dice), CALL 0 N.made_Dice_Some [.bp 0 0, I n] [d.obj] = some (.t (tL l), [e.obj]) ∧ e.light ∧ l.length ≤ n ∧ setB l n = true :=
  ⟨_, _, some_ok d n hn hd, Dice.someN_light hd n, d.someN_len n, someN_setB d n⟩

/-- The runs up to a time, and the longest. -/
def Runs (A l : List Int) (a : Int) (t : Nat) (stay g : Int) : Prop :=
  (∀ u : Nat, a ≤ u → u ≤ t → (∀ τ, u ≤ τ → τ < t → nth A τ ∈ l) → (t : Int) - u ≤ stay) ∧ (∀ u v : Nat, a ≤ u → v ≤ t → u ≤ v → (∀ τ, u ≤ τ → τ < v → nth A τ ∈ l) → (v : Int) - u ≤ g)
theorem runs_next {A l : List Int} {a : Int} {t : Nat} {stay g : Int} (h : Runs A l a t stay g) (h0 : 0 ≤ stay) : Runs A l a (t + 1) (if nth A t ∈ l then stay + 1 else 0) (max g (if nth A t ∈ l then stay + 1 else 0)) := by
  obtain ⟨h1, h2⟩ := h
  have n1 : ∀ u : Nat, a ≤ u → u ≤ t + 1 → (∀ τ, u ≤ τ → τ < t + 1 → nth A τ ∈ l) → ((t + 1 : Nat) : Int) - u ≤ (if nth A t ∈ l then stay + 1 else 0) := by
    intro u hu hu2 hr
    by_cases c : u ≤ t
    · rw [if_pos (hr t c (by omega))]
      have := h1 u hu c (fun τ x y => hr τ x (by omega))
      omega
    · split <;> omega
  refine ⟨n1, fun u v hu hv huv hr => ?_⟩
  by_cases c : v ≤ t
  · have := h2 u v hu c huv hr; omega
  · have e : v = t + 1 := by omega
    subst e
    have := n1 u hu huv hr
    omega

abbrev ptS (o1 o2 ox o3 : Obj) (R : List Obj) (A l : List Int) (next a stay g s : Int) : St := ⟨[.und, .und, .und, .bp 0 0, .bp 1 0, .und, .t (tL A), .bp 3 0, .und, .und, .t (tL l), I next, .und, .und, .und, .und, .und, I a, I stay, I g, I s, .und, .und], o1 :: o2 :: ox :: o3 :: R⟩
theorem pt_stay (o1 o2 ox o3 : Obj) (R : List Obj) (hR : R = [] ∨ ∃ x, R = [x]) (hO : heapOld (o1 :: o2 :: ox :: o3 :: R).length (o1 :: o2 :: ox :: o3 :: R) = true) {A l : List Int} (hA : A.length = 401) (hl : l.length ≤ 64) {a next : Nat} (ha : a ≤ next) (hn : next ≤ 400) :
    ∃ stay g : Int, (∀ z0 z1 z2 z5 z8 z9 z12 z13 z14 z15 z16 z21 z22 : D, exS CALL K.law25_PlacesTrue_l2 ⟨[z0, z1, z2, .bp 0 0, .bp 1 0, z5, .t (tL A), .bp 3 0, z8, z9, .t (tL l), I next, z12, z13, z14, z15, z16, I a, I 0, I 0, I a, z21, z22], o1 :: o2 :: ox :: o3 :: R⟩ = some (.exit 2, ptS o1 o2 ox o3 R A l next a stay g (next + 1))) ∧
      Runs A l a (next + 1) stay g ∧ 0 ≤ g ∧ g ≤ 401 := by
  have key : ∀ z0 z1 z2 z5 z8 z9 z12 z13 z14 z15 z16 z21 z22 : D, ∃ q, exS CALL K.law25_PlacesTrue_l2 ⟨[z0, z1, z2, .bp 0 0, .bp 1 0, z5, .t (tL A), .bp 3 0, z8, z9, .t (tL l), I next, z12, z13, z14, z15, z16, I a, I 0, I 0, I a, z21, z22], o1 :: o2 :: ox :: o3 :: R⟩ = some q ∧
      ∃ stay g : Int, q = (.exit 2, ptS o1 o2 ox o3 R A l next a stay g (next + 1)) ∧ Runs A l a (next + 1) stay g ∧ 0 ≤ g ∧ g ≤ 401 := by
    intro z0 z1 z2 z5 z8 z9 z12 z13 z14 z15 z16 z21 z22
    refine loop_x (fun j st => ∃ stay g : Int, st = ptS o1 o2 ox o3 R A l next a stay g ((a : Int) + j) ∧ Runs A l a (a + j) stay g ∧ (0 ≤ stay ∧ stay ≤ j) ∧ (0 ≤ g ∧ g ≤ j)) (next + 1 - a) _ ?_ ?_ ?_
    · exact ⟨0, 0, by rw [show (a : Int) + ((0 : Nat) : Int) = a by omega]; rfl, ⟨fun u h1 h2 _ => by omega, fun u v h1 h2 h3 _ => by omega⟩, by omega, by omega⟩
    · rintro j st hj ⟨stay, g, rfl, ru, s0, g0⟩
      have rn := runs_next ru s0.1
      left
      refine ⟨ptS o1 o2 ox o3 R A l next a (if nth A (a + j) ∈ l then stay + 1 else 0) (max g (if nth A (a + j) ∈ l then stay + 1 else 0)) ((a : Int) + ((j + 1 : Nat) : Int)), ?_, _, _, rfl, rn, ?_, ?_⟩
      · have ho := has_ok l (nth A (a + j)) (by omega)
        have hx : (a : Int) + j = ((a + j : Nat) : Int) := by omega
        have hy : (a : Int) + ((j + 1 : Nat) : Int) = ((a + j : Nat) : Int) + 1 := by omega
        simp only [ptS]
        rw [hx, hy]
        generalize a + j = t at *
        have t9 : t ≤ 400 := by omega
        clear rn ru
        rcases hR with rfl | ⟨x, rfl⟩ <;> simp only [List.length_cons, List.length_nil, Nat.reduceAdd] at hO
        · by_cases c : nth A t ∈ l
          · simp only [c, decide_true, ↓reduceIte] at ho ⊢
            simp (disch := omega) only [go_sem, K.law25_PlacesTrue_l2b, ↓reduceIte, ho, c, hO, Nat.reduceAdd, Nat.reduceSub]
          · simp only [c, decide_false, ↓reduceIte] at ho ⊢
            simp (disch := omega) only [go_sem, K.law25_PlacesTrue_l2b, ↓reduceIte, ho, c, hO, Nat.reduceAdd, Nat.reduceSub]
        · by_cases c : nth A t ∈ l
          · simp only [c, decide_true, ↓reduceIte] at ho ⊢
            simp (disch := omega) only [go_sem, K.law25_PlacesTrue_l2b, ↓reduceIte, ho, c, hO, Nat.reduceAdd, Nat.reduceSub]
          · simp only [c, decide_false, ↓reduceIte] at ho ⊢
            simp (disch := omega) only [go_sem, K.law25_PlacesTrue_l2b, ↓reduceIte, ho, c, hO, Nat.reduceAdd, Nat.reduceSub]
      · split <;> omega
      · split <;> omega
    · rintro st ⟨stay, g, rfl, ru, s0, g0⟩
      have hx : (a : Int) + ((next + 1 - a : Nat) : Int) = (next : Int) + 1 := by omega
      have hy : a + (next + 1 - a) = next + 1 := by omega
      rw [hy] at ru
      refine ⟨(.exit 2, ptS o1 o2 ox o3 R A l next a stay g (next + 1)), ?_, by simp, stay, g, rfl, ru, by omega, by omega⟩
      rw [hx]
      clear ru hx hy
      rcases hR with rfl | ⟨x, rfl⟩
      · simp (disch := omega) only [go_sem, K.law25_PlacesTrue_l2b, ↓reduceIte, Nat.reduceAdd, Nat.reduceSub]
      · simp (disch := omega) only [go_sem, K.law25_PlacesTrue_l2b, ↓reduceIte, Nat.reduceAdd, Nat.reduceSub]
  obtain ⟨q, hq, stay, g, rfl, h⟩ := key .und .und .und .und .und .und .und .und .und .und .und .und .und
  exact ⟨stay, g, fun _ _ _ _ _ _ _ _ _ _ _ _ _ => hq, h⟩
end Go.Ev

/- PlacesTrue's law. -/
namespace Go.Ev
open Go
variable [Lib] [Has1] [Has2] [Has3] [Has4] [Has5] [Has6] [Has7] [Has8] [Has9]

theorem asked_0 {m : Mine} {w : Wh} {l : List Int} {a b : Int} (hv : validB m w = true) (hl : l ≠ []) (hs : setB l m.places.length = true) (ha : inT a) (hb : inT b) (hab : a ≤ b) : askedF m w l a b = 0 := by
  unfold askedF; rw [if_pos ⟨hv, hl, hs⟩, if_pos ⟨ha, hb, hab⟩]
theorem poss_has {w : Wh} {x t : Int} (h0 : 0 ≤ x) (hl : x < w.frm.length) (h : nth w.frm x.toNat ≤ t) : x ∈ possF w t := by
  simp only [possF, whereF, List.mem_map, List.mem_filter, List.mem_range, decide_eq_true_eq]
  exact ⟨x.toNat, ⟨by omega, h⟩, by omega⟩
abbrev ptL (eu e : Dice) (m : Mine) (A : List Int) (w : Wh) (now : Int) : St := ⟨[.und, .und, .und, .bp 0 0, .bp 1 0, .und, .t (tL A), .bp 3 0, .und, I now, .und, .und, .und, .und, .und, .und, .und, .und, .und, .und, .und, .und, .und], [e.obj, .box (mineCells m), eu.obj, .box [I w.time, .t (tL w.frm)]]⟩
def ptP (eu : Dice) (m : Mine) (A : List Int) (j : Nat) (st : St) : Prop := ∃ (e : Dice) (w : Wh) (now : Nat), st = ptL eu e m A w now ∧ e.light ∧ validB m w = true ∧ WkInv m A w ∧ w.time ≤ now ∧ j ≤ now ∧ now ≤ 400
def ptQ (eu : Dice) (m : Mine) (A : List Int) (q : Ex × St) : Prop := ∃ (e : Dice) (w : Wh) (now nx : Int) (l : List Int), q = (.exit 0, ⟨[.und, .und, .und, .bp 0 0, .bp 1 0, .und, .t (tL A), .bp 3 0, .und, I now, .t (tL l), I nx, .und, .und, .und, .und, .und, .und, .und, .und, .und, .und, .und], [e.obj, .box (mineCells m), eu.obj, .box [I w.time, .t (tL w.frm)]]⟩)
abbrev ptDead : List Nat := [0, 1, 2, 5, 8, 10, 11, 12, 13, 14, 15, 16, 17, 18, 19, 20, 21, 22]
theorem pt_round {eu : Dice} {m : Mine} (hm : m.ok) (h1 : 1 ≤ m.places.length) {A : List Int} (hA : A.length = 401) (tr : Trace m A) (hR : ∀ x ∈ A, 0 ≤ x ∧ x < m.places.length) {j : Nat} {st : St} (hP : ptP eu m A j st) :
    (∃ st', roundC true ptDead st.H.length (exS CALL K.law25_PlacesTrue_l1b st) = some st' ∧ ptP eu m A (j + 1) st') ∨ ∃ q, exS CALL K.law25_PlacesTrue_l1b st = some q ∧ q.1 ≠ .normal ∧ ptQ eu m A q := by
  obtain ⟨e, w, now, rfl, el, hv, wi, ht, hj, hn⟩ := hP
  have np := hm.np
  obtain ⟨v1, v2, v3, -⟩ := validB_spec hv
  unfold inT at v2
  have rn := hR _ (nth_mem (l := A) (j := now) (by omega))
  have po := plposs_ok w now (by omega)
  have pl : (possF w now).length ≤ 64 := by
    have := whereF_len w.frm.length (fun k => decide (nth w.frm k ≤ now))
    unfold possF; omega
  have ha := has_ok (possF w now) (nth A now) (by omega)
  rw [decide_eq_true (poss_has rn.1 (by omega) (wi.1 now ht hn))] at ha
  generalize possF w now = pz at *
  obtain ⟨l, e1, so, l1, sl, ss⟩ := someS_x el m.places.length (by omega)
  obtain ⟨v, e2, vo, l2, v0, v9⟩ := next_x l1 60 (by omega) (by omega)
  by_cases c : 400 < (now : Int) + 1 + v
  · right
    refine ⟨(.exit 0, ⟨[.und, .und, .und, .bp 0 0, .bp 1 0, .und, .t (tL A), .bp 3 0, .und, I now, .t (tL l), I 401, .und, .und, .und, .und, .und, .und, .und, .und, .und, .und, .und], [e2.obj, .box (mineCells m), eu.obj, .box [I w.time, .t (tL w.frm)]]⟩), ?_, by simp, e2, w, now, 401, l, rfl⟩
    have mn : min ((now : Int) + 1 + v) 401 = 401 := by omega
    clear wi tr hR v3 ss
    obtain ⟨places, roads⟩ := m
    obtain ⟨time, frm⟩ := w
    simp only [mineCells, ptL] at *
    simp (disch := omega) only [go_sem, K.law25_PlacesTrue_l1b, ↓reduceIte, po, ha, so, vo, mn, Nat.reduceAdd, Nat.reduceSub]
  · left
    have mn : min ((now : Int) + 1 + v) 401 = (now : Int) + 1 + v := by omega
    obtain ⟨next, hx⟩ := Int.eq_ofNat_of_zero_le (show 0 ≤ (now : Int) + 1 + v by omega)
    rw [hx] at mn
    obtain ⟨y, e3, yo, l3, y0, y9⟩ := next_x l2 3 (by omega) (by omega)

    by_cases cl : l = []
    · subst cl
      obtain ⟨u, f1, uo, q1, u0, u9⟩ := next_x l3 120 (by omega) (by omega)
      obtain ⟨fa, hfa⟩ := Int.eq_ofNat_of_zero_le (show 0 ≤ max 0 ((next : Int) - u) by omega)
      obtain ⟨stay, g, lp, ru, g0, g9⟩ := pt_stay f1.obj (.box (mineCells m)) eu.obj (.box [I w.time, .t (tL w.frm)]) [] (by simp) (by simp only [go_sem, mineCells, Dice.obj, List.length_cons, List.length_nil, Nat.reduceAdd]) hA (l := ([] : List Int)) (by simp only [List.length_nil]; omega) (a := fa) (next := next) (by omega) (by omega)
      refine ⟨ptL eu f1 m A w next, ?_, f1, w, next, rfl, q1, hv, wi, by omega, by omega, by omega⟩
      clear wi tr hR v3 ss hv ru
      obtain ⟨places, roads⟩ := m
      obtain ⟨time, frm⟩ := w
      simp only [mineCells, ptL, ptS] at *
      simp (disch := omega) only [go_sem, K.law25_PlacesTrue_l1b, ↓reduceIte, po, ha, so, vo, hx, mn, yo, uo, hfa, lp, List.length_nil, Nat.reduceAdd, Nat.reduceSub]
    · have ln : 0 < l.length := List.length_pos_iff.2 cl
      by_cases c1 : 0 ≤ (next : Int) - y
      · obtain ⟨lk, hlk⟩ := Int.eq_ofNat_of_zero_le c1
        have hl := has_ok l (nth A lk) (by omega)
        have lk9 : lk ≤ 400 := by omega
        by_cases c2 : nth A lk ∈ l
        · rw [decide_eq_true c2] at hl
          obtain ⟨x1, e4, xo, l4, x10, x19⟩ := next_x l3 4 (by omega) (by omega)
          obtain ⟨x2, e5, xp, l5, x20, x29⟩ := next_x l4 4 (by omega) (by omega)
          have se := psee_ok hm h1 w (by omega) l (by omega) (max 0 ((lk : Int) - x1)) (min (next : Int) (lk + x2))
          have si := see_inv hm hA tr hR hv wi (l := l) (a := max 0 ((lk : Int) - x1)) (b := min (next : Int) (lk + x2)) (look := lk) lk9 c2 (by omega) (by omega) (asked_0 hv cl ss (by unfold inT; omega) (by unfold inT; omega) (by omega))
          rcases si with ⟨s2, s3, s4, s5⟩ | s2
          · generalize seeF m w l (max 0 ((lk : Int) - x1)) (min (next : Int) (lk + x2)) = qs at *
            obtain ⟨⟨st, sf⟩, sr⟩ := qs
            simp only at s2 s3 s4 s5
            subst s2
            obtain ⟨t1, t2, t3, -⟩ := validB_spec s4
            simp only at t1
            obtain ⟨u, f1, uo, q1, u0, u9⟩ := next_x l5 120 (by omega) (by omega)
            obtain ⟨fa, hfa⟩ := Int.eq_ofNat_of_zero_le (show 0 ≤ max 0 ((next : Int) - u) by omega)
            obtain ⟨stay, g, lp, ru, g0, g9⟩ := pt_stay f1.obj (.box (mineCells m)) eu.obj (.box [I (Wh.mk st sf).time, .t (tL (Wh.mk st sf).frm)]) [.box [I st, .t (tL sf)]] (by simp) (by simp only [go_sem, mineCells, Dice.obj, List.length_cons, List.length_nil, Nat.reduceAdd]) hA (l := l) (by omega) (a := fa) (next := next) (by omega) (by omega)
            obtain ⟨z, f2, zo, q2, z0, z9⟩ := next_x q1 5 (by omega) (by omega)
            have ab := pabs_ok hm (Wh.mk st sf) (by simp only; omega) l (by omega) fa next (g + z)
            have ai := abs_inv hm hA tr hR s4 s3 (l := l) (a := fa) (b := next) (bl := g + z) (g := g) (by omega) (by omega) (by omega) (fun u v h1 h2 h3 h4 => ru.2 u v (by omega) (by omega) h3 h4) (asked_0 s4 cl ss (by unfold inT; omega) (by unfold inT; omega) (by omega)) (by unfold inT; omega)
            rcases ai with ⟨a2, a3, a4, a5, a6⟩ | a2
            · generalize absF m (Wh.mk st sf) l fa next (g + z) = qa at *
              obtain ⟨⟨qt, qf⟩, qr⟩ := qa
              simp only at a2 a3 a4 a5
              subst a2
              refine ⟨ptL eu f2 m A ⟨qt, qf⟩ next, ?_, f2, ⟨qt, qf⟩, next, rfl, q2, a4, a3, by simp only; omega, by omega, by omega⟩
              clear wi tr hR v3 ss hv a3 a4 ru
              obtain ⟨places, roads⟩ := m
              obtain ⟨time, frm⟩ := w
              simp only [mineCells, ptL, ptS] at *
              simp (disch := omega) only [go_sem, K.law25_PlacesTrue_l1b, ↓reduceIte, po, ha, so, vo, hx, mn, yo, uo, hfa, lp, zo, ab, hlk, hl, xo, xp, se, Nat.reduceAdd, Nat.reduceSub]
            · rw [a2] at ab
              refine ⟨ptL eu f2 m A (Wh.mk st sf) next, ?_, f2, (Wh.mk st sf), next, rfl, q2, s4, s3, by simp only; omega, by omega, by omega⟩
              clear wi tr hR v3 ss hv a2 ru
              obtain ⟨places, roads⟩ := m
              obtain ⟨time, frm⟩ := w
              simp only [mineCells, ptL, ptS] at *
              simp (disch := omega) only [go_sem, K.law25_PlacesTrue_l1b, ↓reduceIte, po, ha, so, vo, hx, mn, yo, uo, hfa, lp, zo, ab, hlk, hl, xo, xp, se, Nat.reduceAdd, Nat.reduceSub]
          · rw [s2] at se
            obtain ⟨u, f1, uo, q1, u0, u9⟩ := next_x l5 120 (by omega) (by omega)
            obtain ⟨fa, hfa⟩ := Int.eq_ofNat_of_zero_le (show 0 ≤ max 0 ((next : Int) - u) by omega)
            obtain ⟨stay, g, lp, ru, g0, g9⟩ := pt_stay f1.obj (.box (mineCells m)) eu.obj (.box [I w.time, .t (tL w.frm)]) [.box [I w.time, .t (tL w.frm)]] (by simp) (by simp only [go_sem, mineCells, Dice.obj, List.length_cons, List.length_nil, Nat.reduceAdd]) hA (l := l) (by omega) (a := fa) (next := next) (by omega) (by omega)
            obtain ⟨z, f2, zo, q2, z0, z9⟩ := next_x q1 5 (by omega) (by omega)
            have ab := pabs_ok hm w (by omega) l (by omega) fa next (g + z)
            have ai := abs_inv hm hA tr hR hv wi (l := l) (a := fa) (b := next) (bl := g + z) (g := g) (by omega) (by omega) (by omega) (fun u v h1 h2 h3 h4 => ru.2 u v (by omega) (by omega) h3 h4) (asked_0 hv cl ss (by unfold inT; omega) (by unfold inT; omega) (by omega)) (by unfold inT; omega)
            rcases ai with ⟨a2, a3, a4, a5, a6⟩ | a2
            · generalize absF m w l fa next (g + z) = qa at *
              obtain ⟨⟨qt, qf⟩, qr⟩ := qa
              simp only at a2 a3 a4 a5
              subst a2
              refine ⟨ptL eu f2 m A ⟨qt, qf⟩ next, ?_, f2, ⟨qt, qf⟩, next, rfl, q2, a4, a3, by simp only; omega, by omega, by omega⟩
              clear wi tr hR v3 ss hv a3 a4 ru
              obtain ⟨places, roads⟩ := m
              obtain ⟨time, frm⟩ := w
              simp only [mineCells, ptL, ptS] at *
              simp (disch := omega) only [go_sem, K.law25_PlacesTrue_l1b, ↓reduceIte, po, ha, so, vo, hx, mn, yo, uo, hfa, lp, zo, ab, hlk, hl, xo, xp, se, Nat.reduceAdd, Nat.reduceSub]
            · rw [a2] at ab
              refine ⟨ptL eu f2 m A w next, ?_, f2, w, next, rfl, q2, hv, wi, by omega, by omega, by omega⟩
              clear wi tr hR v3 ss hv a2 ru
              obtain ⟨places, roads⟩ := m
              obtain ⟨time, frm⟩ := w
              simp only [mineCells, ptL, ptS] at *
              simp (disch := omega) only [go_sem, K.law25_PlacesTrue_l1b, ↓reduceIte, po, ha, so, vo, hx, mn, yo, uo, hfa, lp, zo, ab, hlk, hl, xo, xp, se, Nat.reduceAdd, Nat.reduceSub]
        · rw [decide_eq_false c2] at hl
          obtain ⟨u, f1, uo, q1, u0, u9⟩ := next_x l3 120 (by omega) (by omega)
          obtain ⟨fa, hfa⟩ := Int.eq_ofNat_of_zero_le (show 0 ≤ max 0 ((next : Int) - u) by omega)
          obtain ⟨stay, g, lp, ru, g0, g9⟩ := pt_stay f1.obj (.box (mineCells m)) eu.obj (.box [I w.time, .t (tL w.frm)]) [] (by simp) (by simp only [go_sem, mineCells, Dice.obj, List.length_cons, List.length_nil, Nat.reduceAdd]) hA (l := l) (by omega) (a := fa) (next := next) (by omega) (by omega)
          obtain ⟨z, f2, zo, q2, z0, z9⟩ := next_x q1 5 (by omega) (by omega)
          have ab := pabs_ok hm w (by omega) l (by omega) fa next (g + z)
          have ai := abs_inv hm hA tr hR hv wi (l := l) (a := fa) (b := next) (bl := g + z) (g := g) (by omega) (by omega) (by omega) (fun u v h1 h2 h3 h4 => ru.2 u v (by omega) (by omega) h3 h4) (asked_0 hv cl ss (by unfold inT; omega) (by unfold inT; omega) (by omega)) (by unfold inT; omega)
          rcases ai with ⟨a2, a3, a4, a5, a6⟩ | a2
          · generalize absF m w l fa next (g + z) = qa at *
            obtain ⟨⟨qt, qf⟩, qr⟩ := qa
            simp only at a2 a3 a4 a5
            subst a2
            refine ⟨ptL eu f2 m A ⟨qt, qf⟩ next, ?_, f2, ⟨qt, qf⟩, next, rfl, q2, a4, a3, by simp only; omega, by omega, by omega⟩
            clear wi tr hR v3 ss hv a3 a4 ru
            obtain ⟨places, roads⟩ := m
            obtain ⟨time, frm⟩ := w
            simp only [mineCells, ptL, ptS] at *
            simp (disch := omega) only [go_sem, K.law25_PlacesTrue_l1b, ↓reduceIte, po, ha, so, vo, hx, mn, yo, uo, hfa, lp, zo, ab, hlk, hl, Nat.reduceAdd, Nat.reduceSub]
          · rw [a2] at ab
            refine ⟨ptL eu f2 m A w next, ?_, f2, w, next, rfl, q2, hv, wi, by omega, by omega, by omega⟩
            clear wi tr hR v3 ss hv a2 ru
            obtain ⟨places, roads⟩ := m
            obtain ⟨time, frm⟩ := w
            simp only [mineCells, ptL, ptS] at *
            simp (disch := omega) only [go_sem, K.law25_PlacesTrue_l1b, ↓reduceIte, po, ha, so, vo, hx, mn, yo, uo, hfa, lp, zo, ab, hlk, hl, Nat.reduceAdd, Nat.reduceSub]
      · have c1 : (next : Int) - y < 0 := by omega
        obtain ⟨u, f1, uo, q1, u0, u9⟩ := next_x l3 120 (by omega) (by omega)
        obtain ⟨fa, hfa⟩ := Int.eq_ofNat_of_zero_le (show 0 ≤ max 0 ((next : Int) - u) by omega)
        obtain ⟨stay, g, lp, ru, g0, g9⟩ := pt_stay f1.obj (.box (mineCells m)) eu.obj (.box [I w.time, .t (tL w.frm)]) [] (by simp) (by simp only [go_sem, mineCells, Dice.obj, List.length_cons, List.length_nil, Nat.reduceAdd]) hA (l := l) (by omega) (a := fa) (next := next) (by omega) (by omega)
        obtain ⟨z, f2, zo, q2, z0, z9⟩ := next_x q1 5 (by omega) (by omega)
        have ab := pabs_ok hm w (by omega) l (by omega) fa next (g + z)
        have ai := abs_inv hm hA tr hR hv wi (l := l) (a := fa) (b := next) (bl := g + z) (g := g) (by omega) (by omega) (by omega) (fun u v h1 h2 h3 h4 => ru.2 u v (by omega) (by omega) h3 h4) (asked_0 hv cl ss (by unfold inT; omega) (by unfold inT; omega) (by omega)) (by unfold inT; omega)
        rcases ai with ⟨a2, a3, a4, a5, a6⟩ | a2
        · generalize absF m w l fa next (g + z) = qa at *
          obtain ⟨⟨qt, qf⟩, qr⟩ := qa
          simp only at a2 a3 a4 a5
          subst a2
          refine ⟨ptL eu f2 m A ⟨qt, qf⟩ next, ?_, f2, ⟨qt, qf⟩, next, rfl, q2, a4, a3, by simp only; omega, by omega, by omega⟩
          clear wi tr hR v3 ss hv a3 a4 ru
          obtain ⟨places, roads⟩ := m
          obtain ⟨time, frm⟩ := w
          simp only [mineCells, ptL, ptS] at *
          simp (disch := omega) only [go_sem, K.law25_PlacesTrue_l1b, ↓reduceIte, po, ha, so, vo, hx, mn, yo, uo, hfa, lp, zo, ab, c1, Nat.reduceAdd, Nat.reduceSub]
        · rw [a2] at ab
          refine ⟨ptL eu f2 m A w next, ?_, f2, w, next, rfl, q2, hv, wi, by omega, by omega, by omega⟩
          clear wi tr hR v3 ss hv a2 ru
          obtain ⟨places, roads⟩ := m
          obtain ⟨time, frm⟩ := w
          simp only [mineCells, ptL, ptS] at *
          simp (disch := omega) only [go_sem, K.law25_PlacesTrue_l1b, ↓reduceIte, po, ha, so, vo, hx, mn, yo, uo, hfa, lp, zo, ab, c1, Nat.reduceAdd, Nat.reduceSub]
theorem pt_loop (eu : Dice) {m : Mine} (hm : m.ok) (h1 : 1 ≤ m.places.length) {A : List Int} (hA : A.length = 401) (tr : Trace m A) (hR : ∀ x ∈ A, 0 ≤ x ∧ x < m.places.length) {e2 : Dice} (l2 : e2.light) {w : Wh} (sv : validB m w = true) (si : WkInv m A w) (s3 : w.time ≤ 0) :
    ∀ z0 z1 z2 z5 z8 z10 z11 z12 z13 z14 z15 z16 z17 z18 z19 z20 z21 z22 : D, ∃ q, exS CALL K.law25_PlacesTrue_l1 ⟨[z0, z1, z2, .bp 0 0, .bp 1 0, z5, .t (tL A), .bp 3 0, z8, I 0, z10, z11, z12, z13, z14, z15, z16, z17, z18, z19, z20, z21, z22], [e2.obj, .box (mineCells m), eu.obj, .box [I w.time, .t (tL w.frm)]]⟩ = some q ∧ ptQ eu m A q := by
  intro z0 z1 z2 z5 z8 z10 z11 z12 z13 z14 z15 z16 z17 z18 z19 z20 z21 z22
  refine loop_x (ptP eu m A) 401 _ ?_ ?_ ?_
  · refine ⟨e2, w, 0, ?_, l2, sv, si, s3, Nat.le_refl _, by omega⟩
    rw [show ((0 : Nat) : Int) = 0 from rfl]
    simp (disch := omega) only [go_sem, ptL, ↓reduceIte, Nat.reduceAdd, Nat.reduceSub]
  · exact fun j st hj hP => pt_round hm h1 hA tr hR hP
  rintro st ⟨e, w, now, -, -, -, -, -, h1, h2⟩
  omega
theorem PlacesTrue_law (aw : CALL 0 N.law25_awake [] [] = some (B true, [])) (li lu : List Int) : CALL 0 N.law25_PlacesTrue [.t (tL li), .t (tL lu)] [] = some (B true, []) := by
  refine CALL_of K.t_law25_PlacesTrue rfl ?_
  have lo := light_ok li
  have lp := light_ok lu
  by_cases c : li.length ≤ 400
  · simp only [c, decide_true] at lo
    by_cases c2 : lu.length ≤ 400
    · simp only [c2, decide_true] at lp
      have ro := roll_x li
      have ru := roll_x lu
      have d0 : (Dice.mk li 0).light := c
      have d1 : (Dice.mk lu 0).light := c2
      generalize (Dice.mk li 0) = d at *
      generalize (Dice.mk lu 0) = du at *
      obtain ⟨m, e1, mo, l1, hm, p1, p2, r1, r2⟩ := mine_x d0
      obtain ⟨p, e2, po, l2, p0, p9⟩ := next_x l1 m.places.length (by omega) (by omega)
      obtain ⟨A, eu, wo, hA, hA0, hR, tr⟩ := walker_x d1 hm r1 p0 p9
      have a1 := pstart_ok hm (by omega) p 0
      obtain ⟨se, sv⟩ := start_valid hm p0 p9 (t := 0) ⟨by omega, by omega⟩
      have si := start_inv hm hA tr p0 p9 hA0
      have s2 : (startF m p 0).2 = 0 := by rw [se]
      have s3 : (startF m p 0).1.time = 0 := by rw [se]
      rw [s2] at a1
      generalize (startF m p 0).1 = w at *
      have lp2 := pt_loop eu hm (by omega) hA tr hR l2 sv si (by omega)
      obtain ⟨q, hq, e3, w3, now, nx, l, rfl⟩ := lp2 (.t (tL li)) (.t (tL lu)) (B false) (I p) (I 0) .und .und .und .und .und .und .und .und .und .und .und .und .und
      clear lp2 si sv hR tr se s2
      obtain ⟨places, roads⟩ := m
      obtain ⟨time, frm⟩ := w
      simp only at s3
      subst s3
      simp only [mineCells] at *
      simp (disch := omega) only [go_sem, K.law25_PlacesTrue, ↓reduceIte, lo, lp, ro, ru, mo, po, wo, a1, hq, aw, Nat.reduceAdd, Nat.reduceSub]
    · simp only [c2, decide_false] at lp
      simp (disch := omega) only [go_sem, K.law25_PlacesTrue, ↓reduceIte, lo, lp, aw, Nat.reduceAdd, Nat.reduceSub]
  · simp only [c, decide_false] at lo
    simp (disch := omega) only [go_sem, K.law25_PlacesTrue, ↓reduceIte, lo, aw, Nat.reduceAdd, Nat.reduceSub]
end Go.Ev

