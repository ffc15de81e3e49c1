/- Parts of the proof: see the text that holds the theorem. -/
import Derived.Test.YtgeclpmbbaimgaaZ4
set_option linter.all false
set_option maxRecDepth 100000
/- MADE BY PROGRAM (lib.py): the compact code of functions. -/
namespace Go.Ev.K
open Go.Ev
def places_Absent_l1b : C := (.its  [{ o := .bin .lss (.v 16) (.v 15) }] [] 0 .skip (.exit 1) (.seq (.blk 2 (.seq (.reg [{ o := .ia (.v 14) (.v 16) 1 }, { o := .ld (.l 0) 1 false }, { o := .mv (.l 0), d := some 13 }] []) (.reg [{ o := .mv (.v 12) }, { o := .mv (.v 13) }, { o := .ia (.l 1) (.l 0) 1 }, { o := .st (.l 0) (.i 1099511627776) 1 [] }] []))) (.reg [{ o := .bin .add (.v 16) (.i 1) }, { o := .mv (.l 0), d := some 16 }] [])))
def places_Absent_l1 : C := .loop true [0, 1, 2, 3, 7, 10, 11, 13] K.places_Absent_l1b
/-- /places.Absent -/
def places_Absent : Fn := { nargs := 6, vars := [0, 1, 2, 3, 4, 5, 6, 7, 8, 12, 13, 14, 15, 17, 53, 54, 55], body := (.seq (.reg [{ o := .bx (.v 0) 2, d := some 6 }, { o := .bx (.v 1) 2, d := some 7 }, { o := .bx (.v 2) 1, d := some 8 }, { o := .al [.t (.int .i64 (0)), .nil] [], d := some 9 }, { o := .mv (.i 0), d := some 10 }] []) (.seq (.seq (.reg [{ o := .ld (.v 6) 2 true }, { o := .ld (.v 7) 2 true }, { o := .ld (.v 8) 1 false }, { o := .mv (.v 3) }, { o := .mv (.v 4) }, { o := .ca N.places_given 0 [] [.l 4, .l 3, .l 2, .l 1, .l 0] }, { o := .mv (.l 0), d := some 11 }] []) (.blk 0 (.ite [{ o := .mv (.v 11) }, { o := .bin .neq (.l 0) (.i 0) }, { o := .mv (.l 0) }] [] 0 (.seq (.reg [{ o := .ld (.v 7) 2 true }, { o := .mv (.v 11) }, { o := .st (.v 9) (.l 1) 2 [] }, { o := .mv (.l 1), d := some 10 }] []) .ret) (.ite [{ o := .mv (.v 5) }, { o := .ca N.lists_In 0 [] [.l 0, .i 0, .i 2147483648] }, { o := .un .not (.l 0) }, { o := .mv (.l 0) }] [] 0 (.seq (.reg [{ o := .ld (.v 7) 2 true }, { o := .st (.v 9) (.l 0) 2 [] }, { o := .mv (.i 8), d := some 10 }] []) .ret) (.ite [{ o := .mv (.v 4) }, { o := .fa (.v 7) 0 }, { o := .ld (.l 0) 1 false }, { o := .bin .lss (.l 2) (.l 0) }, { o := .mv (.l 0) }] [] 0 (.seq (.reg [{ o := .ld (.v 7) 2 true }, { o := .st (.v 9) (.l 0) 2 [] }, { o := .mv (.i 42), d := some 10 }] []) .ret) (.ite [{ o := .mv (.v 4) }, { o := .mv (.v 3) }, { o := .fa (.v 7) 0 }, { o := .ld (.l 0) 1 false }, { o := .mx [.l 2, .l 0] }, { o := .bin .sub (.l 4) (.l 0) }, { o := .mv (.v 5) }, { o := .bin .leq (.l 1) (.l 0) }, { o := .mv (.l 0) }] [] 0 (.seq (.reg [{ o := .ld (.v 7) 2 true }, { o := .st (.v 9) (.l 0) 2 [] }, { o := .mv (.i 0), d := some 10 }] []) .ret) .skip)))))) (.seq (.reg [{ o := .fa (.v 7) 1 }, { o := .ld (.l 0) 1 false }, { o := .ca N.slices_Clone_int_int 1 [] [.l 0] }, { o := .mv (.l 0), d := some 12 }] []) (.seq (.seq (.reg [{ o := .ld (.v 8) 1 false, d := some 14 }, { o := .ln (.l 0), d := some 15 }, { o := .mv (.i 0), d := some 16 }] []) (.blk 1 K.places_Absent_l1)) (.seq (.reg [{ o := .ld (.v 6) 2 true }, { o := .mv (.v 12) }, { o := .mv (.v 4) }, { o := .mv (.v 5) }, { o := .bin .sub (.l 1) (.l 0) }, { o := .mf N.places_Absent_1 [.v 8] }, { o := .ca N.places_lowered 1 [] [.l 5, .l 4, .l 1, .l 0] }, { o := .mv (.l 0), d := some 12 }] []) (.seq (.reg [{ o := .mv (.v 4) }, { o := .ld (.v 6) 2 true }, { o := .mv (.v 12) }, { o := .mv (.v 4) }, { o := .ca N.places_lowered 0 [] [.l 2, .l 1, .l 0, .c (.fn N.places_all [])] }, { o := .bd [.t (.int .i64 (0)), .nil] [(0, 1, .l 4), (1, 1, .l 0)] }, { o := .st (.v 9) (.l 0) 2 [] }, { o := .mv (.i 0), d := some 10 }] []) .ret)))))), res := [(9, some (2, true)), (10, none)] }
/-- /places.Renew -/
def places_Renew : Fn := { nargs := 3, vars := [0, 1, 2, 3, 4, 6, 7], body := (.seq (.reg [{ o := .bx (.v 0) 2, d := some 3 }, { o := .bx (.v 1) 2, d := some 4 }, { o := .al [.t (.int .i64 (0)), .nil] [], d := some 5 }, { o := .mv (.i 0), d := some 6 }] []) (.seq (.ite [{ o := .ld (.v 3) 2 true }, { o := .ca N.plan_Valid 0 [] [.l 0] }, { o := .un .not (.l 0) }, { o := .mv (.l 0) }, { o := .ld (.v 3) 2 true, g := some (0, false) }, { o := .ld (.v 4) 2 true, g := some (1, false) }, { o := .ca N.places_shaped 0 [] [.l 1, .l 0], g := some (2, false) }, { o := .un .not (.l 0), g := some (3, false) }, { o := .pk (.l 4) (.b true) (.l 0) }] [] 0 (.seq (.reg [{ o := .ld (.v 4) 2 true }, { o := .st (.v 5) (.l 0) 2 [] }, { o := .mv (.i 6), d := some 6 }] []) .ret) .skip) (.seq (.ite [{ o := .mv (.v 2) }, { o := .fa (.v 4) 0 }, { o := .ld (.l 0) 1 false }, { o := .bin .lss (.l 2) (.l 0) }, { o := .mv (.l 0) }, { o := .mv (.v 2), g := some (0, false) }, { o := .bin .gtr (.l 0) (.i 2147483648), g := some (1, false) }, { o := .pk (.l 2) (.b true) (.l 0) }] [] 0 (.seq (.reg [{ o := .ld (.v 4) 2 true }, { o := .st (.v 5) (.l 0) 2 [] }, { o := .mv (.i 8), d := some 6 }] []) .ret) .skip) (.seq (.reg [{ o := .mv (.v 2) }, { o := .ld (.v 3) 2 true }, { o := .fa (.v 4) 1 }, { o := .ld (.l 0) 1 false }, { o := .mv (.v 2) }, { o := .ca N.places_lowered 0 [] [.l 3, .l 1, .l 0, .c (.fn N.places_all [])] }, { o := .bd [.t (.int .i64 (0)), .nil] [(0, 1, .l 5), (1, 1, .l 0)] }, { o := .st (.v 5) (.l 0) 2 [] }, { o := .mv (.i 0), d := some 6 }] []) .ret)))), res := [(5, some (2, true)), (6, none)] }
/-- /law25.agree -/
def law25_agree : Fn := { nargs := 5, vars := [0, 1, 2, 3, 4, 5, 6, 7, 9, 10, 11, 12, 13, 14, 15, 16, 17, 18, 19, 20, 21, 22, 23, 24, 25, 26, 27, 28, 29, 30], body := (.seq (.reg [{ o := .bx (.v 0) 2, d := some 5 }, { o := .bx (.v 1) 2, d := some 6 }, { o := .bx (.v 2) 2, d := some 7 }, { o := .bx (.v 4) 3, d := some 8 }, { o := .mv (.b false), d := some 9 }] []) (.seq (.reg [{ o := .ld (.v 5) 2 true }, { o := .ld (.v 6) 2 true }, { o := .mv (.v 3) }, { o := .iaa (.v 8) (.i 0) 3 1 }, { o := .ld (.l 0) 1 false }, { o := .iaa (.v 8) (.i 1) 3 1 }, { o := .ld (.l 0) 1 false }, { o := .ca N.places_See 0 [] [.l 6, .l 5, .l 4, .l 2, .l 0] }, { o := .mv (.l 0) }, { o := .ex (.l 0) 0 }, { o := .ex (.l 1) 1 }, { o := .al [.t (.int .i64 (0)), .nil] [], d := some 10 }, { o := .st (.l 0) (.l 2) 2 [] }, { o := .mv (.l 2), d := some 11 }] []) (.seq (.reg [{ o := .ld (.v 5) 2 true }, { o := .ld (.v 6) 2 true }, { o := .mv (.v 3) }, { o := .iaa (.v 8) (.i 0) 3 1 }, { o := .ld (.l 0) 1 false }, { o := .iaa (.v 8) (.i 1) 3 1 }, { o := .ld (.l 0) 1 false }, { o := .ca N.ref25_See 0 [] [.l 6, .l 5, .l 4, .l 2, .l 0] }, { o := .mv (.l 0) }, { o := .ex (.l 0) 0 }, { o := .ex (.l 1) 1 }, { o := .al [.t (.int .i64 (0)), .nil] [], d := some 12 }, { o := .st (.l 0) (.l 2) 2 [] }, { o := .mv (.l 2), d := some 13 }] []) (.seq (.reg [{ o := .ld (.v 5) 2 true }, { o := .ld (.v 6) 2 true }, { o := .mv (.v 3) }, { o := .iaa (.v 8) (.i 0) 3 1 }, { o := .ld (.l 0) 1 false }, { o := .iaa (.v 8) (.i 1) 3 1 }, { o := .ld (.l 0) 1 false }, { o := .iaa (.v 8) (.i 2) 3 1 }, { o := .ld (.l 0) 1 false }, { o := .ca N.places_Absent 0 [] [.l 8, .l 7, .l 6, .l 4, .l 2, .l 0] }, { o := .mv (.l 0) }, { o := .ex (.l 0) 0 }, { o := .ex (.l 1) 1 }, { o := .al [.t (.int .i64 (0)), .nil] [], d := some 14 }, { o := .st (.l 0) (.l 2) 2 [] }, { o := .mv (.l 2), d := some 15 }] []) (.seq (.reg [{ o := .ld (.v 5) 2 true }, { o := .ld (.v 6) 2 true }, { o := .mv (.v 3) }, { o := .iaa (.v 8) (.i 0) 3 1 }, { o := .ld (.l 0) 1 false }, { o := .iaa (.v 8) (.i 1) 3 1 }, { o := .ld (.l 0) 1 false }, { o := .iaa (.v 8) (.i 2) 3 1 }, { o := .ld (.l 0) 1 false }, { o := .ca N.ref25_Absent 0 [2] [.l 8, .l 7, .l 6, .l 4, .l 2, .l 0] }, { o := .mv (.l 0) }, { o := .ex (.l 0) 0 }, { o := .ex (.l 1) 1 }, { o := .al [.t (.int .i64 (0)), .nil] [], d := some 16 }, { o := .st (.l 0) (.l 2) 2 [] }, { o := .mv (.l 2), d := some 17 }] []) (.seq (.reg [{ o := .ld (.v 5) 2 true }, { o := .ld (.v 6) 2 true }, { o := .iaa (.v 8) (.i 0) 3 1 }, { o := .ld (.l 0) 1 false }, { o := .ca N.places_Renew 0 [] [.l 3, .l 2, .l 0] }, { o := .mv (.l 0) }, { o := .ex (.l 0) 0 }, { o := .ex (.l 1) 1 }, { o := .al [.t (.int .i64 (0)), .nil] [], d := some 18 }, { o := .st (.l 0) (.l 2) 2 [] }, { o := .mv (.l 2), d := some 19 }] []) (.seq (.reg [{ o := .ld (.v 5) 2 true }, { o := .ld (.v 6) 2 true }, { o := .iaa (.v 8) (.i 0) 3 1 }, { o := .ld (.l 0) 1 false }, { o := .ca N.ref25_Renew 0 [] [.l 3, .l 2, .l 0] }, { o := .mv (.l 0) }, { o := .ex (.l 0) 0 }, { o := .ex (.l 1) 1 }, { o := .al [.t (.int .i64 (0)), .nil] [], d := some 20 }, { o := .st (.l 0) (.l 2) 2 [] }, { o := .mv (.l 2), d := some 21 }] []) (.seq (.reg [{ o := .ld (.v 6) 2 true }, { o := .iaa (.v 8) (.i 1) 3 1 }, { o := .ld (.l 0) 1 false }, { o := .ca N.places_Raise 0 [] [.l 2, .l 0] }, { o := .mv (.l 0) }, { o := .ex (.l 0) 0 }, { o := .ex (.l 1) 1 }, { o := .al [.t (.int .i64 (0)), .nil] [], d := some 22 }, { o := .st (.l 0) (.l 2) 2 [] }, { o := .mv (.l 2), d := some 23 }] []) (.seq (.reg [{ o := .ld (.v 6) 2 true }, { o := .iaa (.v 8) (.i 1) 3 1 }, { o := .ld (.l 0) 1 false }, { o := .ca N.ref25_Raise 0 [] [.l 2, .l 0] }, { o := .mv (.l 0) }, { o := .ex (.l 0) 0 }, { o := .ex (.l 1) 1 }, { o := .al [.t (.int .i64 (0)), .nil] [], d := some 24 }, { o := .st (.l 0) (.l 2) 2 [] }, { o := .mv (.l 2), d := some 25 }] []) (.seq (.reg [{ o := .ld (.v 6) 2 true }, { o := .ld (.v 7) 2 true }, { o := .ca N.places_Join 0 [] [.l 1, .l 0] }, { o := .mv (.l 0) }, { o := .ex (.l 0) 0 }, { o := .ex (.l 1) 1 }, { o := .al [.t (.int .i64 (0)), .nil] [], d := some 26 }, { o := .st (.l 0) (.l 2) 2 [] }, { o := .mv (.l 2), d := some 27 }] []) (.seq (.reg [{ o := .ld (.v 6) 2 true }, { o := .ld (.v 7) 2 true }, { o := .ca N.ref25_Join 0 [] [.l 1, .l 0] }, { o := .mv (.l 0) }, { o := .ex (.l 0) 0 }, { o := .ex (.l 1) 1 }, { o := .al [.t (.int .i64 (0)), .nil] [], d := some 28 }, { o := .st (.l 0) (.l 2) 2 [] }, { o := .mv (.l 2), d := some 29 }] []) (.seq (.reg [{ o := .ld (.v 5) 2 true }, { o := .ld (.v 6) 2 true }, { o := .ca N.places_Valid 0 [] [.l 1, .l 0] }, { o := .ld (.v 5) 2 true }, { o := .ld (.v 6) 2 true }, { o := .ca N.ref25_Valid 0 [] [.l 1, .l 0] }, { o := .eqk (.bool) false (.l 3) (.l 0) }, { o := .mv (.l 0) }, { o := .mv (.v 11), g := some (0, true) }, { o := .mv (.v 13), g := some (1, true) }, { o := .bin .eql (.l 1) (.l 0), g := some (2, true) }, { o := .pk (.l 3) (.l 0) (.b false) }, { o := .mv (.l 0) }, { o := .ld (.v 10) 2 true, g := some (0, true) }, { o := .ld (.v 12) 2 true, g := some (1, true) }, { o := .ca N.ref25_Same 0 [] [.l 1, .l 0], g := some (2, true) }, { o := .pk (.l 3) (.l 0) (.b false) }, { o := .mv (.l 0) }, { o := .mv (.v 15), g := some (0, true) }, { o := .mv (.v 17), g := some (1, true) }, { o := .bin .eql (.l 1) (.l 0), g := some (2, true) }, { o := .pk (.l 3) (.l 0) (.b false) }, { o := .mv (.l 0) }, { o := .ld (.v 14) 2 true, g := some (0, true) }, { o := .ld (.v 16) 2 true, g := some (1, true) }, { o := .ca N.ref25_Same 0 [] [.l 1, .l 0], g := some (2, true) }, { o := .pk (.l 3) (.l 0) (.b false) }, { o := .mv (.l 0) }, { o := .mv (.v 19), g := some (0, true) }, { o := .mv (.v 21), g := some (1, true) }, { o := .bin .eql (.l 1) (.l 0), g := some (2, true) }, { o := .pk (.l 3) (.l 0) (.b false) }, { o := .mv (.l 0) }, { o := .ld (.v 18) 2 true, g := some (0, true) }, { o := .ld (.v 20) 2 true, g := some (1, true) }, { o := .ca N.ref25_Same 0 [] [.l 1, .l 0], g := some (2, true) }, { o := .pk (.l 3) (.l 0) (.b false) }, { o := .mv (.l 0) }, { o := .mv (.v 23), g := some (0, true) }, { o := .mv (.v 25), g := some (1, true) }, { o := .bin .eql (.l 1) (.l 0), g := some (2, true) }, { o := .pk (.l 3) (.l 0) (.b false) }, { o := .mv (.l 0) }, { o := .ld (.v 22) 2 true, g := some (0, true) }, { o := .ld (.v 24) 2 true, g := some (1, true) }, { o := .ca N.ref25_Same 0 [] [.l 1, .l 0], g := some (2, true) }, { o := .pk (.l 3) (.l 0) (.b false) }, { o := .mv (.l 0) }, { o := .mv (.v 27), g := some (0, true) }, { o := .mv (.v 29), g := some (1, true) }, { o := .bin .eql (.l 1) (.l 0), g := some (2, true) }, { o := .pk (.l 3) (.l 0) (.b false) }, { o := .mv (.l 0) }, { o := .ld (.v 26) 2 true, g := some (0, true) }, { o := .ld (.v 28) 2 true, g := some (1, true) }, { o := .ca N.ref25_Same 0 [] [.l 1, .l 0], g := some (2, true) }, { o := .pk (.l 3) (.l 0) (.b false) }, { o := .mv (.l 0) }, { o := .ld (.v 6) 2 true, g := some (0, true) }, { o := .iaa (.v 8) (.i 0) 3 1, g := some (1, true) }, { o := .ld (.l 0) 1 false, g := some (2, true) }, { o := .ca N.places_Possible 0 [] [.l 2, .l 0], g := some (3, true) }, { o := .ld (.v 6) 2 true, g := some (4, true) }, { o := .iaa (.v 8) (.i 0) 3 1, g := some (5, true) }, { o := .ld (.l 0) 1 false, g := some (6, true) }, { o := .ca N.ref25_Possible 0 [] [.l 2, .l 0], g := some (7, true) }, { o := .ca N.ref23_SameInts 0 [] [.l 4, .l 0], g := some (8, true) }, { o := .pk (.l 9) (.l 0) (.b false) }, { o := .mv (.l 0), d := some 9 }] [(3, 0), (4, 0), (62, 56), (64, 56)]) .ret)))))))))))), res := [(9, none)] }
/-- /ref25.Same -/
def ref25_Same : Fn := { nargs := 2, vars := [0, 1, 2, 3, 4], body := (.seq (.reg [{ o := .bx (.v 0) 2, d := some 2 }, { o := .bx (.v 1) 2, d := some 3 }, { o := .mv (.b false), d := some 4 }] []) (.seq (.reg [{ o := .fa (.v 2) 0 }, { o := .ld (.l 0) 1 false }, { o := .fa (.v 3) 0 }, { o := .ld (.l 0) 1 false }, { o := .bin .eql (.l 2) (.l 0) }, { o := .mv (.l 0) }, { o := .fa (.v 2) 1, g := some (0, true) }, { o := .ld (.l 0) 1 false, g := some (1, true) }, { o := .fa (.v 3) 1, g := some (2, true) }, { o := .ld (.l 0) 1 false, g := some (3, true) }, { o := .ca N.ref23_SameInts 0 [] [.l 2, .l 0], g := some (4, true) }, { o := .pk (.l 5) (.l 0) (.b false) }, { o := .mv (.l 0), d := some 4 }] []) .ret)), res := [(4, none)] }
/-- /law25.row -/
def law25_row : Fn := { nargs := 0, vars := [0, 1, 2, 3], body := (.seq (.reg [{ o := .al [.nil, .nil] [], d := some 0 }] []) (.seq (.reg [{ o := .bd [.t (.int .i64 (0)), .t (.int .i64 (0))] [(0, 1, .i 1), (1, 1, .i 1)] }, { o := .bd [.t (.int .i64 (0)), .t (.int .i64 (0)), .t (.int .i64 (0)), .t (.int .i64 (0)), .t (.bool false), .t (.bool false), .t (.int .i64 (0)), .t (.int .i64 (0)), .t (.int .i64 (0)), .t (.int .i64 (0))] [(2, 1, .i 12), (3, 1, .i 1), (4, 1, .b true), (6, 2, .l 0)] }, { o := .al [.t (.int .i64 (0)), .t (.int .i64 (0)), .t (.int .i64 (0)), .t (.int .i64 (0)), .t (.bool false), .t (.bool false), .t (.int .i64 (0)), .t (.int .i64 (0)), .t (.int .i64 (0)), .t (.int .i64 (0))] [], d := some 1 }, { o := .st (.l 0) (.l 1) 10 [] }] []) (.seq (.reg [{ o := .al [.t (.int .i64 (0)), .t (.int .i64 (0)), .t (.int .i64 (0)), .t (.int .i64 (0)), .t (.bool false), .t (.bool false), .t (.int .i64 (0)), .t (.int .i64 (0)), .t (.int .i64 (0)), .t (.int .i64 (0))] [], d := some 2 }, { o := .al [.t (.int .i64 (0)), .t (.int .i64 (0)), .t (.int .i64 (0)), .t (.int .i64 (0)), .t (.bool false), .t (.bool false), .t (.int .i64 (0)), .t (.int .i64 (0)), .t (.int .i64 (0)), .t (.int .i64 (0))] [], d := some 3 }, { o := .ld (.v 1) 10 true }, { o := .ld (.v 1) 10 true }, { o := .st (.l 3) (.l 1) 10 [] }, { o := .st (.l 3) (.l 1) 10 [] }] [(3, 5)]) (.seq (.reg [{ o := .fa (.v 2) 1 }, { o := .st (.l 0) (.i 1) 1 [] }, { o := .fa (.v 3) 0 }, { o := .st (.l 0) (.i 1) 1 [] }, { o := .fa (.v 3) 1 }, { o := .st (.l 0) (.i 2) 1 [] }] []) (.seq (.reg [{ o := .bd [.t (.int .i64 (0)), .t (.bool false)] [(1, 1, .b true)] }, { o := .bd [.t (.int .i64 (0)), .t (.bool false)] [] }, { o := .bd [.t (.int .i64 (0)), .t (.bool false)] [] }, { o := .bs [.l 2, .l 1, .l 0] 2 }, { o := .ld (.v 2) 10 true }, { o := .ld (.v 3) 10 true }, { o := .bs [.l 1, .l 0] 10 }, { o := .bd [.nil, .nil] [(0, 1, .l 3), (1, 1, .l 0)] }, { o := .st (.v 0) (.l 0) 2 [] }] []) .ret))))), res := [(0, some (2, true))] }
/-- /places.nowhere -/
def places_nowhere : Fn := { nargs := 1, vars := [0, 1, 2], body := (.seq (.reg [{ o := .bx (.v 0) 2, d := some 1 }, { o := .mv (.c (.nil)), d := some 2 }] []) (.seq (.reg [{ o := .bs [.i 1099511627776] 1 }, { o := .fa (.v 1) 0 }, { o := .ld (.l 0) 1 false }, { o := .ln (.l 0) }, { o := .ca N.slices_Repeat_int_int 1 [] [.l 3, .l 0] }, { o := .mv (.l 0), d := some 2 }] []) .ret)), res := [(2, none)] }
def places_lowered_l1b : C := (.seq (.ite [{ o := .ld (.v 9) 1 false }] [] 0 .skip (.exit 0)) (.seq (.blk 1 (.seq (.reg [{ o := .st (.v 9) (.b false) 1 [] }] []) (.reg [{ o := .ld (.v 4) 2 true }, { o := .ld (.v 8) 1 false }, { o := .mf N.places_lowered_1 [.v 5, .v 8, .v 6, .v 9] }, { o := .ca N.places_arrivals 0 [1] [.l 2, .l 1, .l 0] }] []))) (.seq (.reg [{ o := .ld (.v 9) 1 false, d := some 10 }] []) (.reg [{ o := .al [.t (.bool false)] [], d := some 9 }, { o := .st (.l 0) (.v 10) 1 [] }] []))))
def places_lowered_l1 : C := .loop false [0, 1, 2, 3, 7, 10] K.places_lowered_l1b
/-- /places.lowered -/
def places_lowered : Fn := { nargs := 4, vars := [0, 1, 2, 3, 4, 6, 7, 8, 9, 10, 18], body := (.seq (.reg [{ o := .bx (.v 0) 2, d := some 4 }, { o := .bx (.v 2) 1, d := some 5 }, { o := .bx (.v 3) 1, d := some 6 }, { o := .mv (.c (.nil)), d := some 7 }] []) (.seq (.reg [{ o := .mv (.v 1) }, { o := .ca N.slices_Clone_int_int 1 [] [.l 0] }, { o := .al [.nil] [], d := some 8 }, { o := .st (.l 0) (.l 1) 1 [] }] []) (.seq (.seq (.reg [{ o := .al [.t (.bool false)] [], d := some 9 }, { o := .st (.l 0) (.b true) 1 [] }] []) (.blk 0 K.places_lowered_l1)) (.seq (.reg [{ o := .ld (.v 8) 1 false }, { o := .mv (.l 0), d := some 7 }] []) .ret)))), res := [(7, none)] }
/-- /places.all -/
def places_all : Fn := { nargs := 1, vars := [2], body := (.seq (.reg [{ o := .mv (.b false), d := some 0 }] []) (.seq (.reg [{ o := .mv (.b true), d := some 0 }] []) .ret)), res := [(0, none)] }
/-- /places.shaped -/
def places_shaped : Fn := { nargs := 2, vars := [0, 1, 2, 3, 4], body := (.seq (.reg [{ o := .bx (.v 0) 2, d := some 2 }, { o := .bx (.v 1) 2, d := some 3 }, { o := .mv (.b false), d := some 4 }] []) (.seq (.reg [{ o := .fa (.v 3) 1 }, { o := .ld (.l 0) 1 false }, { o := .ln (.l 0) }, { o := .fa (.v 2) 0 }, { o := .ld (.l 0) 1 false }, { o := .ln (.l 0) }, { o := .bin .eql (.l 3) (.l 0) }, { o := .mv (.l 0) }, { o := .fa (.v 3) 0, g := some (0, true) }, { o := .ld (.l 0) 1 false, g := some (1, true) }, { o := .ca N.lists_In 0 [] [.l 0, .i 0, .i 2147483648], g := some (2, true) }, { o := .pk (.l 3) (.l 0) (.b false) }, { o := .mv (.l 0) }, { o := .fa (.v 3) 1, g := some (0, true) }, { o := .ld (.l 0) 1 false, g := some (1, true) }, { o := .ca N.slices_ContainsFunc_int_int 0 [] [.l 0, .c (.fn N.places_shaped_1 [])], g := some (2, true) }, { o := .un .not (.l 0), g := some (3, true) }, { o := .pk (.l 4) (.l 0) (.b false) }, { o := .mv (.l 0), d := some 4 }] []) .ret)), res := [(4, none)] }
def slices_Equal_int_int_l1b : C := (.its  [{ o := .bin .lss (.v 5) (.v 4) }] [] 0 .skip (.exit 0) (.seq (.blk 1 (.seq (.reg [{ o := .mv (.v 5) }, { o := .mv (.l 0), d := some 3 }] []) (.ite [{ o := .mv (.v 0) }, { o := .mv (.v 3) }, { o := .ia (.l 1) (.l 0) 1 }, { o := .ld (.l 0) 1 false }, { o := .mv (.v 1) }, { o := .mv (.v 3) }, { o := .ia (.l 1) (.l 0) 1 }, { o := .ld (.l 0) 1 false }, { o := .bin .neq (.l 4) (.l 0) }] [] 0 (.seq (.reg [{ o := .mv (.b false), d := some 2 }] []) .ret) .skip))) (.reg [{ o := .bin .add (.v 5) (.i 1) }, { o := .mv (.l 0), d := some 5 }] [])))
def slices_Equal_int_int_l1 : C := .loop true [2, 3] K.slices_Equal_int_int_l1b
/-- slices.Equal[[]int,int] -/
def slices_Equal_int_int : Fn := { nargs := 2, vars := [0, 1, 4, 5, 12, 13], body := (.seq (.reg [{ o := .mv (.b false), d := some 2 }] []) (.seq (.ite [{ o := .mv (.v 0) }, { o := .ln (.l 0) }, { o := .mv (.v 1) }, { o := .ln (.l 0) }, { o := .bin .neq (.l 2) (.l 0) }] [] 0 (.seq (.reg [{ o := .mv (.b false), d := some 2 }] []) .ret) .skip) (.seq (.seq (.reg [{ o := .mv (.v 0) }, { o := .ln (.l 0), d := some 4 }, { o := .mv (.i 0), d := some 5 }] []) (.blk 0 K.slices_Equal_int_int_l1)) (.seq (.reg [{ o := .mv (.b true), d := some 2 }] []) .ret)))), res := [(2, none)] }
/-- /places.given -/
def places_given : Fn := { nargs := 5, vars := [0, 1, 2, 3, 4, 5, 6, 10], body := (.seq (.reg [{ o := .bx (.v 0) 2, d := some 5 }, { o := .bx (.v 1) 2, d := some 6 }, { o := .mv (.i 0), d := some 7 }] []) (.seq (.blk 0 (.ite [{ o := .ld (.v 5) 2 true }, { o := .ld (.v 6) 2 true }, { o := .ca N.places_Valid 0 [] [.l 1, .l 0] }, { o := .un .not (.l 0) }, { o := .mv (.l 0) }, { o := .mv (.v 2), g := some (0, false) }, { o := .ln (.l 0), g := some (1, false) }, { o := .bin .eql (.l 0) (.i 0), g := some (2, false) }, { o := .pk (.l 3) (.b true) (.l 0) }, { o := .mv (.l 0) }, { o := .mv (.v 2), g := some (0, false) }, { o := .fa (.v 5) 0, g := some (1, false) }, { o := .ld (.l 0) 1 false, g := some (2, false) }, { o := .ln (.l 0), g := some (3, false) }, { o := .bin .sub (.l 0) (.i 1), g := some (4, false) }, { o := .ca N.lists_Rising 0 [] [.l 4, .i 0, .l 0], g := some (5, false) }, { o := .un .not (.l 0), g := some (6, false) }, { o := .pk (.l 7) (.b true) (.l 0) }, { o := .mv (.l 0) }] [] 0 (.seq (.reg [{ o := .mv (.i 6), d := some 7 }] []) .ret) (.ite [{ o := .mv (.v 3) }, { o := .ca N.lists_In 0 [] [.l 0, .i 0, .i 2147483648] }, { o := .un .not (.l 0) }, { o := .mv (.l 0) }, { o := .mv (.v 4), g := some (0, false) }, { o := .ca N.lists_In 0 [] [.l 0, .i 0, .i 2147483648], g := some (1, false) }, { o := .un .not (.l 0), g := some (2, false) }, { o := .pk (.l 3) (.b true) (.l 0) }, { o := .mv (.l 0) }, { o := .mv (.v 3), g := some (0, false) }, { o := .mv (.v 4), g := some (1, false) }, { o := .bin .gtr (.l 1) (.l 0), g := some (2, false) }, { o := .pk (.l 3) (.b true) (.l 0) }, { o := .mv (.l 0) }] [] 0 (.seq (.reg [{ o := .mv (.i 8), d := some 7 }] []) .ret) .skip))) (.seq (.reg [{ o := .mv (.i 0), d := some 7 }] []) .ret))), res := [(7, none)] }
/-- slices.Clone[[]int,int] -/
def slices_Clone_int_int : Fn := { nargs := 1, vars := [0, 2], body := (.seq (.reg [{ o := .mv (.c (.nil)), d := some 1 }] []) (.itk  [{ o := .mv (.v 0) }, { o := .eqk (.sl) false (.l 0) (.c (.nil)) }] [] 0 (.seq (.reg [{ o := .nw 1, d := some 1 }] []) .ret) .skip (.seq (.reg [{ o := .bsr [] 1 }, { o := .mv (.v 0) }, { o := .app (.l 1) (.l 0) false 1 }, { o := .mv (.l 0), d := some 1 }] []) .ret))), res := [(1, none)] }
/-- /places.Absent.1 -/
def places_Absent_1 : Fn := { nargs := 2, vars := [0, 1, 3], body := (.seq (.reg [{ o := .mv (.b false), d := some 2 }] []) (.seq (.reg [{ o := .ld (.v 1) 1 false }, { o := .mv (.v 0) }, { o := .ca N.slices_Contains_int_int 0 [] [.l 1, .l 0] }, { o := .mv (.l 0), d := some 2 }] []) .ret)), res := [(2, none)] }
/-- /ref25.Renew -/
def ref25_Renew : Fn := { nargs := 3, vars := [0, 1, 2, 3, 4, 6, 7], body := (.seq (.reg [{ o := .bx (.v 0) 2, d := some 3 }, { o := .bx (.v 1) 2, d := some 4 }, { o := .al [.t (.int .i64 (0)), .nil] [], d := some 5 }, { o := .mv (.i 0), d := some 6 }] []) (.seq (.ite [{ o := .ld (.v 3) 2 true }, { o := .ca N.ref01_Check 0 [] [.l 0] }, { o := .bin .neq (.l 0) (.i 0) }, { o := .mv (.l 0) }, { o := .ld (.v 4) 2 true, g := some (0, false) }, { o := .fa (.v 3) 0, g := some (1, false) }, { o := .ld (.l 0) 1 false, g := some (2, false) }, { o := .ln (.l 0), g := some (3, false) }, { o := .ca N.ref25_Plain 0 [] [.l 3, .l 0], g := some (4, false) }, { o := .un .not (.l 0), g := some (5, false) }, { o := .pk (.l 6) (.b true) (.l 0) }] [] 0 (.seq (.reg [{ o := .ld (.v 4) 2 true }, { o := .ca N.ref25_Copy 0 [] [.l 0] }, { o := .st (.v 5) (.l 0) 2 [] }, { o := .mv (.i 6), d := some 6 }] []) .ret) .skip) (.seq (.ite [{ o := .mv (.v 2) }, { o := .fa (.v 4) 0 }, { o := .ld (.l 0) 1 false }, { o := .bin .lss (.l 2) (.l 0) }, { o := .mv (.l 0) }, { o := .mv (.v 2), g := some (0, false) }, { o := .bin .gtr (.l 0) (.i 2147483648), g := some (1, false) }, { o := .pk (.l 2) (.b true) (.l 0) }] [] 0 (.seq (.reg [{ o := .ld (.v 4) 2 true }, { o := .ca N.ref25_Copy 0 [] [.l 0] }, { o := .st (.v 5) (.l 0) 2 [] }, { o := .mv (.i 8), d := some 6 }] []) .ret) .skip) (.seq (.reg [{ o := .mv (.v 2) }, { o := .ld (.v 3) 2 true }, { o := .fa (.v 4) 1 }, { o := .ld (.l 0) 1 false }, { o := .mv (.v 2) }, { o := .ca N.ref25_Close 0 [] [.l 3, .l 1, .l 0] }, { o := .bd [.t (.int .i64 (0)), .nil] [(0, 1, .l 5), (1, 1, .l 0)] }, { o := .st (.v 5) (.l 0) 2 [] }, { o := .mv (.i 0), d := some 6 }] []) .ret)))), res := [(5, some (2, true)), (6, none)] }
/-- /places.Raise -/
def places_Raise : Fn := { nargs := 2, vars := [0, 1, 2, 4, 5], body := (.seq (.reg [{ o := .bx (.v 0) 2, d := some 2 }, { o := .al [.t (.int .i64 (0)), .nil] [], d := some 3 }, { o := .mv (.i 0), d := some 4 }] []) (.seq (.ite [{ o := .mv (.v 1) }, { o := .fa (.v 2) 0 }, { o := .ld (.l 0) 1 false }, { o := .bin .lss (.l 2) (.l 0) }, { o := .mv (.l 0) }, { o := .mv (.v 1), g := some (0, false) }, { o := .bin .gtr (.l 0) (.i 2147483648), g := some (1, false) }, { o := .pk (.l 2) (.b true) (.l 0) }] [] 0 (.seq (.reg [{ o := .ld (.v 2) 2 true }, { o := .st (.v 3) (.l 0) 2 [] }, { o := .mv (.i 8), d := some 4 }] []) .ret) .skip) (.seq (.reg [{ o := .mv (.v 1) }, { o := .fa (.v 2) 1 }, { o := .ld (.l 0) 1 false }, { o := .ca N.slices_Clone_int_int 0 [] [.l 0] }, { o := .bd [.t (.int .i64 (0)), .nil] [(0, 1, .l 3), (1, 1, .l 0)] }, { o := .st (.v 3) (.l 0) 2 [] }, { o := .mv (.i 0), d := some 4 }] []) .ret))), res := [(3, some (2, true)), (4, none)] }
def places_arrivals_l2b : C := (.its  [{ o := .bin .lss (.v 14) (.i 2) }] [] 0 .skip (.exit 2) (.seq (.blk 3 (.seq (.reg [{ o := .ix (.v 13) (.v 14) 2 1 false }, { o := .mv (.l 0), d := some 6 }] []) (.seq (.reg [{ o := .fa (.v 5) 0 }, { o := .ld (.l 0) 1 false }, { o := .fa (.v 5) 1 }, { o := .ld (.l 0) 1 false }, { o := .mv (.l 2), d := some 7 }, { o := .mv (.l 1), d := some 8 }] []) (.seq (.ite [{ o := .mv (.v 6) }] [] 0 (.reg [{ o := .mv (.v 8) }, { o := .mv (.v 7) }, { o := .mv (.l 1), d := some 7 }, { o := .mv (.l 1), d := some 8 }] []) .skip) (.seq (.reg [{ o := .ld (.v 3) 2 true }, { o := .mv (.v 4) }, { o := .mv (.v 6) }, { o := .ca N.walk_Time 0 [] [.l 2, .l 1, .l 0] }, { o := .mv (.l 0), d := some 9 }] []) (.ite [{ o := .mv (.v 9) }, { o := .bin .geq (.l 0) (.i 0) }, { o := .mv (.l 0) }, { o := .mv (.v 1), g := some (0, true) }, { o := .mv (.v 7), g := some (1, true) }, { o := .ia (.l 1) (.l 0) 1, g := some (2, true) }, { o := .ld (.l 0) 1 false, g := some (3, true) }, { o := .bin .lss (.l 0) (.i 1099511627776), g := some (4, true) }, { o := .pk (.l 5) (.l 0) (.b false) }] [] 0 (.reg [{ o := .mv (.v 2) }, { o := .mv (.v 7) }, { o := .mv (.v 8) }, { o := .mv (.v 1) }, { o := .mv (.v 7) }, { o := .ia (.l 1) (.l 0) 1 }, { o := .ld (.l 0) 1 false }, { o := .mv (.v 9) }, { o := .bin .add (.l 1) (.l 0) }, { o := .cw (.l 8) 0 [] [.l 7, .l 6, .l 0] }] []) .skip)))))) (.reg [{ o := .bin .add (.v 14) (.i 1) }, { o := .mv (.l 0), d := some 14 }] [])))
def places_arrivals_l2 : C := .loop true [0, 6, 7, 8, 9] K.places_arrivals_l2b
def places_arrivals_l1b : C := (.its  [{ o := .bin .lss (.v 12) (.v 11) }] [] 0 .skip (.exit 0) (.seq (.blk 1 (.seq (.reg [{ o := .mv (.v 12) }, { o := .ia (.v 10) (.v 12) 10 }, { o := .ld (.l 0) 10 true }, { o := .al [.t (.int .i64 (0)), .t (.int .i64 (0)), .t (.int .i64 (0)), .t (.int .i64 (0)), .t (.bool false), .t (.bool false), .t (.int .i64 (0)), .t (.int .i64 (0)), .t (.int .i64 (0)), .t (.int .i64 (0))] [], d := some 5 }, { o := .mv (.l 3), d := some 4 }, { o := .st (.l 1) (.l 2) 10 [] }] []) (.seq (.reg [{ o := .bd [.t (.bool false), .t (.bool false)] [(0, 1, .b false), (1, 1, .b true)], d := some 13 }, { o := .mv (.i 0), d := some 14 }] []) (.blk 2 K.places_arrivals_l2)))) (.reg [{ o := .bin .add (.v 12) (.i 1) }, { o := .mv (.l 0), d := some 12 }] [])))
def places_arrivals_l1 : C := .loop true [0, 4, 5, 6, 7, 8, 9, 13, 14] K.places_arrivals_l1b
/-- /places.arrivals -/
def places_arrivals : Fn := { nargs := 3, vars := [0, 1, 2, 3, 6, 7, 9, 10, 11, 12, 14, 15, 16, 21, 22], body := (.seq (.reg [{ o := .bx (.v 0) 2, d := some 3 }] []) (.seq (.reg [{ o := .fa (.v 3) 1 }, { o := .ld (.l 0) 1 false, d := some 10 }, { o := .ln (.l 0), d := some 11 }, { o := .mv (.i 0), d := some 12 }] []) (.blk 0 K.places_arrivals_l1))), res := [] }
/-- /places.lowered.1 -/
def places_lowered_1 : Fn := { nargs := 7, vars := [1, 2, 3, 4, 5, 6], body := (.seq (.reg [{ o := .mv (.v 1) }, { o := .ld (.v 2) 1 false }, { o := .mx [.l 1, .l 0] }, { o := .mv (.l 0), d := some 1 }] []) (.ite [{ o := .mv (.v 1) }, { o := .bin .leq (.l 0) (.i 2147483648) }, { o := .mv (.l 0) }, { o := .mv (.v 1), g := some (0, true) }, { o := .ld (.v 3) 1 false, g := some (1, true) }, { o := .mv (.v 0), g := some (2, true) }, { o := .ia (.l 1) (.l 0) 1, g := some (3, true) }, { o := .ld (.l 0) 1 false, g := some (4, true) }, { o := .bin .lss (.l 4) (.l 0), g := some (5, true) }, { o := .pk (.l 6) (.l 0) (.b false) }, { o := .mv (.l 0) }, { o := .ld (.v 4) 1 false, g := some (0, true) }, { o := .mv (.v 0), g := some (1, true) }, { o := .cw (.l 1) 0 [] [.l 0], g := some (2, true) }, { o := .pk (.l 3) (.l 0) (.b false) }] [] 0 (.reg [{ o := .ld (.v 3) 1 false }, { o := .mv (.v 0) }, { o := .mv (.v 1) }, { o := .ia (.l 2) (.l 1) 1 }, { o := .st (.l 0) (.l 1) 1 [] }, { o := .st (.v 5) (.b true) 1 [] }] []) .skip)), res := [] }
/-- /places.shaped.1 -/
def places_shaped_1 : Fn := { nargs := 1, vars := [0, 2], body := (.seq (.reg [{ o := .mv (.b false), d := some 1 }] []) (.seq (.reg [{ o := .mv (.v 0) }, { o := .bin .neq (.l 0) (.i 1099511627776) }, { o := .mv (.l 0) }, { o := .mv (.v 0), g := some (0, true) }, { o := .ca N.lists_In 0 [] [.l 0, .i 0, .i 2147483648], g := some (1, true) }, { o := .un .not (.l 0), g := some (2, true) }, { o := .pk (.l 3) (.l 0) (.b false) }, { o := .mv (.l 0), d := some 1 }] []) .ret)), res := [(1, none)] }
/-- /walk.Time -/
def walk_Time : Fn := { nargs := 3, vars := [0, 1, 2, 3, 6], body := (.seq (.reg [{ o := .bx (.v 0) 2, d := some 3 }, { o := .mv (.i 0), d := some 4 }] []) (.seq (.ite [{ o := .ld (.v 3) 2 true }, { o := .ca N.plan_Valid 0 [] [.l 0] }, { o := .un .not (.l 0) }, { o := .mv (.l 0) }, { o := .mv (.v 1), g := some (0, false) }, { o := .bin .lss (.l 0) (.i 0), g := some (1, false) }, { o := .pk (.l 2) (.b true) (.l 0) }, { o := .mv (.l 0) }, { o := .mv (.v 1), g := some (0, false) }, { o := .fa (.v 3) 1, g := some (1, false) }, { o := .ld (.l 0) 1 false, g := some (2, false) }, { o := .ln (.l 0), g := some (3, false) }, { o := .bin .geq (.l 3) (.l 0), g := some (4, false) }, { o := .pk (.l 5) (.b true) (.l 0) }] [] 0 (.seq (.reg [{ o := .mv (.i (-1)), d := some 4 }] []) .ret) .skip) (.seq (.reg [{ o := .ld (.v 3) 2 true }, { o := .mv (.v 1) }, { o := .mv (.v 2) }, { o := .ca N.walk_step 0 [] [.l 2, .l 1, .l 0] }, { o := .mv (.l 0), d := some 4 }] []) .ret))), res := [(4, none)] }
/-- /walk.step -/
def walk_step : Fn := { nargs := 3, vars := [0, 1, 2, 3, 6], body := (.seq (.reg [{ o := .bx (.v 0) 2, d := some 3 }, { o := .mv (.i 0), d := some 4 }] []) (.seq (.reg [{ o := .ld (.v 3) 2 true }, { o := .mv (.v 1) }, { o := .mv (.v 2) }, { o := .ca N.walk_quick 0 [] [] }, { o := .ca N.walk_with 0 [] [.l 3, .l 2, .l 1, .l 0] }, { o := .mv (.l 0), d := some 4 }] [(0, 4)]) .ret)), res := [(4, none)] }
/-- /walk.with -/
def walk_with : Fn := { nargs := 4, vars := [0, 1, 2, 3, 4, 7, 8, 9, 10, 11], body := (.seq (.reg [{ o := .bx (.v 0) 2, d := some 4 }, { o := .bx (.v 3) 3, d := some 5 }, { o := .mv (.i 0), d := some 6 }] []) (.seq (.reg [{ o := .fa (.v 4) 1 }, { o := .ld (.l 0) 1 false }, { o := .mv (.v 1) }, { o := .ia (.l 1) (.l 0) 10 }, { o := .ld (.l 0) 10 true }, { o := .al [.t (.int .i64 (0)), .t (.int .i64 (0)), .t (.int .i64 (0)), .t (.int .i64 (0)), .t (.bool false), .t (.bool false), .t (.int .i64 (0)), .t (.int .i64 (0)), .t (.int .i64 (0)), .t (.int .i64 (0))] [], d := some 7 }, { o := .st (.l 0) (.l 1) 10 [] }] []) (.seq (.ite [{ o := .fa (.v 7) 5 }, { o := .ld (.l 0) 1 false }, { o := .mv (.l 0) }, { o := .fa (.v 7) 4, g := some (0, false) }, { o := .ld (.l 0) 1 false, g := some (1, false) }, { o := .un .not (.l 0), g := some (2, false) }, { o := .pk (.l 3) (.b true) (.l 0) }] [] 0 (.seq (.reg [{ o := .mv (.i (-1)), d := some 6 }] []) .ret) .skip) (.seq (.reg [{ o := .fa (.v 4) 0 }, { o := .ld (.l 0) 1 false }, { o := .fa (.v 7) 1 }, { o := .ld (.l 0) 1 false }, { o := .ia (.l 2) (.l 0) 2 }, { o := .fa (.l 0) 0 }, { o := .ld (.l 0) 1 false }, { o := .fa (.v 4) 0 }, { o := .ld (.l 0) 1 false }, { o := .fa (.v 7) 0 }, { o := .ld (.l 0) 1 false }, { o := .ia (.l 2) (.l 0) 2 }, { o := .fa (.l 0) 0 }, { o := .ld (.l 0) 1 false }, { o := .bin .sub (.l 7) (.l 0) }, { o := .mv (.l 0), d := some 8 }] []) (.seq (.ite [{ o := .mv (.v 2) }] [] 0 (.reg [{ o := .mv (.v 8) }, { o := .un .neg (.l 0) }, { o := .mv (.l 0), d := some 8 }] []) .skip) (.seq (.reg [{ o := .fa (.v 5) 2 }, { o := .ld (.l 0) 1 false }, { o := .mv (.l 0), d := some 9 }] []) (.seq (.blk 0 (.ite [{ o := .mv (.v 8) }, { o := .bin .mul (.i 10) (.l 0) }, { o := .fa (.v 7) 2 }, { o := .ld (.l 0) 1 false }, { o := .bin .gtr (.l 2) (.l 0) }, { o := .mv (.l 0) }] [] 0 (.reg [{ o := .fa (.v 5) 0 }, { o := .ld (.l 0) 1 false }, { o := .mv (.l 0), d := some 9 }] []) (.ite [{ o := .mv (.v 8) }, { o := .bin .mul (.i (-10)) (.l 0) }, { o := .fa (.v 7) 2 }, { o := .ld (.l 0) 1 false }, { o := .bin .gtr (.l 2) (.l 0) }, { o := .mv (.l 0) }] [] 0 (.reg [{ o := .fa (.v 5) 1 }, { o := .ld (.l 0) 1 false }, { o := .mv (.l 0), d := some 9 }] []) .skip))) (.seq (.reg [{ o := .fa (.v 7) 2 }, { o := .ld (.l 0) 1 false }, { o := .bin .mul (.i 10) (.l 0) }, { o := .mv (.v 9) }, { o := .bin .add (.l 1) (.l 0) }, { o := .bin .sub (.l 0) (.i 1) }, { o := .mv (.v 9) }, { o := .bin .quo (.l 1) (.l 0) }, { o := .mv (.l 0), d := some 6 }] []) .ret)))))))), res := [(6, none)] }
/-- /walk.quick -/
def walk_quick : Fn := { nargs := 0, vars := [0], body := (.seq (.reg [{ o := .al [.t (.int .i64 (0)), .t (.int .i64 (0)), .t (.int .i64 (0))] [], d := some 0 }] []) (.seq (.reg [{ o := .bd [.t (.int .i64 (0)), .t (.int .i64 (0)), .t (.int .i64 (0))] [(0, 1, .i 6), (1, 1, .i 9), (2, 1, .i 12)] }, { o := .st (.v 0) (.l 0) 3 [] }] []) .ret)), res := [(0, some (3, true))] }
end Go.Ev.K
namespace Go.Ev
class Has9 [Lib] : Prop where
  t_places_Absent : Lib.fs N.places_Absent = some K.places_Absent
  t_places_Renew : Lib.fs N.places_Renew = some K.places_Renew
  t_law25_agree : Lib.fs N.law25_agree = some K.law25_agree
  t_ref25_Same : Lib.fs N.ref25_Same = some K.ref25_Same
  t_law25_row : Lib.fs N.law25_row = some K.law25_row
  t_places_nowhere : Lib.fs N.places_nowhere = some K.places_nowhere
  t_places_lowered : Lib.fs N.places_lowered = some K.places_lowered
  t_places_all : Lib.fs N.places_all = some K.places_all
  t_places_shaped : Lib.fs N.places_shaped = some K.places_shaped
  t_slices_Equal_int_int : Lib.fs N.slices_Equal_int_int = some K.slices_Equal_int_int
  t_places_given : Lib.fs N.places_given = some K.places_given
  t_slices_Clone_int_int : Lib.fs N.slices_Clone_int_int = some K.slices_Clone_int_int
  t_places_Absent_1 : Lib.fs N.places_Absent_1 = some K.places_Absent_1
  t_ref25_Renew : Lib.fs N.ref25_Renew = some K.ref25_Renew
  t_places_Raise : Lib.fs N.places_Raise = some K.places_Raise
  t_places_arrivals : Lib.fs N.places_arrivals = some K.places_arrivals
  t_places_lowered_1 : Lib.fs N.places_lowered_1 = some K.places_lowered_1
  t_places_shaped_1 : Lib.fs N.places_shaped_1 = some K.places_shaped_1
  t_walk_Time : Lib.fs N.walk_Time = some K.walk_Time
  t_walk_step : Lib.fs N.walk_step = some K.walk_step
  t_walk_with : Lib.fs N.walk_with = some K.walk_with
  t_walk_quick : Lib.fs N.walk_quick = some K.walk_quick
namespace K
variable [Lib] [Has9]
theorem t_places_Absent : Lib.fs N.places_Absent = some K.places_Absent := Has9.t_places_Absent
theorem t_places_Renew : Lib.fs N.places_Renew = some K.places_Renew := Has9.t_places_Renew
theorem t_law25_agree : Lib.fs N.law25_agree = some K.law25_agree := Has9.t_law25_agree
theorem t_ref25_Same : Lib.fs N.ref25_Same = some K.ref25_Same := Has9.t_ref25_Same
theorem t_law25_row : Lib.fs N.law25_row = some K.law25_row := Has9.t_law25_row
theorem t_places_nowhere : Lib.fs N.places_nowhere = some K.places_nowhere := Has9.t_places_nowhere
theorem t_places_lowered : Lib.fs N.places_lowered = some K.places_lowered := Has9.t_places_lowered
theorem t_places_all : Lib.fs N.places_all = some K.places_all := Has9.t_places_all
theorem t_places_shaped : Lib.fs N.places_shaped = some K.places_shaped := Has9.t_places_shaped
theorem t_slices_Equal_int_int : Lib.fs N.slices_Equal_int_int = some K.slices_Equal_int_int := Has9.t_slices_Equal_int_int
theorem t_places_given : Lib.fs N.places_given = some K.places_given := Has9.t_places_given
theorem t_slices_Clone_int_int : Lib.fs N.slices_Clone_int_int = some K.slices_Clone_int_int := Has9.t_slices_Clone_int_int
theorem t_places_Absent_1 : Lib.fs N.places_Absent_1 = some K.places_Absent_1 := Has9.t_places_Absent_1
theorem t_ref25_Renew : Lib.fs N.ref25_Renew = some K.ref25_Renew := Has9.t_ref25_Renew
theorem t_places_Raise : Lib.fs N.places_Raise = some K.places_Raise := Has9.t_places_Raise
theorem t_places_arrivals : Lib.fs N.places_arrivals = some K.places_arrivals := Has9.t_places_arrivals
theorem t_places_lowered_1 : Lib.fs N.places_lowered_1 = some K.places_lowered_1 := Has9.t_places_lowered_1
theorem t_places_shaped_1 : Lib.fs N.places_shaped_1 = some K.places_shaped_1 := Has9.t_places_shaped_1
theorem t_walk_Time : Lib.fs N.walk_Time = some K.walk_Time := Has9.t_walk_Time
theorem t_walk_step : Lib.fs N.walk_step = some K.walk_step := Has9.t_walk_step
theorem t_walk_with : Lib.fs N.walk_with = some K.walk_with := Has9.t_walk_with
theorem t_walk_quick : Lib.fs N.walk_quick = some K.walk_quick := Has9.t_walk_quick
end K
end Go.Ev

/- Valid whereabouts stay so; made ones. -/
namespace Go.Ev
open Go
variable [Lib] [Has1] [Has2] [Has8] [Has9]

theorem setB_memW {l : List Int} {n : Int} (h : setB l n = true) : ∀ x ∈ l, 0 ≤ x ∧ x < n := by
  intro x hx
  simp only [setB, List.all_eq_true, List.mem_range, decide_eq_true_eq] at h
  obtain ⟨j, hj⟩ := List.mem_iff_getElem?.1 hx
  have := h j (List.getElem?_eq_some_iff.1 hj).1
  rw [nth_eq hj] at this
  exact ⟨this.1, this.2.1⟩
theorem seeN_pl {w : Wh} {l : List Int} {b : Int} {n : Nat} (hl : ∀ p ∈ l, 0 ≤ p ∧ p < n) (hw : ∀ x ∈ w.frm, plT x) (hn : w.frm.length = n) : ∀ x ∈ (seeN w l b n l.length).1, plT x := by
  intro x hx
  obtain ⟨j, hj⟩ := List.mem_iff_getElem?.1 hx
  have jl := (List.getElem?_eq_some_iff.1 hj).1
  rw [seeN_len] at jl
  have e := seeN_nth (w := w) (b := b) hl _ (Nat.le_refl _) j jl
  rw [nth_eq hj] at e
  rw [e]
  split
  · exact hw _ (nth_mem (by omega))
  · exact .inl rfl
/-- What a sight leaves. -/
theorem see_cases {m : Mine} (h : m.ok) {w : Wh} (hv : validB m w = true) (l : List Int) (a b : Int) :
    (seeF m w l a b = (⟨b, closeF m a none (seeN w l b m.places.length l.length).1⟩, 0) ∧ askedF m w l a b = 0 ∧ w.time ≤ a ∧ (seeN w l b m.places.length l.length).2 = true ∧ validB m (seeF m w l a b).1 = true) ∨ ((seeF m w l a b).1 = w ∧ (seeF m w l a b).2 ≠ 0) := by
  by_cases c0 : askedF m w l a b = 0
  · obtain ⟨-, h0, hs, ia, ib, hab⟩ := askedF_0 c0
    by_cases c1 : a < w.time
    · right; unfold seeF; rw [if_neg (by simpa using c0), if_pos c1]; exact ⟨rfl, by simp⟩
    · cases c2 : (seeN w l b m.places.length l.length).2 with
      | false => right; unfold seeF; rw [if_neg (by simpa using c0), if_neg c1, if_neg (by simp [c2])]; exact ⟨rfl, by simp⟩
      | true =>
        left
        have e : seeF m w l a b = (⟨b, closeF m a none (seeN w l b m.places.length l.length).1⟩, 0) := by
          unfold seeF; rw [if_neg (by simpa using c0), if_neg c1, if_pos c2]
        obtain ⟨v1, v2, v3, -⟩ := validB_spec hv
        refine ⟨e, c0, by omega, rfl, ?_⟩
        rw [e]
        exact close_valid h (seeN_len ..) (seeN_pl (setB_memW hs) v3 v1) ia.1 hab ib
  · right; unfold seeF; rw [if_pos c0]; exact ⟨rfl, c0⟩
/-- One round of made whereabouts: Where's loop. -/
abbrev whS (e : Dice) (m : Mine) (w : Wh) (k : Int) : St := ⟨[.bp 0 0, .und, .bp 1 0, .bp 2 0, .bp 3 0, I k, .und, .und, .und, .und], [e.obj, .box (mineCells m), .box [I 0, .nil], .box [I w.time, .t (tL w.frm)]]⟩
def whP (m : Mine) (n j : Nat) (st : St) : Prop := ∃ (e : Dice) (w : Wh), st = whS e m w ((n : Int) - j) ∧ e.light ∧ validB m w = true ∧ w.time ≤ 200 + (j : Int) * 100
end Go.Ev

/- More about operations, and searches. -/
namespace Go.Ev
open Go
variable [Lib] [Has1] [Has2]

@[go_sem] theorem opBs_3n (H : Heap) (a b : List T) : opBs H 1 [.t (.sl a), .t (.sl b), .nil] = some (.t (.sl [.sl a, .sl b, .sl []]), H) := by
  simp only [opBs, List.all_cons, List.all_nil, D.cells, T.cells, List.map_cons, List.map_nil, List.length_cons, List.length_nil, mapO, frz, depth, arrs, List.flatMap_cons, List.flatMap_nil, pins]
  rfl
/- equality of numbers side by side -/
def eqAnd (c : Bool) : Option Bool → Option Bool
  | some d => some (c && d)
  | none => none
@[go_sem] theorem eqAnd_some (c d : Bool) : eqAnd c (some d) = some (c && d) := (rfl)
@[go_sem] theorem eqInts_nil : eqInts [] [] = some true := (rfl)
@[go_sem] theorem eqInts_cons (k : IntKind) (a b : Int) (xs ys : List T) : eqInts (.int k a :: xs) (.int k b :: ys) = eqAnd (decide (a = b)) (eqInts xs ys) := by
  simp only [eqInts, if_true, beqI]
  cases eqInts xs ys <;> rfl
def eqOut (H : Heap) (neg : Bool) : Option Bool → Option (D × Heap)
  | some r => some (.t (.bool (bif neg then !r else r)), H)
  | none => none
@[go_sem] theorem eqOut_true (H : Heap) (r : Bool) : eqOut H true (some r) = some (.t (.bool (!r)), H) := (rfl)
@[go_sem] theorem eqOut_false (H : Heap) (r : Bool) : eqOut H false (some r) = some (.t (.bool r), H) := (rfl)
@[go_sem] theorem opEqk_intsG (H : Heap) (n : Nat) (neg : Bool) (xs ys : List T) : opEqk H (.ints n) neg (some (.t (.agg xs))) (some (.t (.agg ys))) = if xs.length = n then eqOut H neg (eqInts xs ys) else none := by
  simp only [opEqk, Option.bind_some, eqkD, eqD]
  by_cases h : xs.length = n
  · simp only [if_pos h]
    cases eqInts xs ys with
    | none => rfl
    | some r => cases neg <;> rfl
  · simp only [if_neg h]; rfl

@[go_sem] theorem q_cast_two : ((2 : Nat) : Int) = 2 := (rfl)
@[go_sem] theorem q_cast_three : ((3 : Nat) : Int) = 3 := (rfl)

/- A search: the first round that leaves, or the end. -/
def firstN (n : Nat) (p : Nat → Bool) : Nat := ((List.range n).find? p).getD 0
theorem loop_srch {gc : Bool} {dead : List Nat} {c : C} {vs : List D} {H : Heap} (s : Nat → St) (n : Nat) (p : Nat → Bool) (e : Nat → Ex × St) (eN : Ex × St)
    (h0 : (⟨dropV dead vs, H⟩ : St) = s 0)
    (hs : ∀ j, j < n → p j = false → roundC gc dead (s j).H.length (exS CALL c (s j)) = some (s (j + 1)))
    (he : ∀ j, j < n → p j = true → exS CALL c (s j) = some (e j) ∧ (e j).1 ≠ .normal)
    (hN : exS CALL c (s n) = some eN) (hn : eN.1 ≠ .normal) :
    exS CALL (.loop gc dead c) ⟨vs, H⟩ = some (if (List.range n).any p = true then e (firstN n p) else eN) := by
  rw [loop_first s n p e eN h0 hs he hN hn, ← find_any]
  unfold firstN
  cases hf : (List.range n).find? p with
  | none => simp
  | some k => simp
theorem any_rng {α : Type} [Dat α] (l : List α) (p : α → Bool) : ((List.range l.length).any fun j => p (nth l j)) = l.any p := by
  rw [Bool.eq_iff_iff, List.any_eq_true, List.any_eq_true]
  constructor
  · rintro ⟨j, hj, hp⟩
    exact ⟨_, nth_mem (List.mem_range.1 hj), hp⟩
  · rintro ⟨x, hx, hp⟩
    obtain ⟨j, hj, rfl⟩ := List.getElem_of_mem hx
    exact ⟨j, List.mem_range.2 hj, by rw [nth_eq (List.getElem?_eq_getElem hj)]; exact hp⟩
theorem all_rng (n : Nat) (p : Nat → Bool) : (List.range n).all p = !((List.range n).any fun j => !p j) := by
  rw [List.all_eq_not_any_not]
end Go.Ev

/- More laws of the laid-out evaluator: slices of live arrays; appending live elements; heaps that are not known cell by cell. -/
namespace Go.Ev
open Go

section
variable (H : Heap) (sz id ep n lo hi : Nat) (i j : Int) (fz : Bool)

def scO (r : D) : Option Obj → Option (D × Heap)
  | some (.arr sz' _ ep' es) => if ep = ep' ∧ n = es.length then (if sz' = sz then some (r, H) else none) else none
  | _ => none
@[go_sem] theorem scO_arr (r : D) (sz' : Nat) (pin : Bool) (es : List D) : scO H sz ep n r (some (.arr sz' pin ep es)) = if n = es.length then (if sz' = sz then some (r, H) else none) else none := by simp [scO]
theorem scR {l h : Nat} : ((arrAt H id ep n).bind fun a => if l ≤ h ∧ h ≤ n ∧ a.1 = sz then some (D.sub id ep n l h) else none).map (fun d => (d, H)) = if l ≤ h then (if h ≤ n then scO H sz ep n (.sub id ep n l h) H[id]? else none) else none := by
  simp only [arrAt]
  generalize H[id]? = o
  by_cases h1 : l ≤ h
  · by_cases h2 : h ≤ n
    · rw [if_pos h1, if_pos h2]
      rcases o with _ | (_ | ⟨sz', pin, ep', es⟩)
      · rfl
      · rfl
      · simp only [scO]
        by_cases h3 : ep = ep' ∧ n = es.length
        · rw [if_pos h3, if_pos h3, Option.bind_some]
          by_cases h4 : sz' = sz
          · rw [if_pos h4, if_pos ⟨h1, h2, h4⟩]; rfl
          · rw [if_neg h4, if_neg fun h => h4 h.2.2]; rfl
        · rw [if_neg h3, if_neg h3]; rfl
    · rw [if_pos h1, if_neg h2]
      rcases o with _ | (_ | ⟨sz', pin, ep', es⟩)
      · rfl
      · rfl
      · by_cases h3 : ep = ep' ∧ n = es.length
        · simp only [if_pos h3, Option.bind_some]; rw [if_neg fun h => h2 h.2.1]; rfl
        · simp only [if_neg h3]; rfl
  · rw [if_neg h1]
    rcases o with _ | (_ | ⟨sz', pin, ep', es⟩)
    · rfl
    · rfl
    · by_cases h3 : ep = ep' ∧ n = es.length
      · simp only [if_pos h3, Option.bind_some]; rw [if_neg fun h => h1 h.1]; rfl
      · simp only [if_neg h3]; rfl
@[go_sem] theorem opSc_ref_hi : opSc H sz (some (.ref id ep n)) (some none) (some (some i)) = if 0 ≤ i then (if i ≤ n then scO H sz ep n (.sub id ep n 0 i.toNat) H[id]? else none) else none := by
  simp only [opSc, Option.bind_some, sliceD, bound, idx]
  by_cases h1 : 0 ≤ i
  · rw [if_pos h1, if_pos h1, Option.bind_some, scR, if_pos (Nat.zero_le _)]
    by_cases h2 : i ≤ n
    · rw [if_pos h2, if_pos (by omega)]
    · rw [if_neg h2, if_neg (by omega)]
  · rw [if_neg h1, if_neg h1]; rfl
@[go_sem] theorem opSc_ref_lo : opSc H sz (some (.ref id ep n)) (some (some i)) (some none) = if 0 ≤ i then (if i ≤ n then scO H sz ep n (.sub id ep n i.toNat n) H[id]? else none) else none := by
  simp only [opSc, Option.bind_some, sliceD, bound, idx]
  by_cases h1 : 0 ≤ i
  · rw [if_pos h1, if_pos h1, Option.bind_some, scR]
    by_cases h2 : i ≤ n
    · rw [if_pos h2, if_pos (by omega), if_pos (by omega)]
    · rw [if_neg h2, if_neg (by omega)]
  · rw [if_neg h1, if_neg h1]; rfl
@[go_sem] theorem opSc_ref_lohi : opSc H sz (some (.ref id ep n)) (some (some i)) (some (some j)) = if 0 ≤ i then (if i ≤ j then (if j ≤ n then scO H sz ep n (.sub id ep n i.toNat j.toNat) H[id]? else none) else none) else none := by
  simp only [opSc, Option.bind_some, sliceD, bound, idx]
  by_cases h1 : 0 ≤ i
  · rw [if_pos h1, if_pos h1, Option.bind_some]
    by_cases h0 : i ≤ j
    · rw [if_pos h0, if_pos (by omega), Option.bind_some, scR, if_pos (by omega)]
      by_cases h2 : j ≤ n
      · rw [if_pos h2, if_pos (by omega)]
      · rw [if_neg h2, if_neg (by omega)]
    · rw [if_neg h0]
      by_cases h2 : 0 ≤ j
      · rw [if_pos h2, Option.bind_some, scR, if_neg (by omega)]
      · rw [if_neg h2]; rfl
  · rw [if_neg h1, if_neg h1]; rfl
@[go_sem] theorem opSc_nil_hi : opSc H sz (some .nil) (some none) (some (some i)) = if i = 0 then some (.nil, H) else none := by
  simp only [opSc, Option.bind_some, sliceD, bound, idx]
  by_cases h1 : 0 ≤ i
  · rw [if_pos h1, Option.bind_some]
    by_cases h2 : i = 0
    · rw [if_pos h2, if_pos (by omega)]; rfl
    · rw [if_neg h2, if_neg (by omega)]; rfl
  · rw [if_neg h1, if_neg (by omega)]; rfl
@[go_sem] theorem opSc_nil_lo : opSc H sz (some .nil) (some (some i)) (some none) = if i = 0 then some (.nil, H) else none := by
  simp only [opSc, Option.bind_some, sliceD, bound, idx]
  by_cases h1 : 0 ≤ i
  · rw [if_pos h1, Option.bind_some]
    by_cases h2 : i = 0
    · rw [if_pos h2, if_pos (by omega)]; rfl
    · rw [if_neg h2, if_neg (by omega)]; rfl
  · rw [if_neg h1, if_neg (by omega)]; rfl

/- appending elements that stay live -/
def appD (x : D) (ys : List D) : Option (D × Heap) := if headSize sz ys = true then (match x with
    | .nil => if ys.length ≤ 4294967296 then some (.ref H.length 0 ys.length, H ++ [.arr sz false 0 ys]) else none
    | .ref id ep n => appRef H sz id ep n ys H[id]?
    | _ => none) else none
@[go_sem] theorem appD_nil (ys : List D) : appD H sz .nil ys = if headSize sz ys = true then (if ys.length ≤ 4294967296 then some (.ref H.length 0 ys.length, H ++ [.arr sz false 0 ys]) else none) else none := (rfl)
@[go_sem] theorem appD_ref (ys : List D) : appD H sz (.ref id ep n) ys = if headSize sz ys = true then appRef H sz id ep n ys H[id]? else none := (rfl)
@[go_sem] theorem headSize_nil : headSize sz [] = true := (rfl)
@[go_sem] theorem headSize_cons (d : D) (r : List D) : headSize sz (d :: r) = lenIs sz d.cells := by
  rw [Bool.eq_iff_iff, lenIs_iff]; simp [headSize]

def elsO (x : D) : Option Obj → Option (D × Heap)
  | some (.arr _ _ ep' es) => if ep = ep' ∧ n = es.length then appD H sz x ((es.drop lo).take (hi - lo)) else none
  | _ => none
def elsR (x : D) : Option Obj → Option (D × Heap)
  | some (.arr _ _ ep' es) => if ep = ep' ∧ n = es.length then appD H sz x es else none
  | _ => none
@[go_sem] theorem elsO_arr (x : D) (sz' : Nat) (pin : Bool) (es : List D) : elsO H sz ep n lo hi x (some (.arr sz' pin ep es)) = if n = es.length then appD H sz x ((es.drop lo).take (hi - lo)) else none := by simp [elsO]
@[go_sem] theorem elsR_arr (x : D) (sz' : Nat) (pin : Bool) (es : List D) : elsR H sz ep n x (some (.arr sz' pin ep es)) = if n = es.length then appD H sz x es else none := by simp [elsR]

theorem appD_is (x : D) (ys : List D) : (if headSize sz ys = true then (match x with
    | .nil => if ys.length ≤ lim then some (D.ref H.length 0 ys.length, H ++ [.arr sz false 0 ys]) else none
    | .ref id ep n => (arrAt H id ep n).bind fun a => if a.1 = sz ∧ n + ys.length ≤ lim then some (.ref id ep (n + ys.length), H.set id (.arr sz a.2.1 ep (a.2.2 ++ ys))) else none
    | _ => none) else none) = appD H sz x ys := by
  unfold appD
  split
  · cases x with
    | ref id ep n =>
      simp only [arrAt]
      generalize H[id]? = o
      rcases o with _ | (_ | ⟨sz', pin, ep', es⟩)
      · rfl
      · rfl
      · simp only [appRef]
        by_cases h1 : ep = ep' ∧ n = es.length
        · rw [if_pos h1, Option.bind_some]
          by_cases h2 : sz' = sz ∧ n + ys.length ≤ lim
          · rw [if_pos h2, if_pos ⟨h1.1, h1.2, h2⟩]
          · rw [if_neg h2, if_neg fun h => h2 h.2.2]
        · rw [if_neg h1, if_neg fun h => h1 ⟨h.1, h.2.1⟩]; rfl
    | _ => rfl
  · rfl

theorem opApp_live (x y : D) (ys : List D) (h : elems H y = some ys) : opApp H sz false (some x) (some y) = appD H sz x ys := by
  simp only [opApp, Option.bind_some, appendD, h, Bool.false_eq_true, if_false]
  exact appD_is H sz x ys
@[go_sem] theorem opApp_live_nil (x : D) : opApp H sz false (some x) (some .nil) = appD H sz x [] := opApp_live H sz x .nil [] rfl
@[go_sem] theorem opApp_live_ref (x : D) : opApp H sz false (some x) (some (.ref id ep n)) = elsR H sz ep n x H[id]? := by
  cases he : elems H (.ref id ep n) with
  | some ys =>
    rw [opApp_live H sz x _ ys he]
    simp only [elems, arrAt] at he
    generalize H[id]? = o at he
    rcases o with _ | (_ | ⟨sz', pin, ep', es⟩)
    · cases he
    · cases he
    · simp only [elsR]
      by_cases h1 : ep = ep' ∧ n = es.length
      · simp only [if_pos h1] at he ⊢; cases he; rfl
      · simp only [if_neg h1] at he; cases he
  | none =>
    have : opApp H sz false (some x) (some (.ref id ep n)) = none := by simp only [opApp, Option.bind_some, appendD, he]; rfl
    rw [this]
    simp only [elems, arrAt] at he
    generalize H[id]? = o at he
    rcases o with _ | (_ | ⟨sz', pin, ep', es⟩)
    · rfl
    · rfl
    · simp only [elsR]
      by_cases h1 : ep = ep' ∧ n = es.length
      · simp only [if_pos h1] at he; cases he
      · simp only [if_neg h1]
@[go_sem] theorem opApp_live_sub (x : D) : opApp H sz false (some x) (some (.sub id ep n lo hi)) = elsO H sz ep n lo hi x H[id]? := by
  cases he : elems H (.sub id ep n lo hi) with
  | some ys =>
    rw [opApp_live H sz x _ ys he]
    simp only [elems, arrAt] at he
    generalize H[id]? = o at he
    rcases o with _ | (_ | ⟨sz', pin, ep', es⟩)
    · cases he
    · cases he
    · simp only [elsO]
      by_cases h1 : ep = ep' ∧ n = es.length
      · simp only [if_pos h1] at he ⊢; cases he; rfl
      · simp only [if_neg h1] at he; cases he
  | none =>
    have : opApp H sz false (some x) (some (.sub id ep n lo hi)) = none := by simp only [opApp, Option.bind_some, appendD, he]; rfl
    rw [this]
    simp only [elems, arrAt] at he
    generalize H[id]? = o at he
    rcases o with _ | (_ | ⟨sz', pin, ep', es⟩)
    · rfl
    · rfl
    · simp only [elsO]
      by_cases h1 : ep = ep' ∧ n = es.length
      · simp only [if_pos h1] at he; cases he
      · simp only [if_neg h1]

def opBsr (ds : List D) : Option (D × Heap) := if ds.all (fun d => d.cells.length == sz && d.solid) then some (.ref H.length 0 ds.length, H ++ [.arr sz false 0 ds]) else none
@[go_sem] theorem ev_bsr (call : Oracle) (get : X → Option D) (xs : List X) : evO call get H (.bsr xs sz) = (mapO get xs).bind (opBsr H sz) := (rfl)
@[go_sem] theorem opBsr_nil : opBsr H sz [] = some (.ref H.length 0 0, H ++ [.arr sz false 0 []]) := (rfl)
@[go_sem] theorem opBsr_agg (cs : List D) : opBsr H sz [.agg cs] = if lenIs sz cs = true then some (.ref H.length 0 1, H ++ [.arr sz false 0 [.agg cs]]) else none := by
  simp only [opBsr, List.all_cons, List.all_nil, Bool.and_true, D.cells, D.solid]
  by_cases h : lenIs sz cs = true
  · rw [if_pos h, if_pos (by simpa using lenIs_iff.1 h)]; rfl
  · rw [if_neg h, if_neg (by intro e; exact h (lenIs_iff.2 (by simpa using e)))]
end

@[go_sem] theorem q_toNat_one' : (1 : Int).toNat = 1 := (rfl)
@[go_sem] theorem q_toNat_two : (2 : Int).toNat = 2 := (rfl)
@[go_sem] theorem q_toNat_three : (3 : Int).toNat = 3 := (rfl)

/- heaps that are not known cell by cell -/
section
variable {H t : Heap} {i j k : Nat} {o o' : Obj}
theorem hp_set_get (h : i < H.length) : (H.set i o)[i]? = some o := by simp [h]
theorem hp_set_ne (h : i ≠ j) : (H.set i o)[j]? = H[j]? := List.getElem?_set_ne h
theorem hp_lt (h : H[i]? = some o) : i < H.length := (List.getElem?_eq_some_iff.1 h).1
end

end Go.Ev

/- MADE BY PROGRAM (lib.py): the compact code of functions. -/
namespace Go.Ev.K
open Go.Ev
def law28_SmokeSources_l1b : C := (.seq (.ite [{ o := .mv (.v 14) }, { o := .fa (.v 12) 1 }, { o := .ld (.l 0) 1 false }, { o := .ln (.l 0) }, { o := .bin .lss (.l 3) (.l 0) }] [] 0 .skip (.exit 0)) (.seq (.blk 1 (.ite [{ o := .fa (.v 12) 1 }, { o := .ld (.l 0) 1 false }, { o := .mv (.v 14) }, { o := .ia (.l 1) (.l 0) 1 }, { o := .ld (.l 0) 1 false }, { o := .fa (.v 8) 1 }, { o := .ld (.l 0) 1 false }, { o := .mv (.v 14) }, { o := .ia (.l 1) (.l 0) 1 }, { o := .ld (.l 0) 1 false }, { o := .fa (.v 10) 1 }, { o := .ld (.l 0) 1 false }, { o := .mv (.v 14) }, { o := .ia (.l 1) (.l 0) 1 }, { o := .ld (.l 0) 1 false }, { o := .mn [.l 5, .l 0] }, { o := .bin .neq (.l 11) (.l 0) }] [] 0 (.seq (.reg [{ o := .mv (.b false), d := some 1 }] []) .ret) .skip)) (.reg [{ o := .mv (.v 14) }, { o := .bin .add (.l 0) (.i 1) }, { o := .mv (.l 0), d := some 14 }] [])))
def law28_SmokeSources_l1 : C := .loop true [0, 1, 2, 3, 4, 5, 6, 7, 9, 11, 13] K.law28_SmokeSources_l1b
/-- /law28.SmokeSources -/
def law28_SmokeSources : Fn := { nargs := 1, vars := [0, 2, 3, 4, 5, 6, 7, 8, 9, 10, 11, 12, 13, 14, 15], body := (.seq (.reg [{ o := .mv (.b false), d := some 1 }] []) (.seq (.ite [{ o := .mv (.v 0) }, { o := .ca N.made_Light 0 [] [.l 0] }, { o := .un .not (.l 0) }] [] 0 (.seq (.reg [{ o := .ca N.law28_awake 0 [] [] }, { o := .mv (.l 0), d := some 1 }] []) .ret) .skip) (.seq (.reg [{ o := .mv (.v 0) }, { o := .ca N.made_Roll 0 [] [.l 0] }, { o := .mv (.l 0), d := some 2 }] []) (.seq (.reg [{ o := .mv (.v 2) }, { o := .ca N.made_Dice_Mine 0 [] [.l 0] }, { o := .al [.nil, .nil] [], d := some 3 }, { o := .st (.l 0) (.l 1) 2 [] }] []) (.seq (.reg [{ o := .mv (.v 2) }, { o := .ld (.v 3) 2 true }, { o := .ca N.made_Dice_Flows 0 [] [.l 1, .l 0] }, { o := .mv (.l 0), d := some 4 }] []) (.seq (.reg [{ o := .mv (.v 2) }, { o := .fa (.v 3) 0 }, { o := .ld (.l 0) 1 false }, { o := .ln (.l 0) }, { o := .ca N.made_Dice_Next 0 [] [.l 3, .l 0] }, { o := .mv (.v 2) }, { o := .fa (.v 3) 0 }, { o := .ld (.l 0) 1 false }, { o := .ln (.l 0) }, { o := .ca N.made_Dice_Next 0 [] [.l 3, .l 0] }, { o := .mv (.l 5), d := some 5 }, { o := .mv (.l 1), d := some 6 }] [(7, 0)]) (.seq (.reg [{ o := .mv (.v 5) }, { o := .mv (.v 6) }, { o := .mn [.l 1, .l 0] }, { o := .mv (.v 5) }, { o := .mv (.v 6) }, { o := .mx [.l 1, .l 0] }, { o := .bs [.l 3, .l 0] 1 }, { o := .mv (.l 0), d := some 7 }] []) (.seq (.ite [{ o := .mv (.v 5) }, { o := .mv (.v 6) }, { o := .bin .eql (.l 1) (.l 0) }] [] 0 (.reg [{ o := .mv (.v 5) }, { o := .bs [.l 0] 1 }, { o := .mv (.l 0), d := some 7 }] []) .skip) (.seq (.reg [{ o := .ld (.v 3) 2 true }, { o := .mv (.v 4) }, { o := .mv (.v 5) }, { o := .bs [.l 0] 1 }, { o := .ca N.smoke_Start 0 [] [.l 3, .l 2, .l 0, .i 30] }, { o := .mv (.l 0) }, { o := .ex (.l 0) 0 }, { o := .ex (.l 1) 1 }, { o := .al [.t (.int .i64 (0)), .nil] [], d := some 8 }, { o := .st (.l 0) (.l 2) 2 [] }, { o := .mv (.l 2), d := some 9 }] []) (.seq (.reg [{ o := .ld (.v 3) 2 true }, { o := .mv (.v 4) }, { o := .mv (.v 6) }, { o := .bs [.l 0] 1 }, { o := .ca N.smoke_Start 0 [] [.l 3, .l 2, .l 0, .i 30] }, { o := .mv (.l 0) }, { o := .ex (.l 0) 0 }, { o := .ex (.l 1) 1 }, { o := .al [.t (.int .i64 (0)), .nil] [], d := some 10 }, { o := .st (.l 0) (.l 2) 2 [] }, { o := .mv (.l 2), d := some 11 }] []) (.seq (.reg [{ o := .ld (.v 3) 2 true }, { o := .mv (.v 4) }, { o := .mv (.v 7) }, { o := .ca N.smoke_Start 0 [] [.l 2, .l 1, .l 0, .i 30] }, { o := .mv (.l 0) }, { o := .ex (.l 0) 0 }, { o := .ex (.l 1) 1 }, { o := .al [.t (.int .i64 (0)), .nil] [], d := some 12 }, { o := .st (.l 0) (.l 2) 2 [] }, { o := .mv (.l 2), d := some 13 }] []) (.seq (.ite [{ o := .mv (.v 9) }, { o := .bin .neq (.l 0) (.i 0) }, { o := .mv (.l 0) }, { o := .mv (.v 11), g := some (0, false) }, { o := .bin .neq (.l 0) (.i 0), g := some (1, false) }, { o := .pk (.l 2) (.b true) (.l 0) }, { o := .mv (.l 0) }, { o := .mv (.v 13), g := some (0, false) }, { o := .bin .neq (.l 0) (.i 0), g := some (1, false) }, { o := .pk (.l 2) (.b true) (.l 0) }, { o := .mv (.l 0) }, { o := .fa (.v 8) 1, g := some (0, false) }, { o := .ld (.l 0) 1 false, g := some (1, false) }, { o := .ln (.l 0), g := some (2, false) }, { o := .fa (.v 3) 0, g := some (3, false) }, { o := .ld (.l 0) 1 false, g := some (4, false) }, { o := .ln (.l 0), g := some (5, false) }, { o := .bin .neq (.l 3) (.l 0), g := some (6, false) }, { o := .pk (.l 7) (.b true) (.l 0) }, { o := .mv (.l 0) }, { o := .fa (.v 10) 1, g := some (0, false) }, { o := .ld (.l 0) 1 false, g := some (1, false) }, { o := .ln (.l 0), g := some (2, false) }, { o := .fa (.v 3) 0, g := some (3, false) }, { o := .ld (.l 0) 1 false, g := some (4, false) }, { o := .ln (.l 0), g := some (5, false) }, { o := .bin .neq (.l 3) (.l 0), g := some (6, false) }, { o := .pk (.l 7) (.b true) (.l 0) }, { o := .mv (.l 0) }, { o := .fa (.v 12) 1, g := some (0, false) }, { o := .ld (.l 0) 1 false, g := some (1, false) }, { o := .ln (.l 0), g := some (2, false) }, { o := .fa (.v 3) 0, g := some (3, false) }, { o := .ld (.l 0) 1 false, g := some (4, false) }, { o := .ln (.l 0), g := some (5, false) }, { o := .bin .neq (.l 3) (.l 0), g := some (6, false) }, { o := .pk (.l 7) (.b true) (.l 0) }] [] 0 (.seq (.reg [{ o := .mv (.b false), d := some 1 }] []) .ret) .skip) (.seq (.seq (.reg [{ o := .mv (.i 0), d := some 14 }] []) (.blk 0 K.law28_SmokeSources_l1)) (.seq (.reg [{ o := .ca N.law28_awake 0 [] [] }, { o := .mv (.l 0), d := some 1 }] []) .ret)))))))))))))), res := [(1, none)] }
def law28_SmokeRuns_l1b : C := (.seq (.ite [{ o := .mv (.v 9) }, { o := .bin .gtr (.l 0) (.i 0) }, { o := .mv (.l 0) }, { o := .mv (.v 7), g := some (0, true) }, { o := .bin .eql (.l 0) (.i 0), g := some (1, true) }, { o := .pk (.l 2) (.l 0) (.b false) }] [] 0 .skip (.exit 0)) (.seq (.blk 1 (.seq (.ite [{ o := .ld (.v 6) 2 true }, { o := .mv (.v 8) }, { o := .ca N.smoke_Filled 0 [] [.l 1, .l 0] }, { o := .mv (.v 5) }, { o := .ca N.ref23_Has 0 [] [.l 1, .l 0] }, { o := .un .not (.l 0) }] [] 0 (.seq (.reg [{ o := .mv (.b false), d := some 1 }] []) .ret) .skip) (.seq (.reg [{ o := .mv (.v 2) }, { o := .fa (.v 3) 1 }, { o := .ld (.l 0) 1 false }, { o := .ln (.l 0) }, { o := .ca N.made_Dice_Next 0 [] [.l 3, .l 0] }, { o := .mv (.v 2) }, { o := .ca N.made_Dice_One 0 [] [.l 0, .i 2] }, { o := .mv (.l 2), d := some 10 }, { o := .mv (.l 1), d := some 11 }] []) (.seq (.reg [{ o := .fa (.v 3) 1 }, { o := .ld (.l 0) 1 false }, { o := .mv (.v 10) }, { o := .ia (.l 1) (.l 0) 10 }, { o := .fa (.l 0) 0 }, { o := .ld (.l 0) 1 false }, { o := .fa (.v 3) 1 }, { o := .ld (.l 0) 1 false }, { o := .mv (.v 10) }, { o := .ia (.l 1) (.l 0) 10 }, { o := .fa (.l 0) 1 }, { o := .ld (.l 0) 1 false }, { o := .mv (.l 6), d := some 12 }, { o := .mv (.l 1), d := some 13 }] []) (.seq (.ite [{ o := .mv (.v 11) }] [] 0 (.reg [{ o := .mv (.v 13) }, { o := .mv (.v 12) }, { o := .mv (.l 1), d := some 12 }, { o := .mv (.l 1), d := some 13 }] []) .skip) (.seq (.reg [{ o := .ld (.v 3) 2 true }, { o := .mv (.v 10) }, { o := .mv (.v 4) }, { o := .mv (.v 10) }, { o := .ia (.l 1) (.l 0) 2 }, { o := .ld (.l 0) 2 true }, { o := .mv (.v 11) }, { o := .ca N.smoke_Travel 0 [] [.l 6, .l 5, .l 1, .l 0] }, { o := .mv (.l 0), d := some 14 }] []) (.seq (.ite [{ o := .mv (.v 12) }, { o := .mv (.v 5) }, { o := .bin .neq (.l 1) (.l 0) }, { o := .mv (.l 0) }, { o := .mv (.v 14), g := some (0, false) }, { o := .bin .lss (.l 0) (.i 0), g := some (1, false) }, { o := .pk (.l 2) (.b true) (.l 0) }] [] 0 (.seq (.reg [{ o := .mv (.v 8) }, { o := .mv (.v 2) }, { o := .ca N.made_Dice_Next 0 [] [.l 0, .i 30] }, { o := .bin .add (.l 2) (.l 0) }, { o := .mv (.l 0), d := some 8 }] []) (.exit 1)) .skip) (.seq (.ite [{ o := .mv (.v 2) }, { o := .ca N.made_Dice_One 0 [] [.l 0, .i 3] }] [] 0 (.seq (.reg [{ o := .mv (.v 8) }, { o := .mv (.v 2) }, { o := .mv (.v 14) }, { o := .bin .add (.l 0) (.i 1) }, { o := .ca N.made_Dice_Next 0 [] [.l 2, .l 0] }, { o := .bin .add (.l 4) (.l 0) }, { o := .mv (.l 0), d := some 8 }] []) (.seq (.reg [{ o := .mv (.v 2) }, { o := .ld (.v 3) 2 true }, { o := .ca N.made_Dice_Flows 0 [] [.l 1, .l 0] }, { o := .mv (.l 0), d := some 15 }] []) (.seq (.reg [{ o := .ld (.v 3) 2 true }, { o := .mv (.v 4) }, { o := .ld (.v 3) 2 true }, { o := .mv (.v 15) }, { o := .ld (.v 6) 2 true }, { o := .mv (.v 8) }, { o := .ca N.smoke_Change 0 [] [.l 5, .l 4, .l 3, .l 2, .l 1, .l 0] }, { o := .mv (.l 0) }, { o := .ex (.l 0) 0 }, { o := .ex (.l 1) 1 }, { o := .st (.v 6) (.l 1) 2 [] }, { o := .mv (.l 1), d := some 7 }] []) (.seq (.reg [{ o := .mv (.v 15) }, { o := .mv (.v 13) }, { o := .mv (.l 1), d := some 4 }, { o := .mv (.l 1), d := some 5 }] []) (.exit 1))))) .skip) (.reg [{ o := .mv (.v 8) }, { o := .mv (.v 14) }, { o := .bin .add (.l 1) (.l 0) }, { o := .mv (.v 2) }, { o := .ca N.made_Dice_Next 0 [] [.l 0, .i 20] }, { o := .bin .add (.l 2) (.l 0) }, { o := .mv (.v 13) }, { o := .mv (.l 1), d := some 8 }, { o := .mv (.l 1), d := some 5 }] []))))))))) (.reg [{ o := .mv (.v 9) }, { o := .bin .sub (.l 0) (.i 1) }, { o := .mv (.l 0), d := some 9 }] [])))
def law28_SmokeRuns_l1 : C := .loop true [0, 1, 10, 11, 12, 13, 14, 15] K.law28_SmokeRuns_l1b
/-- /law28.SmokeRuns -/
def law28_SmokeRuns : Fn := { nargs := 1, vars := [0, 2, 3, 4, 5, 6, 7, 8, 9, 10, 11, 12, 13, 14, 15, 16], body := (.seq (.reg [{ o := .mv (.b false), d := some 1 }] []) (.seq (.ite [{ o := .mv (.v 0) }, { o := .ca N.made_Light 0 [] [.l 0] }, { o := .un .not (.l 0) }] [] 0 (.seq (.reg [{ o := .ca N.law28_awake 0 [] [] }, { o := .mv (.l 0), d := some 1 }] []) .ret) .skip) (.seq (.reg [{ o := .mv (.v 0) }, { o := .ca N.made_Roll 0 [] [.l 0] }, { o := .mv (.l 0), d := some 2 }] []) (.seq (.reg [{ o := .mv (.v 2) }, { o := .ca N.made_Dice_Mine 0 [] [.l 0] }, { o := .al [.nil, .nil] [], d := some 3 }, { o := .st (.l 0) (.l 1) 2 [] }] []) (.seq (.reg [{ o := .mv (.v 2) }, { o := .ld (.v 3) 2 true }, { o := .ca N.made_Dice_Flows 0 [] [.l 1, .l 0] }, { o := .mv (.l 0), d := some 4 }] []) (.seq (.reg [{ o := .mv (.v 2) }, { o := .fa (.v 3) 0 }, { o := .ld (.l 0) 1 false }, { o := .ln (.l 0) }, { o := .ca N.made_Dice_Next 0 [] [.l 3, .l 0] }, { o := .mv (.l 0), d := some 5 }] []) (.seq (.reg [{ o := .ld (.v 3) 2 true }, { o := .mv (.v 4) }, { o := .mv (.v 5) }, { o := .bs [.l 0] 1 }, { o := .ca N.smoke_Start 0 [] [.l 3, .l 2, .l 0, .i 0] }, { o := .mv (.l 0) }, { o := .ex (.l 0) 0 }, { o := .ex (.l 1) 1 }, { o := .al [.t (.int .i64 (0)), .nil] [], d := some 6 }, { o := .st (.l 0) (.l 2) 2 [] }, { o := .mv (.l 2), d := some 7 }] []) (.seq (.reg [{ o := .mv (.i 0), d := some 8 }] []) (.seq (.seq (.reg [{ o := .mv (.v 2) }, { o := .ca N.made_Dice_Next 0 [] [.l 0, .i 25] }, { o := .mv (.l 0), d := some 9 }] []) (.blk 0 K.law28_SmokeRuns_l1)) (.seq (.reg [{ o := .ca N.law28_awake 0 [] [] }, { o := .mv (.l 0) }, { o := .mv (.v 7), g := some (0, true) }, { o := .bin .eql (.l 0) (.i 0), g := some (1, true) }, { o := .pk (.l 2) (.l 0) (.b false) }, { o := .mv (.l 0) }, { o := .ld (.v 6) 2 true, g := some (0, true) }, { o := .mv (.v 8), g := some (1, true) }, { o := .ca N.smoke_Filled 0 [] [.l 1, .l 0], g := some (2, true) }, { o := .mv (.v 5), g := some (3, true) }, { o := .ca N.ref23_Has 0 [] [.l 1, .l 0], g := some (4, true) }, { o := .pk (.l 5) (.l 0) (.b false) }, { o := .mv (.l 0), d := some 1 }] []) .ret)))))))))), res := [(1, none)] }
def law28_SmokeMade_l2b : C := (.its  [{ o := .bin .lss (.v 17) (.v 16) }] [] 0 .skip (.exit 2) (.seq (.blk 3 (.seq (.reg [{ o := .ia (.v 15) (.v 17) 1 }, { o := .ld (.l 0) 1 false }, { o := .mv (.l 0), d := some 12 }] []) (.seq (.reg [{ o := .mv (.v 7) }, { o := .mv (.v 11) }, { o := .mv (.v 7) }, { o := .ln (.l 0) }, { o := .ca N.made_Mod 0 [] [.l 2, .l 0] }, { o := .ia (.l 4) (.l 0) 2 }, { o := .ld (.l 0) 2 true }, { o := .al [.t (.int .i64 (0)), .t (.int .i64 (0))] [], d := some 13 }, { o := .st (.l 0) (.l 1) 2 [] }] []) (.seq (.ite [{ o := .ld (.v 6) 2 true }, { o := .mv (.v 11) }, { o := .ld (.v 13) 2 true }, { o := .mv (.v 12) }, { o := .ca N.smoke_Travel 0 [] [.l 3, .l 2, .l 1, .l 0] }, { o := .ld (.v 6) 2 true }, { o := .mv (.v 11) }, { o := .ld (.v 13) 2 true }, { o := .mv (.v 12) }, { o := .ca N.ref28_Travel 0 [] [.l 3, .l 2, .l 1, .l 0] }, { o := .bin .neq (.l 5) (.l 0) }] [(5, 0), (7, 0)] 0 (.seq (.reg [{ o := .mv (.b false), d := some 4 }] []) .ret) .skip) (.ite [{ o := .ld (.v 3) 2 true }, { o := .ca N.ref28_Span 0 [] [.l 0] }, { o := .mv (.l 0) }, { o := .ld (.v 6) 2 true, g := some (0, true) }, { o := .mv (.v 1), g := some (1, true) }, { o := .ld (.v 3) 2 true, g := some (2, true) }, { o := .mv (.v 12), g := some (3, true) }, { o := .ca N.smoke_Travel 0 [] [.l 3, .l 2, .l 1, .l 0], g := some (4, true) }, { o := .ld (.v 6) 2 true, g := some (5, true) }, { o := .mv (.v 1), g := some (6, true) }, { o := .ld (.v 3) 2 true, g := some (7, true) }, { o := .mv (.v 12), g := some (8, true) }, { o := .ca N.ref28_Travel 0 [] [.l 3, .l 2, .l 1, .l 0], g := some (9, true) }, { o := .bin .neq (.l 5) (.l 0), g := some (10, true) }, { o := .mv (.l 0), g := some (11, true) }, { o := .ld (.v 6) 2 true, g := some (0, false) }, { o := .mv (.v 11), g := some (1, false) }, { o := .ld (.v 3) 2 true, g := some (2, false) }, { o := .mv (.v 12), g := some (3, false) }, { o := .ca N.smoke_Travel 0 [] [.l 3, .l 2, .l 1, .l 0], g := some (4, false) }, { o := .ld (.v 6) 2 true, g := some (5, false) }, { o := .mv (.v 11), g := some (6, false) }, { o := .ld (.v 3) 2 true, g := some (7, false) }, { o := .mv (.v 12), g := some (8, false) }, { o := .ca N.ref28_Travel 0 [] [.l 3, .l 2, .l 1, .l 0], g := some (9, false) }, { o := .bin .neq (.l 5) (.l 0), g := some (10, false) }, { o := .pk (.l 11) (.b true) (.l 0), g := some (23, true) }, { o := .pk (.l 24) (.l 0) (.b false) }] [(8, 2), (10, 2), (20, 13), (22, 13)] 0 (.seq (.reg [{ o := .mv (.b false), d := some 4 }] []) .ret) .skip))))) (.reg [{ o := .bin .add (.v 17) (.i 1) }, { o := .mv (.l 0), d := some 17 }] [])))
def law28_SmokeMade_l2 : C := .loop true [0, 2, 4, 12, 13, 14] K.law28_SmokeMade_l2b
def law28_SmokeMade_l1b : C := (.seq (.ite [{ o := .mv (.v 11) }, { o := .fa (.v 6) 1 }, { o := .ld (.l 0) 1 false }, { o := .ln (.l 0) }, { o := .bin .leq (.l 3) (.l 0) }] [] 0 .skip (.exit 0)) (.seq (.blk 1 (.seq (.reg [{ o := .bs [.b false, .b true] 1, d := some 15 }, { o := .ln (.l 0), d := some 16 }, { o := .mv (.i 0), d := some 17 }] []) (.blk 2 K.law28_SmokeMade_l2))) (.reg [{ o := .mv (.v 11) }, { o := .bin .add (.l 0) (.i 1) }, { o := .mv (.l 0), d := some 11 }] [])))
def law28_SmokeMade_l1 : C := .loop true [0, 2, 4, 12, 13, 14, 15, 16, 17] K.law28_SmokeMade_l1b
/-- /law28.SmokeMade -/
def law28_SmokeMade : Fn := { nargs := 3, vars := [0, 1, 2, 5, 6, 7, 8, 9, 10, 11, 12, 13, 15, 16, 17, 59, 60, 61], body := (.seq (.reg [{ o := .bx (.v 2) 2, d := some 3 }, { o := .mv (.b false), d := some 4 }] []) (.seq (.ite [{ o := .mv (.v 0) }, { o := .ca N.made_Light 0 [] [.l 0] }, { o := .un .not (.l 0) }] [] 0 (.seq (.reg [{ o := .ca N.law28_awake 0 [] [] }, { o := .mv (.l 0), d := some 4 }] []) .ret) .skip) (.seq (.reg [{ o := .mv (.v 0) }, { o := .ca N.made_Roll 0 [] [.l 0] }, { o := .mv (.l 0), d := some 5 }] []) (.seq (.reg [{ o := .mv (.v 5) }, { o := .ca N.made_Dice_Mine 0 [] [.l 0] }, { o := .al [.nil, .nil] [], d := some 6 }, { o := .st (.l 0) (.l 1) 2 [] }] []) (.seq (.reg [{ o := .mv (.v 5) }, { o := .ld (.v 6) 2 true }, { o := .ca N.made_Dice_Flows 0 [] [.l 1, .l 0] }, { o := .mv (.v 5) }, { o := .ld (.v 6) 2 true }, { o := .ca N.made_Dice_Flows 0 [] [.l 1, .l 0] }, { o := .mv (.l 3), d := some 7 }, { o := .mv (.l 1), d := some 8 }] [(4, 0)]) (.seq (.reg [{ o := .mv (.v 5) }, { o := .ld (.v 6) 2 true }, { o := .mv (.v 7) }, { o := .ca N.made_Dice_Spread 0 [] [.l 2, .l 1, .l 0] }, { o := .al [.t (.int .i64 (0)), .nil] [], d := some 9 }, { o := .st (.l 0) (.l 1) 2 [] }] []) (.seq (.reg [{ o := .ld (.v 6) 2 true }, { o := .al [.nil, .nil] [], d := some 10 }, { o := .st (.l 0) (.l 1) 2 [] }] []) (.seq (.reg [{ o := .fa (.v 6) 1 }, { o := .ld (.l 0) 1 false }, { o := .app (.c (.nil)) (.l 0) true 10 }, { o := .fa (.v 10) 1 }, { o := .st (.l 0) (.l 1) 1 [] }] []) (.seq (.reg [{ o := .fa (.v 10) 1 }, { o := .ld (.l 0) 1 false }, { o := .mv (.v 5) }, { o := .fa (.v 10) 1 }, { o := .ld (.l 0) 1 false }, { o := .ln (.l 0) }, { o := .ca N.made_Dice_Next 0 [] [.l 3, .l 0] }, { o := .mv (.v 5) }, { o := .ca N.made_Dice_One 0 [] [.l 0, .i 2] }, { o := .ia (.l 7) (.l 2) 10 }, { o := .fa (.l 0) 5 }, { o := .st (.l 0) (.l 2) 1 [] }] [(1, 7), (1, 9)]) (.seq (.seq (.reg [{ o := .mv (.i (-1)), d := some 11 }] []) (.blk 0 K.law28_SmokeMade_l1)) (.seq (.reg [{ o := .mv (.v 8) }, { o := .app (.c (.nil)) (.l 0) true 2 }, { o := .mv (.l 0), d := some 14 }] []) (.seq (.reg [{ o := .mv (.v 14) }, { o := .mv (.v 5) }, { o := .mv (.v 14) }, { o := .ln (.l 0) }, { o := .ca N.made_Dice_Next 0 [] [.l 2, .l 0] }, { o := .ld (.v 3) 2 true }, { o := .ia (.l 5) (.l 1) 2 }, { o := .st (.l 0) (.l 1) 2 [] }] [(5, 0)]) (.seq (.reg [{ o := .ca N.law28_awake 0 [] [] }, { o := .mv (.l 0) }, { o := .ld (.v 6) 2 true, g := some (0, true) }, { o := .mv (.v 7), g := some (1, true) }, { o := .ld (.v 10) 2 true, g := some (2, true) }, { o := .mv (.v 8), g := some (3, true) }, { o := .ld (.v 9) 2 true, g := some (4, true) }, { o := .mv (.v 5), g := some (5, true) }, { o := .fa (.v 6) 0, g := some (6, true) }, { o := .ld (.l 0) 1 false, g := some (7, true) }, { o := .ln (.l 0), g := some (8, true) }, { o := .ca N.made_Dice_Some 0 [] [.l 3, .l 0], g := some (9, true) }, { o := .fa (.v 9) 0, g := some (10, true) }, { o := .ld (.l 0) 1 false, g := some (11, true) }, { o := .mv (.v 5), g := some (12, true) }, { o := .bs [.i 0, .i 30, .i 200, .i (-1)] 1, g := some (13, true) }, { o := .ca N.made_Dice_Of 0 [] [.l 1, .l 0], g := some (14, true) }, { o := .bin .add (.l 3) (.l 0), g := some (15, true) }, { o := .ca N.law28_agree 0 [] [.l 15, .l 14, .l 13, .l 12, .l 11, .l 6, .l 0], g := some (16, true) }, { o := .pk (.l 17) (.l 0) (.b false) }, { o := .mv (.l 0) }, { o := .ld (.v 6) 2 true, g := some (0, true) }, { o := .mv (.v 14), g := some (1, true) }, { o := .ld (.v 10) 2 true, g := some (2, true) }, { o := .mv (.v 14), g := some (3, true) }, { o := .ld (.v 9) 2 true, g := some (4, true) }, { o := .bs [.i 0] 1, g := some (5, true) }, { o := .fa (.v 9) 0, g := some (6, true) }, { o := .ld (.l 0) 1 false, g := some (7, true) }, { o := .bin .add (.l 0) (.i 9), g := some (8, true) }, { o := .ca N.law28_agree 0 [] [.l 8, .l 7, .l 6, .l 5, .l 4, .l 3, .l 0], g := some (9, true) }, { o := .pk (.l 10) (.l 0) (.b false) }, { o := .mv (.l 0), d := some 4 }] [(2, 12), (2, 17), (4, 12), (4, 17), (6, 12), (6, 17), (13, 1), (13, 17), (15, 1), (21, 27), (23, 27), (25, 27), (28, 19)]) .ret))))))))))))), res := [(4, none)] }
def law28_SmokeGrows_l1b : C := (.seq (.ite [{ o := .mv (.v 15) }, { o := .fa (.v 6) 1 }, { o := .ld (.l 0) 1 false }, { o := .ln (.l 0) }, { o := .bin .lss (.l 3) (.l 0) }] [] 0 .skip (.exit 0)) (.seq (.blk 1 (.ite [{ o := .fa (.v 13) 1 }, { o := .ld (.l 0) 1 false }, { o := .mv (.v 15) }, { o := .ia (.l 1) (.l 0) 1 }, { o := .ld (.l 0) 1 false }, { o := .fa (.v 6) 1 }, { o := .ld (.l 0) 1 false }, { o := .mv (.v 15) }, { o := .ia (.l 1) (.l 0) 1 }, { o := .ld (.l 0) 1 false }, { o := .bin .gtr (.l 5) (.l 0) }] [] 0 (.seq (.reg [{ o := .mv (.b false), d := some 1 }] []) .ret) .skip)) (.reg [{ o := .mv (.v 15) }, { o := .bin .add (.l 0) (.i 1) }, { o := .mv (.l 0), d := some 15 }] [])))
def law28_SmokeGrows_l1 : C := .loop true [0, 1, 2, 4, 5, 7, 10, 11, 12, 14, 16, 17] K.law28_SmokeGrows_l1b
def law28_SmokeGrows_l2b : C := (.seq (.ite [{ o := .mv (.v 17) }, { o := .mv (.v 16) }, { o := .ln (.l 0) }, { o := .bin .lss (.l 2) (.l 0) }] [] 0 .skip (.exit 2)) (.seq (.blk 3 (.ite [{ o := .ld (.v 9) 2 true }, { o := .mv (.v 8) }, { o := .ca N.smoke_Filled 0 [] [.l 1, .l 0] }, { o := .mv (.v 16) }, { o := .mv (.v 17) }, { o := .ia (.l 1) (.l 0) 1 }, { o := .ld (.l 0) 1 false }, { o := .ca N.ref23_Has 0 [] [.l 4, .l 0] }, { o := .un .not (.l 0) }, { o := .mv (.l 0) }, { o := .ld (.v 9) 2 true, g := some (0, false) }, { o := .mv (.v 8), g := some (1, false) }, { o := .bin .add (.l 0) (.i 50), g := some (2, false) }, { o := .ca N.smoke_Free 0 [] [.l 2, .l 0], g := some (3, false) }, { o := .mv (.v 16), g := some (4, false) }, { o := .mv (.v 17), g := some (5, false) }, { o := .ia (.l 1) (.l 0) 1, g := some (6, false) }, { o := .ld (.l 0) 1 false, g := some (7, false) }, { o := .ca N.ref23_Has 0 [] [.l 4, .l 0], g := some (8, false) }, { o := .pk (.l 9) (.b true) (.l 0) }] [(5, 0), (6, 0), (16, 8), (17, 8)] 0 (.seq (.reg [{ o := .mv (.b false), d := some 1 }] []) .ret) .skip)) (.reg [{ o := .mv (.v 17) }, { o := .bin .add (.l 0) (.i 1) }, { o := .mv (.l 0), d := some 17 }] [])))
def law28_SmokeGrows_l2 : C := .loop true [0, 1, 2, 4, 5, 7, 10, 11, 12, 13, 14, 15] K.law28_SmokeGrows_l2b
/-- /law28.SmokeGrows -/
def law28_SmokeGrows : Fn := { nargs := 1, vars := [0, 2, 3, 4, 5, 6, 7, 8, 9, 10, 11, 12, 13, 14, 15, 16, 17, 18], body := (.seq (.reg [{ o := .mv (.b false), d := some 1 }] []) (.seq (.ite [{ o := .mv (.v 0) }, { o := .ca N.made_Light 0 [] [.l 0] }, { o := .un .not (.l 0) }] [] 0 (.seq (.reg [{ o := .ca N.law28_awake 0 [] [] }, { o := .mv (.l 0), d := some 1 }] []) .ret) .skip) (.seq (.reg [{ o := .mv (.v 0) }, { o := .ca N.made_Roll 0 [] [.l 0] }, { o := .mv (.l 0), d := some 2 }] []) (.seq (.reg [{ o := .mv (.v 2) }, { o := .ca N.made_Dice_Mine 0 [] [.l 0] }, { o := .al [.nil, .nil] [], d := some 3 }, { o := .st (.l 0) (.l 1) 2 [] }] []) (.seq (.reg [{ o := .mv (.v 2) }, { o := .ld (.v 3) 2 true }, { o := .ca N.made_Dice_Flows 0 [] [.l 1, .l 0] }, { o := .mv (.l 0), d := some 4 }] []) (.seq (.reg [{ o := .mv (.v 2) }, { o := .fa (.v 3) 0 }, { o := .ld (.l 0) 1 false }, { o := .ln (.l 0) }, { o := .ca N.made_Dice_Next 0 [] [.l 3, .l 0] }, { o := .bs [.l 0] 1 }, { o := .mv (.l 0), d := some 5 }] []) (.seq (.reg [{ o := .ld (.v 3) 2 true }, { o := .mv (.v 4) }, { o := .mv (.v 5) }, { o := .ca N.smoke_Start 0 [] [.l 2, .l 1, .l 0, .i 100] }, { o := .mv (.l 0) }, { o := .ex (.l 0) 0 }, { o := .ex (.l 1) 1 }, { o := .al [.t (.int .i64 (0)), .nil] [], d := some 6 }, { o := .st (.l 0) (.l 2) 2 [] }, { o := .mv (.l 2), d := some 7 }] []) (.seq (.reg [{ o := .mv (.v 2) }, { o := .ca N.made_Dice_Next 0 [] [.l 0, .i 200] }, { o := .bin .add (.i 100) (.l 0) }, { o := .mv (.l 0), d := some 8 }] []) (.seq (.reg [{ o := .al [.t (.int .i64 (0)), .nil] [], d := some 9 }, { o := .ld (.v 3) 2 true }, { o := .mv (.v 4) }, { o := .ld (.v 3) 2 true }, { o := .mv (.v 2) }, { o := .ld (.v 3) 2 true }, { o := .ca N.made_Dice_Flows 0 [] [.l 1, .l 0] }, { o := .ld (.v 6) 2 true }, { o := .mv (.v 8) }, { o := .ca N.smoke_Change 0 [] [.l 7, .l 6, .l 5, .l 2, .l 1, .l 0] }, { o := .mv (.l 0) }, { o := .ex (.l 0) 0 }, { o := .ex (.l 1) 1 }, { o := .st (.l 12) (.l 1) 2 [] }, { o := .mv (.l 1), d := some 10 }] [(0, 7), (0, 10), (1, 7), (3, 7), (7, 1)]) (.seq (.reg [{ o := .mv (.v 4) }, { o := .app (.c (.nil)) (.l 0) true 2 }, { o := .mv (.l 0), d := some 11 }] []) (.seq (.reg [{ o := .mv (.v 2) }, { o := .mv (.v 11) }, { o := .ln (.l 0) }, { o := .ca N.made_Dice_Next 0 [] [.l 2, .l 0] }, { o := .mv (.l 0), d := some 12 }] []) (.seq (.reg [{ o := .mv (.v 11) }, { o := .mv (.v 12) }, { o := .mv (.v 11) }, { o := .mv (.v 12) }, { o := .mv (.v 11) }, { o := .mv (.v 12) }, { o := .ia (.l 1) (.l 0) 2 }, { o := .fa (.l 0) 0 }, { o := .ld (.l 0) 1 false }, { o := .mv (.v 2) }, { o := .ca N.made_Dice_Next 0 [] [.l 0, .i 3000] }, { o := .bin .sub (.l 2) (.l 0) }, { o := .mx [.i (-1125899906842624), .l 0] }, { o := .mv (.v 11) }, { o := .mv (.v 12) }, { o := .ia (.l 1) (.l 0) 2 }, { o := .fa (.l 0) 1 }, { o := .ld (.l 0) 1 false }, { o := .mv (.v 2) }, { o := .ca N.made_Dice_Next 0 [] [.l 0, .i 3000] }, { o := .bin .add (.l 2) (.l 0) }, { o := .mn [.i 1125899906842624, .l 0] }, { o := .ia (.l 21) (.l 20) 2 }, { o := .fa (.l 0) 0 }, { o := .st (.l 0) (.l 11) 1 [] }, { o := .ia (.l 22) (.l 21) 2 }, { o := .fa (.l 0) 1 }, { o := .st (.l 0) (.l 5) 1 [] }] [(6, 11), (6, 20), (8, 11), (8, 20), (15, 0), (15, 20), (17, 0), (17, 20)]) (.seq (.reg [{ o := .ld (.v 3) 2 true }, { o := .mv (.v 11) }, { o := .mv (.v 5) }, { o := .ca N.smoke_Start 0 [] [.l 2, .l 1, .l 0, .i 100] }, { o := .mv (.l 0) }, { o := .ex (.l 0) 0 }, { o := .ex (.l 1) 1 }, { o := .al [.t (.int .i64 (0)), .nil] [], d := some 13 }, { o := .st (.l 0) (.l 2) 2 [] }, { o := .mv (.l 2), d := some 14 }] []) (.seq (.ite [{ o := .mv (.v 7) }, { o := .bin .neq (.l 0) (.i 0) }, { o := .mv (.l 0) }, { o := .mv (.v 10), g := some (0, false) }, { o := .bin .neq (.l 0) (.i 0), g := some (1, false) }, { o := .pk (.l 2) (.b true) (.l 0) }, { o := .mv (.l 0) }, { o := .mv (.v 14), g := some (0, false) }, { o := .bin .neq (.l 0) (.i 0), g := some (1, false) }, { o := .pk (.l 2) (.b true) (.l 0) }, { o := .mv (.l 0) }, { o := .fa (.v 6) 1, g := some (0, false) }, { o := .ld (.l 0) 1 false, g := some (1, false) }, { o := .ln (.l 0), g := some (2, false) }, { o := .fa (.v 3) 0, g := some (3, false) }, { o := .ld (.l 0) 1 false, g := some (4, false) }, { o := .ln (.l 0), g := some (5, false) }, { o := .bin .neq (.l 3) (.l 0), g := some (6, false) }, { o := .pk (.l 7) (.b true) (.l 0) }, { o := .mv (.l 0) }, { o := .fa (.v 13) 1, g := some (0, false) }, { o := .ld (.l 0) 1 false, g := some (1, false) }, { o := .ln (.l 0), g := some (2, false) }, { o := .fa (.v 6) 1, g := some (3, false) }, { o := .ld (.l 0) 1 false, g := some (4, false) }, { o := .ln (.l 0), g := some (5, false) }, { o := .bin .neq (.l 3) (.l 0), g := some (6, false) }, { o := .pk (.l 7) (.b true) (.l 0) }] [] 0 (.seq (.reg [{ o := .mv (.b false), d := some 1 }] []) .ret) .skip) (.seq (.seq (.reg [{ o := .mv (.i 0), d := some 15 }] []) (.blk 0 K.law28_SmokeGrows_l1)) (.seq (.reg [{ o := .ld (.v 6) 2 true }, { o := .mv (.v 8) }, { o := .ca N.smoke_Filled 0 [] [.l 1, .l 0] }, { o := .mv (.l 0), d := some 16 }] []) (.seq (.seq (.reg [{ o := .mv (.i 0), d := some 17 }] []) (.blk 2 K.law28_SmokeGrows_l2)) (.seq (.reg [{ o := .ca N.law28_awake 0 [] [] }, { o := .mv (.l 0) }, { o := .ld (.v 6) 2 true, g := some (0, true) }, { o := .mv (.v 8), g := some (1, true) }, { o := .ca N.smoke_Filled 0 [] [.l 1, .l 0], g := some (2, true) }, { o := .ln (.l 0), g := some (3, true) }, { o := .ld (.v 6) 2 true, g := some (4, true) }, { o := .mv (.v 8), g := some (5, true) }, { o := .ca N.smoke_Free 0 [] [.l 1, .l 0], g := some (6, true) }, { o := .ln (.l 0), g := some (7, true) }, { o := .bin .add (.l 4) (.l 0), g := some (8, true) }, { o := .fa (.v 3) 0, g := some (9, true) }, { o := .ld (.l 0) 1 false, g := some (10, true) }, { o := .ln (.l 0), g := some (11, true) }, { o := .bin .eql (.l 3) (.l 0), g := some (12, true) }, { o := .pk (.l 13) (.l 0) (.b false) }, { o := .mv (.l 0), d := some 1 }] [(6, 1), (12, 1), (12, 5)]) .ret)))))))))))))))))), res := [(1, none)] }
/-- /law28.awake -/
def law28_awake : Fn := { nargs := 0, vars := [0, 1, 2, 3, 4], body := (.seq (.reg [{ o := .mv (.b false), d := some 0 }] []) (.seq (.reg [{ o := .bd [.t (.int .i64 (0)), .t (.bool false)] [(1, 1, .b true)] }, { o := .bd [.t (.int .i64 (0)), .t (.bool false)] [] }, { o := .bs [.l 1, .l 0] 2 }, { o := .bd [.t (.int .i64 (0)), .t (.int .i64 (0))] [(0, 1, .i 1), (1, 1, .i 1)] }, { o := .bd [.t (.int .i64 (0)), .t (.int .i64 (0)), .t (.int .i64 (0)), .t (.int .i64 (0)), .t (.bool false), .t (.bool false), .t (.int .i64 (0)), .t (.int .i64 (0)), .t (.int .i64 (0)), .t (.int .i64 (0))] [(1, 1, .i 1), (2, 1, .i 100), (3, 1, .i 10), (4, 1, .b true), (6, 2, .l 0)] }, { o := .bs [.l 0] 10 }, { o := .bd [.nil, .nil] [(0, 1, .l 3), (1, 1, .l 0)] }, { o := .al [.nil, .nil] [], d := some 1 }, { o := .st (.l 0) (.l 1) 2 [] }] []) (.seq (.reg [{ o := .bd [.t (.int .i64 (0)), .t (.int .i64 (0))] [(0, 1, .i 5000), (1, 1, .i 5000)] }, { o := .bs [.l 0] 2 }, { o := .mv (.l 0), d := some 2 }] []) (.seq (.reg [{ o := .ld (.v 1) 2 true }, { o := .mv (.v 2) }, { o := .bs [.i 0] 1 }, { o := .ca N.smoke_Start 0 [] [.l 2, .l 1, .l 0, .i 50] }, { o := .mv (.l 0) }, { o := .ex (.l 0) 0 }, { o := .ex (.l 1) 1 }, { o := .al [.t (.int .i64 (0)), .nil] [], d := some 3 }, { o := .st (.l 0) (.l 2) 2 [] }, { o := .mv (.l 2), d := some 4 }] []) (.seq (.reg [{ o := .ld (.v 1) 2 true }, { o := .mv (.v 2) }, { o := .ia (.l 0) (.i 0) 2 }, { o := .ld (.l 0) 2 true }, { o := .ca N.smoke_Travel 0 [] [.l 3, .i 0, .l 0, .b false] }, { o := .bin .eql (.l 0) (.i 100) }, { o := .mv (.l 0) }, { o := .ld (.v 1) 2 true, g := some (0, true) }, { o := .mv (.v 2), g := some (1, true) }, { o := .ia (.l 0) (.i 0) 2, g := some (2, true) }, { o := .ld (.l 0) 2 true, g := some (3, true) }, { o := .ca N.smoke_Travel 0 [] [.l 3, .i 0, .l 0, .b true], g := some (4, true) }, { o := .bin .eql (.l 0) (.i (-1)), g := some (5, true) }, { o := .pk (.l 6) (.l 0) (.b false) }, { o := .mv (.l 0) }, { o := .ld (.v 1) 2 true, g := some (0, true) }, { o := .bd [.t (.int .i64 (0)), .t (.int .i64 (0))] [(0, 1, .i 4999), (1, 1, .i 5000)], g := some (1, true) }, { o := .ca N.smoke_Travel 0 [] [.l 1, .i 0, .l 0, .b true], g := some (2, true) }, { o := .bin .eql (.l 0) (.i 100), g := some (3, true) }, { o := .pk (.l 4) (.l 0) (.b false) }, { o := .mv (.l 0) }, { o := .mv (.v 4), g := some (0, true) }, { o := .bin .eql (.l 0) (.i 0), g := some (1, true) }, { o := .pk (.l 2) (.l 0) (.b false) }, { o := .mv (.l 0) }, { o := .fa (.v 3) 1, g := some (0, true) }, { o := .ld (.l 0) 1 false, g := some (1, true) }, { o := .ln (.l 0), g := some (2, true) }, { o := .bin .eql (.l 0) (.i 2), g := some (3, true) }, { o := .pk (.l 4) (.l 0) (.b false) }, { o := .mv (.l 0) }, { o := .fa (.v 3) 1, g := some (0, true) }, { o := .ld (.l 0) 1 false, g := some (1, true) }, { o := .ia (.l 0) (.i 1) 1, g := some (2, true) }, { o := .ld (.l 0) 1 false, g := some (3, true) }, { o := .bin .eql (.l 0) (.i 150), g := some (4, true) }, { o := .pk (.l 5) (.l 0) (.b false) }, { o := .mv (.l 0) }, { o := .ld (.v 3) 2 true, g := some (0, true) }, { o := .ca N.smoke_Filled 0 [] [.l 0, .i 149], g := some (1, true) }, { o := .ln (.l 0), g := some (2, true) }, { o := .bin .eql (.l 0) (.i 1), g := some (3, true) }, { o := .pk (.l 4) (.l 0) (.b false) }, { o := .mv (.l 0), d := some 0 }] []) .ret))))), res := [(0, none)] }
def smoke_Start_l1b : C := (.its  [{ o := .bin .lss (.v 11) (.v 10) }] [] 0 .skip (.exit 1) (.seq (.blk 2 (.seq (.reg [{ o := .ia (.v 9) (.v 11) 1 }, { o := .ld (.l 0) 1 false }, { o := .mv (.l 0), d := some 8 }] []) (.reg [{ o := .mv (.v 7) }, { o := .mv (.v 8) }, { o := .mv (.v 3) }, { o := .ia (.l 2) (.l 1) 1 }, { o := .st (.l 0) (.l 1) 1 [] }] []))) (.reg [{ o := .bin .add (.v 11) (.i 1) }, { o := .mv (.l 0), d := some 11 }] [])))
def smoke_Start_l1 : C := .loop true [0, 2, 6, 8] K.smoke_Start_l1b
/-- /smoke.Start -/
def smoke_Start : Fn := { nargs := 4, vars := [0, 1, 2, 3, 4, 8, 9, 10, 12, 38, 39, 40], body := (.seq (.reg [{ o := .bx (.v 0) 2, d := some 4 }, { o := .al [.t (.int .i64 (0)), .nil] [], d := some 5 }, { o := .mv (.i 0), d := some 6 }] []) (.seq (.blk 0 (.ite [{ o := .ld (.v 4) 2 true }, { o := .mv (.v 1) }, { o := .ca N.smoke_given 0 [] [.l 1, .l 0] }, { o := .un .not (.l 0) }, { o := .mv (.l 0) }] [] 0 (.seq (.reg [{ o := .bd [.t (.int .i64 (0)), .nil] [] }, { o := .st (.v 5) (.l 0) 2 [] }, { o := .mv (.i 6), d := some 6 }] []) .ret) (.ite [{ o := .mv (.v 2) }, { o := .fa (.v 4) 0 }, { o := .ld (.l 0) 1 false }, { o := .ln (.l 0) }, { o := .bin .sub (.l 0) (.i 1) }, { o := .ca N.lists_Rising 0 [] [.l 4, .i 0, .l 0] }, { o := .un .not (.l 0) }, { o := .mv (.l 0) }] [] 0 (.seq (.reg [{ o := .bd [.t (.int .i64 (0)), .nil] [] }, { o := .st (.v 5) (.l 0) 2 [] }, { o := .mv (.i 3), d := some 6 }] []) .ret) (.ite [{ o := .mv (.v 3) }, { o := .ca N.lists_In 0 [] [.l 0, .i 0, .i 2147483648] }, { o := .un .not (.l 0) }, { o := .mv (.l 0) }] [] 0 (.seq (.reg [{ o := .bd [.t (.int .i64 (0)), .nil] [] }, { o := .st (.v 5) (.l 0) 2 [] }, { o := .mv (.i 8), d := some 6 }] []) .ret) .skip)))) (.seq (.reg [{ o := .bs [.i 1099511627776] 1 }, { o := .fa (.v 4) 0 }, { o := .ld (.l 0) 1 false }, { o := .ln (.l 0) }, { o := .ca N.slices_Repeat_int_int 1 [] [.l 3, .l 0] }, { o := .mv (.l 0), d := some 7 }] []) (.seq (.seq (.reg [{ o := .mv (.v 2), d := some 9 }, { o := .ln (.l 0), d := some 10 }, { o := .mv (.i 0), d := some 11 }] []) (.blk 1 K.smoke_Start_l1)) (.seq (.reg [{ o := .ld (.v 4) 2 true }, { o := .mv (.v 1) }, { o := .mv (.v 7) }, { o := .bd [.nil, .nil, .nil, .nil] [(0, 2, .l 2), (2, 1, .l 1), (3, 1, .l 0)] }, { o := .ca N.smoke_times_spread 0 [0] [.l 0] }] []) (.seq (.reg [{ o := .mv (.v 3) }, { o := .mv (.v 7) }, { o := .bd [.t (.int .i64 (0)), .nil] [(0, 1, .l 1), (1, 1, .l 0)] }, { o := .st (.v 5) (.l 0) 2 [] }, { o := .mv (.i 0), d := some 6 }] []) .ret)))))), res := [(5, some (2, true)), (6, none)] }
/-- /smoke.Travel -/
def smoke_Travel : Fn := { nargs := 4, vars := [0, 1, 2, 3, 4, 6, 8, 9, 10, 11, 12], body := (.seq (.reg [{ o := .bx (.v 0) 2, d := some 4 }, { o := .bx (.v 2) 2, d := some 5 }, { o := .mv (.i 0), d := some 6 }] []) (.seq (.ite [{ o := .mv (.v 1) }, { o := .bin .lss (.l 0) (.i 0) }, { o := .mv (.l 0) }, { o := .mv (.v 1), g := some (0, false) }, { o := .fa (.v 4) 1, g := some (1, false) }, { o := .ld (.l 0) 1 false, g := some (2, false) }, { o := .ln (.l 0), g := some (3, false) }, { o := .bin .geq (.l 3) (.l 0), g := some (4, false) }, { o := .pk (.l 5) (.b true) (.l 0) }, { o := .mv (.l 0) }, { o := .fa (.v 4) 1, g := some (0, false) }, { o := .ld (.l 0) 1 false, g := some (1, false) }, { o := .mv (.v 1), g := some (2, false) }, { o := .ia (.l 1) (.l 0) 10, g := some (3, false) }, { o := .fa (.l 0) 5, g := some (4, false) }, { o := .ld (.l 0) 1 false, g := some (5, false) }, { o := .pk (.l 6) (.b true) (.l 0) }] [] 0 (.seq (.reg [{ o := .mv (.i (-1)), d := some 6 }] []) .ret) .skip) (.seq (.reg [{ o := .fa (.v 4) 1 }, { o := .ld (.l 0) 1 false }, { o := .mv (.v 1) }, { o := .ia (.l 1) (.l 0) 10 }, { o := .ld (.l 0) 10 true }, { o := .al [.t (.int .i64 (0)), .t (.int .i64 (0)), .t (.int .i64 (0)), .t (.int .i64 (0)), .t (.bool false), .t (.bool false), .t (.int .i64 (0)), .t (.int .i64 (0)), .t (.int .i64 (0)), .t (.int .i64 (0))] [], d := some 7 }, { o := .st (.l 0) (.l 1) 10 [] }] []) (.seq (.reg [{ o := .ld (.v 5) 2 true }, { o := .al [.t (.int .i64 (0)), .t (.int .i64 (0))] [], d := some 8 }, { o := .st (.l 0) (.l 1) 2 [] }] []) (.seq (.ite [{ o := .mv (.v 3) }] [] 0 (.reg [{ o := .fa (.v 5) 1 }, { o := .ld (.l 0) 1 false }, { o := .un .neg (.l 0) }, { o := .fa (.v 5) 0 }, { o := .ld (.l 0) 1 false }, { o := .un .neg (.l 0) }, { o := .bd [.t (.int .i64 (0)), .t (.int .i64 (0))] [(0, 1, .l 3), (1, 1, .l 0)] }, { o := .st (.v 8) (.l 0) 2 [] }] []) .skip) (.seq (.reg [{ o := .mv (.i (-1)), d := some 9 }] []) (.seq (.ite [{ o := .fa (.v 8) 1 }, { o := .ld (.l 0) 1 false }, { o := .fa (.v 7) 3 }, { o := .ld (.l 0) 1 false }, { o := .bin .mul (.i (-500)) (.l 0) }, { o := .bin .gtr (.l 3) (.l 0) }] [] 0 (.reg [{ o := .fa (.v 7) 2 }, { o := .ld (.l 0) 1 false }, { o := .mv (.l 0), d := some 9 }] []) .skip) (.seq (.ite [{ o := .fa (.v 8) 1 }, { o := .ld (.l 0) 1 false }, { o := .bin .gtr (.l 0) (.i 0) }] [] 0 (.seq (.reg [{ o := .fa (.v 7) 2 }, { o := .ld (.l 0) 1 false }, { o := .fa (.v 7) 3 }, { o := .ld (.l 0) 1 false }, { o := .bin .mul (.l 2) (.l 0) }, { o := .bin .mul (.l 0) (.i 1000) }, { o := .fa (.v 8) 1 }, { o := .ld (.l 0) 1 false }, { o := .bin .quo (.l 2) (.l 0) }, { o := .mv (.l 0), d := some 10 }] []) (.ite [{ o := .mv (.v 9) }, { o := .bin .lss (.l 0) (.i 0) }, { o := .mv (.l 0) }, { o := .mv (.v 10), g := some (0, false) }, { o := .mv (.v 9), g := some (1, false) }, { o := .bin .lss (.l 1) (.l 0), g := some (2, false) }, { o := .pk (.l 3) (.b true) (.l 0) }] [] 0 (.reg [{ o := .mv (.v 10) }, { o := .mv (.l 0), d := some 9 }] []) .skip)) .skip) (.seq (.reg [{ o := .mv (.v 9) }, { o := .mv (.l 0), d := some 6 }] []) .ret))))))))), res := [(6, none)] }
def smoke_Change_l1b : C := (.its  [{ o := .bin .lss (.v 18) (.v 17) }] [] 0 .skip (.exit 0) (.seq (.blk 1 (.seq (.reg [{ o := .mv (.v 18) }, { o := .ia (.v 16) (.v 18) 1 }, { o := .ld (.l 0) 1 false }, { o := .mv (.l 2), d := some 12 }, { o := .mv (.l 1), d := some 13 }] []) (.reg [{ o := .mv (.v 11) }, { o := .mv (.v 12) }, { o := .mv (.v 13) }, { o := .mv (.v 5) }, { o := .mx [.l 1, .l 0] }, { o := .ia (.l 4) (.l 3) 1 }, { o := .st (.l 0) (.l 1) 1 [] }] []))) (.reg [{ o := .bin .add (.v 18) (.i 1) }, { o := .mv (.l 0), d := some 18 }] [])))
def smoke_Change_l1 : C := .loop true [0, 2, 4, 10, 12, 13, 14, 15, 19, 20, 21] K.smoke_Change_l1b
def smoke_Change_l2b : C := (.its  [{ o := .bin .lss (.v 21) (.v 20) }] [] 0 .skip (.exit 2) (.seq (.blk 3 (.seq (.reg [{ o := .mv (.v 21) }, { o := .ia (.v 19) (.v 21) 10 }, { o := .ld (.l 0) 10 true }, { o := .al [.t (.int .i64 (0)), .t (.int .i64 (0)), .t (.int .i64 (0)), .t (.int .i64 (0)), .t (.bool false), .t (.bool false), .t (.int .i64 (0)), .t (.int .i64 (0)), .t (.int .i64 (0)), .t (.int .i64 (0))] [], d := some 15 }, { o := .mv (.l 3), d := some 14 }, { o := .st (.l 1) (.l 2) 10 [] }] []) (.seq (.ite [{ o := .fa (.v 8) 1 }, { o := .ld (.l 0) 1 false }, { o := .fa (.v 15) 0 }, { o := .ld (.l 0) 1 false }, { o := .ia (.l 2) (.l 0) 1 }, { o := .ld (.l 0) 1 false }, { o := .mv (.v 5) }, { o := .bin .leq (.l 1) (.l 0) }, { o := .mv (.l 0) }, { o := .ld (.v 6) 2 true, g := some (0, true) }, { o := .mv (.v 14), g := some (1, true) }, { o := .mv (.v 1), g := some (2, true) }, { o := .mv (.v 14), g := some (3, true) }, { o := .ia (.l 1) (.l 0) 2, g := some (4, true) }, { o := .ld (.l 0) 2 true, g := some (5, true) }, { o := .ca N.smoke_Travel 0 [] [.l 5, .l 4, .l 0, .b false], g := some (6, true) }, { o := .bin .geq (.l 0) (.i 0), g := some (7, true) }, { o := .pk (.l 8) (.l 0) (.b false) }] [] 0 (.reg [{ o := .mv (.v 11) }, { o := .fa (.v 15) 1 }, { o := .ld (.l 0) 1 false }, { o := .mv (.v 5) }, { o := .ia (.l 3) (.l 1) 1 }, { o := .st (.l 0) (.l 1) 1 [] }] []) .skip) (.ite [{ o := .fa (.v 8) 1 }, { o := .ld (.l 0) 1 false }, { o := .fa (.v 15) 1 }, { o := .ld (.l 0) 1 false }, { o := .ia (.l 2) (.l 0) 1 }, { o := .ld (.l 0) 1 false }, { o := .mv (.v 5) }, { o := .bin .leq (.l 1) (.l 0) }, { o := .mv (.l 0) }, { o := .ld (.v 6) 2 true, g := some (0, true) }, { o := .mv (.v 14), g := some (1, true) }, { o := .mv (.v 1), g := some (2, true) }, { o := .mv (.v 14), g := some (3, true) }, { o := .ia (.l 1) (.l 0) 2, g := some (4, true) }, { o := .ld (.l 0) 2 true, g := some (5, true) }, { o := .ca N.smoke_Travel 0 [] [.l 5, .l 4, .l 0, .b true], g := some (6, true) }, { o := .bin .geq (.l 0) (.i 0), g := some (7, true) }, { o := .pk (.l 8) (.l 0) (.b false) }] [] 0 (.reg [{ o := .mv (.v 11) }, { o := .fa (.v 15) 0 }, { o := .ld (.l 0) 1 false }, { o := .mv (.v 5) }, { o := .ia (.l 3) (.l 1) 1 }, { o := .st (.l 0) (.l 1) 1 [] }] []) .skip)))) (.reg [{ o := .bin .add (.v 21) (.i 1) }, { o := .mv (.l 0), d := some 21 }] [])))
def smoke_Change_l2 : C := .loop true [0, 2, 4, 10, 12, 13, 14, 15, 16, 17, 18] K.smoke_Change_l2b
/-- /smoke.Change -/
def smoke_Change : Fn := { nargs := 6, vars := [0, 1, 2, 3, 4, 5, 6, 8, 10, 12, 13, 14, 15, 16, 17, 18, 59, 60, 61, 74, 75, 76], body := (.seq (.reg [{ o := .bx (.v 0) 2, d := some 6 }, { o := .bx (.v 2) 2, d := some 7 }, { o := .bx (.v 4) 2, d := some 8 }, { o := .al [.t (.int .i64 (0)), .nil] [], d := some 9 }, { o := .mv (.i 0), d := some 10 }] []) (.seq (.ite [{ o := .ld (.v 6) 2 true }, { o := .mv (.v 1) }, { o := .ca N.smoke_given 0 [] [.l 1, .l 0] }, { o := .un .not (.l 0) }, { o := .mv (.l 0) }, { o := .ld (.v 6) 2 true, g := some (0, false) }, { o := .ld (.v 8) 2 true, g := some (1, false) }, { o := .ca N.smoke_Valid 0 [] [.l 1, .l 0], g := some (2, false) }, { o := .un .not (.l 0), g := some (3, false) }, { o := .pk (.l 4) (.b true) (.l 0) }, { o := .mv (.l 0) }, { o := .ld (.v 7) 2 true, g := some (0, false) }, { o := .mv (.v 3), g := some (1, false) }, { o := .ca N.smoke_given 0 [] [.l 1, .l 0], g := some (2, false) }, { o := .un .not (.l 0), g := some (3, false) }, { o := .pk (.l 4) (.b true) (.l 0) }, { o := .mv (.l 0) }, { o := .fa (.v 7) 0, g := some (0, false) }, { o := .ld (.l 0) 1 false, g := some (1, false) }, { o := .ln (.l 0), g := some (2, false) }, { o := .fa (.v 6) 0, g := some (3, false) }, { o := .ld (.l 0) 1 false, g := some (4, false) }, { o := .ln (.l 0), g := some (5, false) }, { o := .bin .neq (.l 3) (.l 0), g := some (6, false) }, { o := .pk (.l 7) (.b true) (.l 0) }] [] 0 (.seq (.reg [{ o := .ld (.v 8) 2 true }, { o := .st (.v 9) (.l 0) 2 [] }, { o := .mv (.i 6), d := some 10 }] []) .ret) .skip) (.seq (.ite [{ o := .mv (.v 5) }, { o := .fa (.v 8) 0 }, { o := .ld (.l 0) 1 false }, { o := .bin .lss (.l 2) (.l 0) }, { o := .mv (.l 0) }, { o := .mv (.v 5), g := some (0, false) }, { o := .bin .gtr (.l 0) (.i 2147483648), g := some (1, false) }, { o := .pk (.l 2) (.b true) (.l 0) }] [] 0 (.seq (.reg [{ o := .ld (.v 8) 2 true }, { o := .st (.v 9) (.l 0) 2 [] }, { o := .mv (.i 8), d := some 10 }] []) .ret) .skip) (.seq (.reg [{ o := .fa (.v 8) 1 }, { o := .ld (.l 0) 1 false }, { o := .ln (.l 0) }, { o := .mk (.l 0) (.t (.int .i64 (0))) 1 }, { o := .mv (.l 0), d := some 11 }] []) (.seq (.seq (.reg [{ o := .fa (.v 8) 1 }, { o := .ld (.l 0) 1 false, d := some 16 }, { o := .ln (.l 0), d := some 17 }, { o := .mv (.i 0), d := some 18 }] []) (.blk 0 K.smoke_Change_l1)) (.seq (.seq (.reg [{ o := .fa (.v 6) 1 }, { o := .ld (.l 0) 1 false, d := some 19 }, { o := .ln (.l 0), d := some 20 }, { o := .mv (.i 0), d := some 21 }] []) (.blk 2 K.smoke_Change_l2)) (.seq (.reg [{ o := .ld (.v 7) 2 true }, { o := .mv (.v 3) }, { o := .mv (.v 11) }, { o := .bd [.nil, .nil, .nil, .nil] [(0, 2, .l 2), (2, 1, .l 1), (3, 1, .l 0)] }, { o := .ca N.smoke_times_spread 0 [0] [.l 0] }] []) (.seq (.reg [{ o := .mv (.v 5) }, { o := .mv (.v 11) }, { o := .bd [.t (.int .i64 (0)), .nil] [(0, 1, .l 1), (1, 1, .l 0)] }, { o := .st (.v 9) (.l 0) 2 [] }, { o := .mv (.i 0), d := some 10 }] []) .ret)))))))), res := [(9, some (2, true)), (10, none)] }
/-- /law28.agree -/
def law28_agree : Fn := { nargs := 7, vars := [0, 1, 2, 3, 4, 5, 6, 7, 9, 11, 14, 15, 16, 17, 18, 19, 20, 21, 22], body := (.seq (.reg [{ o := .bx (.v 0) 2, d := some 7 }, { o := .bx (.v 2) 2, d := some 8 }, { o := .bx (.v 4) 2, d := some 9 }, { o := .mv (.b false), d := some 10 }] []) (.seq (.reg [{ o := .ld (.v 7) 2 true }, { o := .mv (.v 1) }, { o := .mv (.v 5) }, { o := .mv (.v 6) }, { o := .ca N.smoke_Start 0 [] [.l 3, .l 2, .l 1, .l 0] }, { o := .mv (.l 0) }, { o := .ex (.l 0) 0 }, { o := .ex (.l 1) 1 }, { o := .al [.t (.int .i64 (0)), .nil] [], d := some 11 }, { o := .st (.l 0) (.l 2) 2 [] }, { o := .mv (.l 2), d := some 12 }] []) (.seq (.reg [{ o := .ld (.v 7) 2 true }, { o := .mv (.v 1) }, { o := .mv (.v 5) }, { o := .mv (.v 6) }, { o := .ca N.ref28_Start 0 [] [.l 3, .l 2, .l 1, .l 0] }, { o := .mv (.l 0) }, { o := .ex (.l 0) 0 }, { o := .ex (.l 1) 1 }, { o := .al [.t (.int .i64 (0)), .nil] [], d := some 13 }, { o := .st (.l 0) (.l 2) 2 [] }, { o := .mv (.l 2), d := some 14 }] []) (.seq (.reg [{ o := .ld (.v 7) 2 true }, { o := .mv (.v 1) }, { o := .ld (.v 8) 2 true }, { o := .mv (.v 3) }, { o := .ld (.v 9) 2 true }, { o := .mv (.v 6) }, { o := .ca N.smoke_Change 0 [] [.l 5, .l 4, .l 3, .l 2, .l 1, .l 0] }, { o := .mv (.l 0) }, { o := .ex (.l 0) 0 }, { o := .ex (.l 1) 1 }, { o := .al [.t (.int .i64 (0)), .nil] [], d := some 15 }, { o := .st (.l 0) (.l 2) 2 [] }, { o := .mv (.l 2), d := some 16 }] []) (.seq (.reg [{ o := .ld (.v 7) 2 true }, { o := .mv (.v 1) }, { o := .ld (.v 8) 2 true }, { o := .mv (.v 3) }, { o := .ld (.v 9) 2 true }, { o := .mv (.v 6) }, { o := .ca N.ref28_Change 0 [] [.l 5, .l 4, .l 3, .l 2, .l 1, .l 0] }, { o := .mv (.l 0) }, { o := .ex (.l 0) 0 }, { o := .ex (.l 1) 1 }, { o := .al [.t (.int .i64 (0)), .nil] [], d := some 17 }, { o := .st (.l 0) (.l 2) 2 [] }, { o := .mv (.l 2), d := some 18 }] []) (.seq (.reg [{ o := .ld (.v 7) 2 true }, { o := .ld (.v 9) 2 true }, { o := .ca N.smoke_Valid 0 [] [.l 1, .l 0] }, { o := .ld (.v 7) 2 true }, { o := .ld (.v 9) 2 true }, { o := .ca N.ref28_Valid 0 [] [.l 1, .l 0] }, { o := .eqk (.bool) false (.l 3) (.l 0) }, { o := .mv (.l 0) }, { o := .mv (.v 12), g := some (0, true) }, { o := .mv (.v 14), g := some (1, true) }, { o := .bin .eql (.l 1) (.l 0), g := some (2, true) }, { o := .pk (.l 3) (.l 0) (.b false) }, { o := .mv (.l 0) }, { o := .ld (.v 11) 2 true, g := some (0, true) }, { o := .ld (.v 13) 2 true, g := some (1, true) }, { o := .ca N.ref28_Same 0 [] [.l 1, .l 0], g := some (2, true) }, { o := .pk (.l 3) (.l 0) (.b false) }, { o := .mv (.l 0) }, { o := .mv (.v 16), g := some (0, true) }, { o := .mv (.v 18), g := some (1, true) }, { o := .bin .eql (.l 1) (.l 0), g := some (2, true) }, { o := .pk (.l 3) (.l 0) (.b false) }, { o := .mv (.l 0) }, { o := .ld (.v 15) 2 true, g := some (0, true) }, { o := .ld (.v 17) 2 true, g := some (1, true) }, { o := .ca N.ref28_Same 0 [] [.l 1, .l 0], g := some (2, true) }, { o := .pk (.l 3) (.l 0) (.b false) }, { o := .mv (.l 0) }, { o := .ld (.v 9) 2 true, g := some (0, true) }, { o := .mv (.v 6), g := some (1, true) }, { o := .ca N.smoke_Filled 0 [] [.l 1, .l 0], g := some (2, true) }, { o := .ld (.v 9) 2 true, g := some (3, true) }, { o := .mv (.v 6), g := some (4, true) }, { o := .ca N.ref28_Filled 0 [] [.l 1, .l 0], g := some (5, true) }, { o := .ca N.ref23_SameInts 0 [] [.l 3, .l 0], g := some (6, true) }, { o := .pk (.l 7) (.l 0) (.b false) }, { o := .mv (.l 0) }, { o := .ld (.v 9) 2 true, g := some (0, true) }, { o := .mv (.v 6), g := some (1, true) }, { o := .ca N.smoke_Free 0 [] [.l 1, .l 0], g := some (2, true) }, { o := .ld (.v 9) 2 true, g := some (3, true) }, { o := .mv (.v 6), g := some (4, true) }, { o := .ca N.ref28_Free 0 [] [.l 1, .l 0], g := some (5, true) }, { o := .ca N.ref23_SameInts 0 [] [.l 3, .l 0], g := some (6, true) }, { o := .pk (.l 7) (.l 0) (.b false) }, { o := .mv (.l 0), d := some 10 }] [(3, 0), (4, 0), (31, 26), (40, 35)]) .ret)))))), res := [(10, none)] }
/-- /smoke.Free -/
def smoke_Free : Fn := { nargs := 2, vars := [0, 1, 2, 3, 4], body := (.seq (.reg [{ o := .bx (.v 0) 2, d := some 2 }, { o := .bx (.v 1) 1, d := some 3 }, { o := .mv (.c (.nil)), d := some 4 }] []) (.seq (.reg [{ o := .fa (.v 2) 1 }, { o := .ld (.l 0) 1 false }, { o := .ln (.l 0) }, { o := .mf N.smoke_Free_1 [.v 2, .v 3] }, { o := .ca N.lists_Where 0 [] [.l 1, .l 0] }, { o := .mv (.l 0), d := some 4 }] []) .ret)), res := [(4, none)] }
/-- /smoke.given -/
def smoke_given : Fn := { nargs := 2, vars := [0, 1, 2, 4], body := (.seq (.reg [{ o := .bx (.v 0) 2, d := some 2 }, { o := .mv (.b false), d := some 3 }] []) (.seq (.reg [{ o := .ld (.v 2) 2 true }, { o := .ca N.plan_Valid 0 [] [.l 0] }, { o := .mv (.l 0) }, { o := .mv (.v 1), g := some (0, true) }, { o := .ln (.l 0), g := some (1, true) }, { o := .fa (.v 2) 1, g := some (2, true) }, { o := .ld (.l 0) 1 false, g := some (3, true) }, { o := .ln (.l 0), g := some (4, true) }, { o := .bin .eql (.l 3) (.l 0), g := some (5, true) }, { o := .pk (.l 6) (.l 0) (.b false) }, { o := .mv (.l 0) }, { o := .mv (.v 1), g := some (0, true) }, { o := .ca N.slices_ContainsFunc_api_Span_api_Span 0 [] [.l 0, .c (.fn N.smoke_given_1 [])], g := some (1, true) }, { o := .un .not (.l 0), g := some (2, true) }, { o := .pk (.l 3) (.l 0) (.b false) }, { o := .mv (.l 0), d := some 3 }] []) .ret)), res := [(3, none)] }
def slices_Repeat_int_int_l1b : C := (.seq (.ite [{ o := .mv (.v 6) }, { o := .mv (.v 5) }, { o := .ln (.l 0) }, { o := .bin .lss (.l 2) (.l 0) }] [] 0 .skip (.exit 0)) (.blk 1 (.reg [{ o := .mv (.v 6) }, { o := .mv (.v 5) }, { o := .mv (.v 6) }, { o := .sc (.l 1) (some (.l 0)) none 1 }, { o := .mv (.v 5) }, { o := .mv (.v 6) }, { o := .sc (.l 1) none (some (.l 0)) 1 }, { o := .cp (.l 3) (.l 0) 1 }, { o := .bin .add (.l 7) (.l 0) }, { o := .mv (.l 0), d := some 6 }] [])))
def slices_Repeat_int_int_l1 : C := .loop true [0, 1, 2, 3, 4] K.slices_Repeat_int_int_l1b
/-- slices.Repeat[[]int,int] -/
def slices_Repeat_int_int : Fn := { nargs := 2, vars := [0, 1, 4, 5, 6, 7, 8], body := (.seq (.reg [{ o := .mv (.c (.nil)), d := some 2 }] []) (.seq (.ite [{ o := .mv (.v 1) }, { o := .bin .lss (.l 0) (.i 0) }] [] 0 .fail .skip) (.seq (.reg [{ o := .mv (.v 0) }, { o := .ln (.l 0) }, { o := .cv .u64 (.l 0) }, { o := .mv (.v 1) }, { o := .cv .u64 (.l 0) }, { o := .ca N.math_bits_Mul 0 [] [.l 2, .l 0] }, { o := .mv (.l 0) }, { o := .ex (.l 0) 0 }, { o := .ex (.l 1) 1 }, { o := .mv (.l 1), d := some 3 }, { o := .mv (.l 1), d := some 4 }] []) (.seq (.ite [{ o := .mv (.v 3) }, { o := .bin .gtr (.l 0) (.c (.t (.int .u64 (0)))) }, { o := .mv (.l 0) }, { o := .mv (.v 4), g := some (0, false) }, { o := .bin .gtr (.l 0) (.c (.t (.int .u64 (9223372036854775807)))), g := some (1, false) }, { o := .pk (.l 2) (.b true) (.l 0) }] [] 0 .fail .skip) (.seq (.reg [{ o := .mv (.v 4) }, { o := .cv .i64 (.l 0) }, { o := .mk (.l 0) (.t (.int .i64 (0))) 1 }, { o := .mv (.l 0), d := some 5 }] []) (.seq (.reg [{ o := .mv (.v 5) }, { o := .mv (.v 0) }, { o := .cp (.l 1) (.l 0) 1 }, { o := .mv (.l 0), d := some 6 }] []) (.seq (.blk 0 K.slices_Repeat_int_int_l1) (.seq (.reg [{ o := .mv (.v 5) }, { o := .mv (.l 0), d := some 2 }] []) .ret)))))))), res := [(2, none)] }
def smoke_times_spread_l2b : C := (.its  [{ o := .bin .lss (.v 9) (.v 8) }] [] 0 .skip (.exit 2) (.seq (.blk 3 (.seq (.reg [{ o := .mv (.v 9) }, { o := .ia (.v 7) (.v 9) 10 }, { o := .ld (.l 0) 10 true }, { o := .al [.t (.int .i64 (0)), .t (.int .i64 (0)), .t (.int .i64 (0)), .t (.int .i64 (0)), .t (.bool false), .t (.bool false), .t (.int .i64 (0)), .t (.int .i64 (0)), .t (.int .i64 (0)), .t (.int .i64 (0))] [], d := some 4 }, { o := .mv (.l 3), d := some 3 }, { o := .st (.l 1) (.l 2) 10 [] }] []) (.seq (.reg [{ o := .ld (.v 1) 4 true }, { o := .mv (.v 3) }, { o := .fa (.v 4) 0 }, { o := .ld (.l 0) 1 false }, { o := .fa (.v 4) 1 }, { o := .ld (.l 0) 1 false }, { o := .ca N.smoke_times_reach 0 [0] [.l 5, .l 4, .l 2, .l 0, .b false] }, { o := .mv (.l 0), d := some 5 }] []) (.seq (.reg [{ o := .ld (.v 1) 4 true }, { o := .mv (.v 3) }, { o := .fa (.v 4) 1 }, { o := .ld (.l 0) 1 false }, { o := .fa (.v 4) 0 }, { o := .ld (.l 0) 1 false }, { o := .ca N.smoke_times_reach 0 [0] [.l 5, .l 4, .l 2, .l 0, .b true] }, { o := .mv (.l 0), d := some 6 }] []) (.reg [{ o := .mv (.v 2) }, { o := .mv (.l 0) }, { o := .mv (.v 5), g := some (0, false) }, { o := .pk (.l 1) (.b true) (.l 0) }, { o := .mv (.l 0) }, { o := .mv (.v 6), g := some (0, false) }, { o := .pk (.l 1) (.b true) (.l 0) }, { o := .mv (.l 0), d := some 2 }] []))))) (.reg [{ o := .bin .add (.v 9) (.i 1) }, { o := .mv (.l 0), d := some 9 }] [])))
def smoke_times_spread_l2 : C := .loop true [0, 3, 4, 5, 6] K.smoke_times_spread_l2b
def smoke_times_spread_l1b : C := (.seq (.ite [{ o := .mv (.v 2) }] [] 0 .skip (.exit 0)) (.blk 1 (.seq (.reg [{ o := .mv (.b false), d := some 2 }] []) (.seq (.reg [{ o := .fa (.v 1) 0 }, { o := .fa (.l 0) 1 }, { o := .ld (.l 0) 1 false, d := some 7 }, { o := .ln (.l 0), d := some 8 }, { o := .mv (.i 0), d := some 9 }] []) (.blk 2 K.smoke_times_spread_l2)))))
def smoke_times_spread_l1 : C := .loop true [0, 3, 4, 5, 6, 7, 8, 9] K.smoke_times_spread_l1b
/-- (/smoke.times).spread -/
def smoke_times_spread : Fn := { nargs := 1, vars := [0, 1, 2, 3, 4, 5, 6, 10, 11, 12], body := (.seq (.reg [{ o := .bx (.v 0) 4, d := some 1 }] []) (.seq (.reg [{ o := .mv (.b true), d := some 2 }] []) (.blk 0 K.smoke_times_spread_l1))), res := [] }
/-- /smoke.Valid -/
def smoke_Valid : Fn := { nargs := 2, vars := [0, 1, 2, 3, 4], body := (.seq (.reg [{ o := .bx (.v 0) 2, d := some 2 }, { o := .bx (.v 1) 2, d := some 3 }, { o := .mv (.b false), d := some 4 }] []) (.seq (.reg [{ o := .ld (.v 2) 2 true }, { o := .ca N.plan_Valid 0 [] [.l 0] }, { o := .mv (.l 0) }, { o := .fa (.v 3) 1, g := some (0, true) }, { o := .ld (.l 0) 1 false, g := some (1, true) }, { o := .ln (.l 0), g := some (2, true) }, { o := .fa (.v 2) 0, g := some (3, true) }, { o := .ld (.l 0) 1 false, g := some (4, true) }, { o := .ln (.l 0), g := some (5, true) }, { o := .bin .eql (.l 3) (.l 0), g := some (6, true) }, { o := .pk (.l 7) (.l 0) (.b false) }, { o := .mv (.l 0) }, { o := .fa (.v 3) 0, g := some (0, true) }, { o := .ld (.l 0) 1 false, g := some (1, true) }, { o := .ca N.lists_In 0 [] [.l 0, .i 0, .i 2147483648], g := some (2, true) }, { o := .pk (.l 3) (.l 0) (.b false) }, { o := .mv (.l 0) }, { o := .fa (.v 3) 1, g := some (0, true) }, { o := .ld (.l 0) 1 false, g := some (1, true) }, { o := .mf N.smoke_Valid_1 [.v 3], g := some (2, true) }, { o := .ca N.slices_ContainsFunc_int_int 0 [] [.l 1, .l 0], g := some (3, true) }, { o := .un .not (.l 0), g := some (4, true) }, { o := .pk (.l 5) (.l 0) (.b false) }, { o := .mv (.l 0), d := some 4 }] []) .ret)), res := [(4, none)] }
/-- /ref28.Same -/
def ref28_Same : Fn := { nargs := 2, vars := [0, 1, 2, 3, 4], body := (.seq (.reg [{ o := .bx (.v 0) 2, d := some 2 }, { o := .bx (.v 1) 2, d := some 3 }, { o := .mv (.b false), d := some 4 }] []) (.seq (.reg [{ o := .fa (.v 2) 0 }, { o := .ld (.l 0) 1 false }, { o := .fa (.v 3) 0 }, { o := .ld (.l 0) 1 false }, { o := .bin .eql (.l 2) (.l 0) }, { o := .mv (.l 0) }, { o := .fa (.v 2) 1, g := some (0, true) }, { o := .ld (.l 0) 1 false, g := some (1, true) }, { o := .fa (.v 3) 1, g := some (2, true) }, { o := .ld (.l 0) 1 false, g := some (3, true) }, { o := .ca N.ref23_SameInts 0 [] [.l 2, .l 0], g := some (4, true) }, { o := .pk (.l 5) (.l 0) (.b false) }, { o := .mv (.l 0), d := some 4 }] []) .ret)), res := [(4, none)] }
def ref28_Filled_l1b : C := (.seq (.ite [{ o := .mv (.v 5) }, { o := .fa (.v 2) 1 }, { o := .ld (.l 0) 1 false }, { o := .ln (.l 0) }, { o := .bin .lss (.l 3) (.l 0) }] [] 0 .skip (.exit 0)) (.seq (.blk 1 (.ite [{ o := .fa (.v 2) 1 }, { o := .ld (.l 0) 1 false }, { o := .mv (.v 5) }, { o := .ia (.l 1) (.l 0) 1 }, { o := .ld (.l 0) 1 false }, { o := .mv (.v 1) }, { o := .bin .leq (.l 1) (.l 0) }] [] 0 (.reg [{ o := .mv (.v 4) }, { o := .mv (.v 5) }, { o := .bs [.l 0] 1 }, { o := .app (.l 2) (.l 0) true 1 }, { o := .mv (.l 0), d := some 4 }] []) .skip)) (.reg [{ o := .mv (.v 5) }, { o := .bin .add (.l 0) (.i 1) }, { o := .mv (.l 0), d := some 5 }] [])))
def ref28_Filled_l1 : C := .loop true [0, 3] K.ref28_Filled_l1b
/-- /ref28.Filled -/
def ref28_Filled : Fn := { nargs := 2, vars := [0, 1, 2, 4, 5, 6], body := (.seq (.reg [{ o := .bx (.v 0) 2, d := some 2 }, { o := .mv (.c (.nil)), d := some 3 }] []) (.seq (.reg [{ o := .nw 1, d := some 4 }] []) (.seq (.seq (.reg [{ o := .mv (.i 0), d := some 5 }] []) (.blk 0 K.ref28_Filled_l1)) (.seq (.reg [{ o := .mv (.v 4) }, { o := .mv (.l 0), d := some 3 }] []) .ret)))), res := [(3, none)] }
def ref28_Free_l1b : C := (.seq (.ite [{ o := .mv (.v 5) }, { o := .fa (.v 2) 1 }, { o := .ld (.l 0) 1 false }, { o := .ln (.l 0) }, { o := .bin .lss (.l 3) (.l 0) }] [] 0 .skip (.exit 0)) (.seq (.blk 1 (.ite [{ o := .fa (.v 2) 1 }, { o := .ld (.l 0) 1 false }, { o := .mv (.v 5) }, { o := .ia (.l 1) (.l 0) 1 }, { o := .ld (.l 0) 1 false }, { o := .mv (.v 1) }, { o := .bin .gtr (.l 1) (.l 0) }] [] 0 (.reg [{ o := .mv (.v 4) }, { o := .mv (.v 5) }, { o := .bs [.l 0] 1 }, { o := .app (.l 2) (.l 0) true 1 }, { o := .mv (.l 0), d := some 4 }] []) .skip)) (.reg [{ o := .mv (.v 5) }, { o := .bin .add (.l 0) (.i 1) }, { o := .mv (.l 0), d := some 5 }] [])))
def ref28_Free_l1 : C := .loop true [0, 3] K.ref28_Free_l1b
/-- /ref28.Free -/
def ref28_Free : Fn := { nargs := 2, vars := [0, 1, 2, 4, 5, 6], body := (.seq (.reg [{ o := .bx (.v 0) 2, d := some 2 }, { o := .mv (.c (.nil)), d := some 3 }] []) (.seq (.reg [{ o := .nw 1, d := some 4 }] []) (.seq (.seq (.reg [{ o := .mv (.i 0), d := some 5 }] []) (.blk 0 K.ref28_Free_l1)) (.seq (.reg [{ o := .mv (.v 4) }, { o := .mv (.l 0), d := some 3 }] []) .ret)))), res := [(3, none)] }
/-- /smoke.Free.1 -/
def smoke_Free_1 : Fn := { nargs := 3, vars := [0, 1, 2, 4], body := (.seq (.reg [{ o := .mv (.b false), d := some 3 }] []) (.seq (.reg [{ o := .fa (.v 1) 1 }, { o := .ld (.l 0) 1 false }, { o := .mv (.v 0) }, { o := .ia (.l 1) (.l 0) 1 }, { o := .ld (.l 0) 1 false }, { o := .ld (.v 2) 1 false }, { o := .bin .gtr (.l 1) (.l 0) }, { o := .mv (.l 0), d := some 3 }] []) .ret)), res := [(3, none)] }
/-- /plan.Valid -/
def plan_Valid : Fn := { nargs := 1, vars := [0, 1, 2], body := (.seq (.reg [{ o := .bx (.v 0) 2, d := some 1 }, { o := .mv (.b false), d := some 2 }] []) (.seq (.reg [{ o := .ld (.v 1) 2 true }, { o := .ca N.plan_Check 0 [] [.l 0] }, { o := .bin .eql (.l 0) (.i 0) }, { o := .mv (.l 0), d := some 2 }] []) .ret)), res := [(2, none)] }
/-- slices.ContainsFunc[[]/api.Span,/api.Span] -/
def slices_ContainsFunc_api_Span_api_Span : Fn := { nargs := 2, vars := [0, 1, 4], body := (.seq (.reg [{ o := .mv (.b false), d := some 2 }] []) (.seq (.reg [{ o := .mv (.v 0) }, { o := .mv (.v 1) }, { o := .ca N.slices_IndexFunc_api_Span_api_Span 0 [] [.l 1, .l 0] }, { o := .bin .geq (.l 0) (.i 0) }, { o := .mv (.l 0), d := some 2 }] []) .ret)), res := [(2, none)] }
/-- /smoke.given.1 -/
def smoke_given_1 : Fn := { nargs := 1, vars := [0, 1, 2], body := (.seq (.reg [{ o := .bx (.v 0) 2, d := some 1 }, { o := .mv (.b false), d := some 2 }] []) (.seq (.reg [{ o := .fa (.v 1) 0 }, { o := .ld (.l 0) 1 false }, { o := .bin .lss (.l 0) (.i (-1125899906842624)) }, { o := .mv (.l 0) }, { o := .fa (.v 1) 1, g := some (0, false) }, { o := .ld (.l 0) 1 false, g := some (1, false) }, { o := .bin .gtr (.l 0) (.i 1125899906842624), g := some (2, false) }, { o := .pk (.l 3) (.b true) (.l 0) }, { o := .mv (.l 0) }, { o := .fa (.v 1) 0, g := some (0, false) }, { o := .ld (.l 0) 1 false, g := some (1, false) }, { o := .fa (.v 1) 1, g := some (2, false) }, { o := .ld (.l 0) 1 false, g := some (3, false) }, { o := .bin .gtr (.l 2) (.l 0), g := some (4, false) }, { o := .pk (.l 5) (.b true) (.l 0) }, { o := .mv (.l 0), d := some 2 }] []) .ret)), res := [(2, none)] }
/-- math/bits.Mul -/
def math_bits_Mul : Fn := { nargs := 2, vars := [0, 1, 4, 5, 8, 9], body := (.seq (.reg [{ o := .mv (.c (.t (.int .u64 (0)))), d := some 2 }, { o := .mv (.c (.t (.int .u64 (0)))), d := some 3 }] []) (.seq (.cnd false .skip) (.seq (.reg [{ o := .mv (.v 0) }, { o := .mv (.v 1) }, { o := .ca N.math_bits_Mul64 0 [] [.l 1, .l 0] }, { o := .mv (.l 0) }, { o := .ex (.l 0) 0 }, { o := .ex (.l 1) 1 }, { o := .mv (.l 1), d := some 4 }, { o := .mv (.l 1), d := some 5 }] []) (.seq (.reg [{ o := .mv (.v 4) }, { o := .mv (.v 5) }, { o := .mv (.l 1), d := some 2 }, { o := .mv (.l 1), d := some 3 }] []) .ret)))), res := [(2, none), (3, none)] }
/-- (/smoke.times).reach -/
def smoke_times_reach : Fn := { nargs := 5, vars := [0, 1, 2, 3, 4, 5, 10, 11], body := (.seq (.reg [{ o := .bx (.v 0) 4, d := some 5 }, { o := .mv (.b false), d := some 6 }] []) (.seq (.reg [{ o := .fa (.v 5) 0 }, { o := .ld (.l 0) 2 true }, { o := .mv (.v 1) }, { o := .fa (.v 5) 2 }, { o := .ld (.l 0) 1 false }, { o := .mv (.v 1) }, { o := .ia (.l 1) (.l 0) 2 }, { o := .ld (.l 0) 2 true }, { o := .mv (.v 4) }, { o := .ca N.smoke_Travel 0 [] [.l 7, .l 6, .l 1, .l 0] }, { o := .mv (.l 0), d := some 7 }] []) (.seq (.ite [{ o := .mv (.v 7) }, { o := .bin .lss (.l 0) (.i 0) }, { o := .mv (.l 0) }, { o := .fa (.v 5) 3, g := some (0, false) }, { o := .ld (.l 0) 1 false, g := some (1, false) }, { o := .mv (.v 2), g := some (2, false) }, { o := .ia (.l 1) (.l 0) 1, g := some (3, false) }, { o := .ld (.l 0) 1 false, g := some (4, false) }, { o := .bin .gtr (.l 0) (.i 2147483648), g := some (5, false) }, { o := .pk (.l 6) (.b true) (.l 0) }, { o := .mv (.l 0) }, { o := .fa (.v 5) 3, g := some (0, false) }, { o := .ld (.l 0) 1 false, g := some (1, false) }, { o := .mv (.v 2), g := some (2, false) }, { o := .ia (.l 1) (.l 0) 1, g := some (3, false) }, { o := .ld (.l 0) 1 false, g := some (4, false) }, { o := .mv (.v 7), g := some (5, false) }, { o := .bin .add (.l 1) (.l 0), g := some (6, false) }, { o := .bin .gtr (.l 0) (.i 2147483648), g := some (7, false) }, { o := .pk (.l 8) (.b true) (.l 0) }, { o := .mv (.l 0) }, { o := .fa (.v 5) 3, g := some (0, false) }, { o := .ld (.l 0) 1 false, g := some (1, false) }, { o := .mv (.v 2), g := some (2, false) }, { o := .ia (.l 1) (.l 0) 1, g := some (3, false) }, { o := .ld (.l 0) 1 false, g := some (4, false) }, { o := .mv (.v 7), g := some (5, false) }, { o := .bin .add (.l 1) (.l 0), g := some (6, false) }, { o := .fa (.v 5) 3, g := some (7, false) }, { o := .ld (.l 0) 1 false, g := some (8, false) }, { o := .mv (.v 3), g := some (9, false) }, { o := .ia (.l 1) (.l 0) 1, g := some (10, false) }, { o := .ld (.l 0) 1 false, g := some (11, false) }, { o := .bin .geq (.l 5) (.l 0), g := some (12, false) }, { o := .pk (.l 13) (.b true) (.l 0) }] [] 0 (.seq (.reg [{ o := .mv (.b false), d := some 6 }] []) .ret) .skip) (.seq (.reg [{ o := .fa (.v 5) 3 }, { o := .ld (.l 0) 1 false }, { o := .mv (.v 3) }, { o := .fa (.v 5) 3 }, { o := .ld (.l 0) 1 false }, { o := .mv (.v 2) }, { o := .ia (.l 1) (.l 0) 1 }, { o := .ld (.l 0) 1 false }, { o := .mv (.v 7) }, { o := .bin .add (.l 1) (.l 0) }, { o := .ia (.l 8) (.l 7) 1 }, { o := .st (.l 0) (.l 1) 1 [] }] []) (.seq (.reg [{ o := .mv (.b true), d := some 6 }] []) .ret))))), res := [(6, none)] }
end Go.Ev.K
namespace Go.Ev
class Has6 [Lib] : Prop where
  t_law28_SmokeSources : Lib.fs N.law28_SmokeSources = some K.law28_SmokeSources
  t_law28_SmokeRuns : Lib.fs N.law28_SmokeRuns = some K.law28_SmokeRuns
  t_law28_SmokeMade : Lib.fs N.law28_SmokeMade = some K.law28_SmokeMade
  t_law28_SmokeGrows : Lib.fs N.law28_SmokeGrows = some K.law28_SmokeGrows
  t_law28_awake : Lib.fs N.law28_awake = some K.law28_awake
  t_smoke_Start : Lib.fs N.smoke_Start = some K.smoke_Start
  t_smoke_Travel : Lib.fs N.smoke_Travel = some K.smoke_Travel
  t_smoke_Change : Lib.fs N.smoke_Change = some K.smoke_Change
  t_law28_agree : Lib.fs N.law28_agree = some K.law28_agree
  t_smoke_Free : Lib.fs N.smoke_Free = some K.smoke_Free
  t_smoke_given : Lib.fs N.smoke_given = some K.smoke_given
  t_slices_Repeat_int_int : Lib.fs N.slices_Repeat_int_int = some K.slices_Repeat_int_int
  t_smoke_times_spread : Lib.fs N.smoke_times_spread = some K.smoke_times_spread
  t_smoke_Valid : Lib.fs N.smoke_Valid = some K.smoke_Valid
  t_ref28_Same : Lib.fs N.ref28_Same = some K.ref28_Same
  t_ref28_Filled : Lib.fs N.ref28_Filled = some K.ref28_Filled
  t_ref28_Free : Lib.fs N.ref28_Free = some K.ref28_Free
  t_smoke_Free_1 : Lib.fs N.smoke_Free_1 = some K.smoke_Free_1
  t_plan_Valid : Lib.fs N.plan_Valid = some K.plan_Valid
  t_slices_ContainsFunc_api_Span_api_Span : Lib.fs N.slices_ContainsFunc_api_Span_api_Span = some K.slices_ContainsFunc_api_Span_api_Span
  t_smoke_given_1 : Lib.fs N.smoke_given_1 = some K.smoke_given_1
  t_math_bits_Mul : Lib.fs N.math_bits_Mul = some K.math_bits_Mul
  t_smoke_times_reach : Lib.fs N.smoke_times_reach = some K.smoke_times_reach
namespace K
variable [Lib] [Has6]
theorem t_law28_SmokeSources : Lib.fs N.law28_SmokeSources = some K.law28_SmokeSources := Has6.t_law28_SmokeSources
theorem t_law28_SmokeRuns : Lib.fs N.law28_SmokeRuns = some K.law28_SmokeRuns := Has6.t_law28_SmokeRuns
theorem t_law28_SmokeMade : Lib.fs N.law28_SmokeMade = some K.law28_SmokeMade := Has6.t_law28_SmokeMade
theorem t_law28_SmokeGrows : Lib.fs N.law28_SmokeGrows = some K.law28_SmokeGrows := Has6.t_law28_SmokeGrows
theorem t_law28_awake : Lib.fs N.law28_awake = some K.law28_awake := Has6.t_law28_awake
theorem t_smoke_Start : Lib.fs N.smoke_Start = some K.smoke_Start := Has6.t_smoke_Start
theorem t_smoke_Travel : Lib.fs N.smoke_Travel = some K.smoke_Travel := Has6.t_smoke_Travel
theorem t_smoke_Change : Lib.fs N.smoke_Change = some K.smoke_Change := Has6.t_smoke_Change
theorem t_law28_agree : Lib.fs N.law28_agree = some K.law28_agree := Has6.t_law28_agree
theorem t_smoke_Free : Lib.fs N.smoke_Free = some K.smoke_Free := Has6.t_smoke_Free
theorem t_smoke_given : Lib.fs N.smoke_given = some K.smoke_given := Has6.t_smoke_given
theorem t_slices_Repeat_int_int : Lib.fs N.slices_Repeat_int_int = some K.slices_Repeat_int_int := Has6.t_slices_Repeat_int_int
theorem t_smoke_times_spread : Lib.fs N.smoke_times_spread = some K.smoke_times_spread := Has6.t_smoke_times_spread
theorem t_smoke_Valid : Lib.fs N.smoke_Valid = some K.smoke_Valid := Has6.t_smoke_Valid
theorem t_ref28_Same : Lib.fs N.ref28_Same = some K.ref28_Same := Has6.t_ref28_Same
theorem t_ref28_Filled : Lib.fs N.ref28_Filled = some K.ref28_Filled := Has6.t_ref28_Filled
theorem t_ref28_Free : Lib.fs N.ref28_Free = some K.ref28_Free := Has6.t_ref28_Free
theorem t_smoke_Free_1 : Lib.fs N.smoke_Free_1 = some K.smoke_Free_1 := Has6.t_smoke_Free_1
theorem t_plan_Valid : Lib.fs N.plan_Valid = some K.plan_Valid := Has6.t_plan_Valid
theorem t_slices_ContainsFunc_api_Span_api_Span : Lib.fs N.slices_ContainsFunc_api_Span_api_Span = some K.slices_ContainsFunc_api_Span_api_Span := Has6.t_slices_ContainsFunc_api_Span_api_Span
theorem t_smoke_given_1 : Lib.fs N.smoke_given_1 = some K.smoke_given_1 := Has6.t_smoke_given_1
theorem t_math_bits_Mul : Lib.fs N.math_bits_Mul = some K.math_bits_Mul := Has6.t_math_bits_Mul
theorem t_smoke_times_reach : Lib.fs N.smoke_times_reach = some K.smoke_times_reach := Has6.t_smoke_times_reach
end K
end Go.Ev

/- MADE BY PROGRAM (lib.py): the compact code of functions. -/
namespace Go.Ev.K
open Go.Ev
/-- /smoke.Valid.1 -/
def smoke_Valid_1 : Fn := { nargs := 2, vars := [0, 1, 3], body := (.seq (.reg [{ o := .mv (.b false), d := some 2 }] []) (.seq (.reg [{ o := .mv (.v 0) }, { o := .bin .neq (.l 0) (.i 1099511627776) }, { o := .mv (.l 0) }, { o := .mv (.v 0), g := some (0, true) }, { o := .fa (.v 1) 0, g := some (1, true) }, { o := .ld (.l 0) 1 false, g := some (2, true) }, { o := .ca N.lists_In 0 [] [.l 2, .l 0, .i 2147483648], g := some (3, true) }, { o := .un .not (.l 0), g := some (4, true) }, { o := .pk (.l 5) (.l 0) (.b false) }, { o := .mv (.l 0), d := some 2 }] []) .ret)), res := [(2, none)] }
def plan_Check_l1b : C := (.its  [{ o := .bin .lss (.v 8) (.v 7) }] [] 0 .skip (.exit 0) (.seq (.blk 1 (.seq (.reg [{ o := .ia (.v 6) (.v 8) 2 }, { o := .ld (.l 0) 2 true }, { o := .al [.t (.int .i64 (0)), .t (.bool false)] [], d := some 3 }, { o := .st (.l 0) (.l 1) 2 [] }] []) (.ite [{ o := .fa (.v 3) 0 }, { o := .ld (.l 0) 1 false }, { o := .bin .lss (.l 0) (.i (-10000)) }, { o := .mv (.l 0) }, { o := .fa (.v 3) 0, g := some (0, false) }, { o := .ld (.l 0) 1 false, g := some (1, false) }, { o := .bin .gtr (.l 0) (.i 10000), g := some (2, false) }, { o := .pk (.l 3) (.b true) (.l 0) }] [] 0 (.seq (.reg [{ o := .mv (.i 1), d := some 2 }] []) .ret) .skip))) (.reg [{ o := .bin .add (.v 8) (.i 1) }, { o := .mv (.l 0), d := some 8 }] [])))
def plan_Check_l1 : C := .loop true [0, 2, 3, 4, 5, 9, 10, 11] K.plan_Check_l1b
def plan_Check_l2b : C := (.its  [{ o := .bin .lss (.v 11) (.v 10) }] [] 0 .skip (.exit 2) (.seq (.blk 3 (.seq (.reg [{ o := .ia (.v 9) (.v 11) 10 }, { o := .ld (.l 0) 10 true }, { o := .al [.t (.int .i64 (0)), .t (.int .i64 (0)), .t (.int .i64 (0)), .t (.int .i64 (0)), .t (.bool false), .t (.bool false), .t (.int .i64 (0)), .t (.int .i64 (0)), .t (.int .i64 (0)), .t (.int .i64 (0))] [], d := some 5 }, { o := .st (.l 0) (.l 1) 10 [] }] []) (.seq (.ite [{ o := .fa (.v 5) 0 }, { o := .ld (.l 0) 1 false }, { o := .bin .lss (.l 0) (.i 0) }, { o := .mv (.l 0) }, { o := .fa (.v 5) 0, g := some (0, false) }, { o := .ld (.l 0) 1 false, g := some (1, false) }, { o := .mv (.v 4), g := some (2, false) }, { o := .bin .geq (.l 1) (.l 0), g := some (3, false) }, { o := .pk (.l 4) (.b true) (.l 0) }, { o := .mv (.l 0) }, { o := .fa (.v 5) 1, g := some (0, false) }, { o := .ld (.l 0) 1 false, g := some (1, false) }, { o := .bin .lss (.l 0) (.i 0), g := some (2, false) }, { o := .pk (.l 3) (.b true) (.l 0) }, { o := .mv (.l 0) }, { o := .fa (.v 5) 1, g := some (0, false) }, { o := .ld (.l 0) 1 false, g := some (1, false) }, { o := .mv (.v 4), g := some (2, false) }, { o := .bin .geq (.l 1) (.l 0), g := some (3, false) }, { o := .pk (.l 4) (.b true) (.l 0) }, { o := .mv (.l 0) }, { o := .fa (.v 5) 0, g := some (0, false) }, { o := .ld (.l 0) 1 false, g := some (1, false) }, { o := .fa (.v 5) 1, g := some (2, false) }, { o := .ld (.l 0) 1 false, g := some (3, false) }, { o := .bin .eql (.l 2) (.l 0), g := some (4, false) }, { o := .pk (.l 5) (.b true) (.l 0) }] [] 0 (.seq (.reg [{ o := .mv (.i 4), d := some 2 }] []) .ret) .skip) (.seq (.ite [{ o := .fa (.v 5) 2 }, { o := .ld (.l 0) 1 false }, { o := .bin .lss (.l 0) (.i 1) }, { o := .mv (.l 0) }, { o := .fa (.v 5) 2, g := some (0, false) }, { o := .ld (.l 0) 1 false, g := some (1, false) }, { o := .bin .gtr (.l 0) (.i 100000), g := some (2, false) }, { o := .pk (.l 3) (.b true) (.l 0) }, { o := .mv (.l 0) }, { o := .fa (.v 5) 3, g := some (0, false) }, { o := .ld (.l 0) 1 false, g := some (1, false) }, { o := .bin .lss (.l 0) (.i 1), g := some (2, false) }, { o := .pk (.l 3) (.b true) (.l 0) }, { o := .mv (.l 0) }, { o := .fa (.v 5) 3, g := some (0, false) }, { o := .ld (.l 0) 1 false, g := some (1, false) }, { o := .bin .gtr (.l 0) (.i 1000), g := some (2, false) }, { o := .pk (.l 3) (.b true) (.l 0) }] [] 0 (.seq (.reg [{ o := .mv (.i 1), d := some 2 }] []) .ret) .skip) (.ite [{ o := .fa (.v 5) 6 }, { o := .ld (.l 0) 2 true }, { o := .ca N.plan_spanIn 0 [] [.l 0, .i 1, .i 262144] }, { o := .un .not (.l 0) }, { o := .mv (.l 0) }, { o := .fa (.v 5) 8, g := some (0, false) }, { o := .ld (.l 0) 2 true, g := some (1, false) }, { o := .ca N.plan_spanIn 0 [] [.l 0, .i (-2199023255552), .i 2199023255552], g := some (2, false) }, { o := .un .not (.l 0), g := some (3, false) }, { o := .pk (.l 4) (.b true) (.l 0) }] [] 0 (.seq (.reg [{ o := .mv (.i 1), d := some 2 }] []) .ret) .skip))))) (.reg [{ o := .bin .add (.v 11) (.i 1) }, { o := .mv (.l 0), d := some 11 }] [])))
def plan_Check_l2 : C := .loop true [0, 1, 2, 3, 5, 6, 7, 8] K.plan_Check_l2b
/-- /plan.Check -/
def plan_Check : Fn := { nargs := 1, vars := [0, 1, 2, 4, 5, 7, 19, 20, 21, 38, 39, 40], body := (.seq (.reg [{ o := .bx (.v 0) 2, d := some 1 }, { o := .mv (.i 0), d := some 2 }] []) (.seq (.ite [{ o := .fa (.v 1) 0 }, { o := .ld (.l 0) 1 false }, { o := .ln (.l 0) }, { o := .bin .gtr (.l 0) (.i 64) }, { o := .mv (.l 0) }, { o := .fa (.v 1) 1, g := some (0, false) }, { o := .ld (.l 0) 1 false, g := some (1, false) }, { o := .ln (.l 0), g := some (2, false) }, { o := .bin .gtr (.l 0) (.i 128), g := some (3, false) }, { o := .pk (.l 4) (.b true) (.l 0) }] [] 0 (.seq (.reg [{ o := .mv (.i 2), d := some 2 }] []) .ret) .skip) (.seq (.seq (.reg [{ o := .fa (.v 1) 0 }, { o := .ld (.l 0) 1 false, d := some 6 }, { o := .ln (.l 0), d := some 7 }, { o := .mv (.i 0), d := some 8 }] []) (.blk 0 K.plan_Check_l1)) (.seq (.reg [{ o := .fa (.v 1) 0 }, { o := .ld (.l 0) 1 false }, { o := .ln (.l 0) }, { o := .mv (.l 0), d := some 4 }] []) (.seq (.seq (.reg [{ o := .fa (.v 1) 1 }, { o := .ld (.l 0) 1 false, d := some 9 }, { o := .ln (.l 0), d := some 10 }, { o := .mv (.i 0), d := some 11 }] []) (.blk 2 K.plan_Check_l2)) (.seq (.reg [{ o := .mv (.i 0), d := some 2 }] []) .ret)))))), res := [(2, none)] }
def slices_IndexFunc_api_Span_api_Span_l1b : C := (.its  [{ o := .bin .lss (.v 5) (.v 4) }] [] 0 .skip (.exit 0) (.seq (.blk 1 (.seq (.reg [{ o := .mv (.v 5) }, { o := .mv (.l 0), d := some 3 }] []) (.ite [{ o := .mv (.v 1) }, { o := .mv (.v 0) }, { o := .mv (.v 3) }, { o := .ia (.l 1) (.l 0) 2 }, { o := .ld (.l 0) 2 true }, { o := .cw (.l 4) 0 [] [.l 0] }] [] 0 (.seq (.reg [{ o := .mv (.v 3) }, { o := .mv (.l 0), d := some 2 }] []) .ret) .skip))) (.reg [{ o := .bin .add (.v 5) (.i 1) }, { o := .mv (.l 0), d := some 5 }] [])))
def slices_IndexFunc_api_Span_api_Span_l1 : C := .loop true [2, 3] K.slices_IndexFunc_api_Span_api_Span_l1b
/-- slices.IndexFunc[[]/api.Span,/api.Span] -/
def slices_IndexFunc_api_Span_api_Span : Fn := { nargs := 2, vars := [0, 1, 4, 5, 7, 8], body := (.seq (.reg [{ o := .mv (.i 0), d := some 2 }] []) (.seq (.seq (.reg [{ o := .mv (.v 0) }, { o := .ln (.l 0), d := some 4 }, { o := .mv (.i 0), d := some 5 }] []) (.blk 0 K.slices_IndexFunc_api_Span_api_Span_l1)) (.seq (.reg [{ o := .mv (.i (-1)), d := some 2 }] []) .ret))), res := [(2, none)] }
/-- math/bits.Mul32 -/
def math_bits_Mul32 : Fn := { nargs := 2, vars := [0, 1, 4, 5, 6], body := (.seq (.reg [{ o := .mv (.c (.t (.int .u32 (0)))), d := some 2 }, { o := .mv (.c (.t (.int .u32 (0)))), d := some 3 }] []) (.seq (.reg [{ o := .mv (.v 0) }, { o := .cv .u64 (.l 0) }, { o := .mv (.v 1) }, { o := .cv .u64 (.l 0) }, { o := .bin .mul (.l 2) (.l 0) }, { o := .mv (.l 0), d := some 4 }] []) (.seq (.reg [{ o := .mv (.v 4) }, { o := .bin .shr (.l 0) (.c (.t (.int .u64 (32)))) }, { o := .cv .u32 (.l 0) }, { o := .mv (.v 4) }, { o := .cv .u32 (.l 0) }, { o := .mv (.l 2), d := some 2 }, { o := .mv (.l 1), d := some 3 }] []) .ret))), res := [(2, none), (3, none)] }
/-- math/bits.Mul64 -/
def math_bits_Mul64 : Fn := { nargs := 2, vars := [0, 1, 4, 5, 6, 7, 8, 9, 10, 11, 12, 13], body := (.seq (.reg [{ o := .mv (.c (.t (.int .u64 (0)))), d := some 2 }, { o := .mv (.c (.t (.int .u64 (0)))), d := some 3 }] []) (.seq (.reg [{ o := .mv (.v 0) }, { o := .bin .and (.l 0) (.c (.t (.int .u64 (4294967295)))) }, { o := .mv (.l 0), d := some 4 }] []) (.seq (.reg [{ o := .mv (.v 0) }, { o := .bin .shr (.l 0) (.c (.t (.int .u64 (32)))) }, { o := .mv (.l 0), d := some 5 }] []) (.seq (.reg [{ o := .mv (.v 1) }, { o := .bin .and (.l 0) (.c (.t (.int .u64 (4294967295)))) }, { o := .mv (.l 0), d := some 6 }] []) (.seq (.reg [{ o := .mv (.v 1) }, { o := .bin .shr (.l 0) (.c (.t (.int .u64 (32)))) }, { o := .mv (.l 0), d := some 7 }] []) (.seq (.reg [{ o := .mv (.v 4) }, { o := .mv (.v 6) }, { o := .bin .mul (.l 1) (.l 0) }, { o := .mv (.l 0), d := some 8 }] []) (.seq (.reg [{ o := .mv (.v 5) }, { o := .mv (.v 6) }, { o := .bin .mul (.l 1) (.l 0) }, { o := .mv (.v 8) }, { o := .bin .shr (.l 0) (.c (.t (.int .u64 (32)))) }, { o := .bin .add (.l 2) (.l 0) }, { o := .mv (.l 0), d := some 9 }] []) (.seq (.reg [{ o := .mv (.v 9) }, { o := .bin .and (.l 0) (.c (.t (.int .u64 (4294967295)))) }, { o := .mv (.l 0), d := some 10 }] []) (.seq (.reg [{ o := .mv (.v 9) }, { o := .bin .shr (.l 0) (.c (.t (.int .u64 (32)))) }, { o := .mv (.l 0), d := some 11 }] []) (.seq (.reg [{ o := .mv (.v 10) }, { o := .mv (.v 4) }, { o := .mv (.v 7) }, { o := .bin .mul (.l 1) (.l 0) }, { o := .bin .add (.l 3) (.l 0) }, { o := .mv (.l 0), d := some 10 }] []) (.seq (.reg [{ o := .mv (.v 5) }, { o := .mv (.v 7) }, { o := .bin .mul (.l 1) (.l 0) }, { o := .mv (.v 11) }, { o := .bin .add (.l 1) (.l 0) }, { o := .mv (.v 10) }, { o := .bin .shr (.l 0) (.c (.t (.int .u64 (32)))) }, { o := .bin .add (.l 2) (.l 0) }, { o := .mv (.l 0), d := some 2 }] []) (.seq (.reg [{ o := .mv (.v 0) }, { o := .mv (.v 1) }, { o := .bin .mul (.l 1) (.l 0) }, { o := .mv (.l 0), d := some 3 }] []) .ret)))))))))))), res := [(2, none), (3, none)] }
/-- /plan.spanIn -/
def plan_spanIn : Fn := { nargs := 3, vars := [0, 1, 2, 3, 6], body := (.seq (.reg [{ o := .bx (.v 0) 2, d := some 3 }, { o := .mv (.b false), d := some 4 }] []) (.seq (.reg [{ o := .mv (.v 1) }, { o := .fa (.v 3) 0 }, { o := .ld (.l 0) 1 false }, { o := .bin .leq (.l 2) (.l 0) }, { o := .mv (.l 0) }, { o := .fa (.v 3) 0, g := some (0, true) }, { o := .ld (.l 0) 1 false, g := some (1, true) }, { o := .fa (.v 3) 1, g := some (2, true) }, { o := .ld (.l 0) 1 false, g := some (3, true) }, { o := .bin .leq (.l 2) (.l 0), g := some (4, true) }, { o := .pk (.l 5) (.l 0) (.b false) }, { o := .mv (.l 0) }, { o := .fa (.v 3) 1, g := some (0, true) }, { o := .ld (.l 0) 1 false, g := some (1, true) }, { o := .mv (.v 2), g := some (2, true) }, { o := .bin .leq (.l 1) (.l 0), g := some (3, true) }, { o := .pk (.l 4) (.l 0) (.b false) }, { o := .mv (.l 0), d := some 4 }] []) .ret)), res := [(4, none)] }
end Go.Ev.K
namespace Go.Ev
class Has7 [Lib] : Prop where
  t_smoke_Valid_1 : Lib.fs N.smoke_Valid_1 = some K.smoke_Valid_1
  t_plan_Check : Lib.fs N.plan_Check = some K.plan_Check
  t_slices_IndexFunc_api_Span_api_Span : Lib.fs N.slices_IndexFunc_api_Span_api_Span = some K.slices_IndexFunc_api_Span_api_Span
  t_math_bits_Mul32 : Lib.fs N.math_bits_Mul32 = some K.math_bits_Mul32
  t_math_bits_Mul64 : Lib.fs N.math_bits_Mul64 = some K.math_bits_Mul64
  t_plan_spanIn : Lib.fs N.plan_spanIn = some K.plan_spanIn
namespace K
variable [Lib] [Has7]
theorem t_smoke_Valid_1 : Lib.fs N.smoke_Valid_1 = some K.smoke_Valid_1 := Has7.t_smoke_Valid_1
theorem t_plan_Check : Lib.fs N.plan_Check = some K.plan_Check := Has7.t_plan_Check
theorem t_slices_IndexFunc_api_Span_api_Span : Lib.fs N.slices_IndexFunc_api_Span_api_Span = some K.slices_IndexFunc_api_Span_api_Span := Has7.t_slices_IndexFunc_api_Span_api_Span
theorem t_math_bits_Mul32 : Lib.fs N.math_bits_Mul32 = some K.math_bits_Mul32 := Has7.t_math_bits_Mul32
theorem t_math_bits_Mul64 : Lib.fs N.math_bits_Mul64 = some K.math_bits_Mul64 := Has7.t_math_bits_Mul64
theorem t_plan_spanIn : Lib.fs N.plan_spanIn = some K.plan_spanIn := Has7.t_plan_spanIn
end K
end Go.Ev

/- slices.Repeat of one number. -/
namespace Go.Ev
open Go
variable [Lib] [Has1] [Has2] [Has6] [Has7]

/- the operation copy -/
section
variable (H : Heap) (sz : Nat)
def putO (id ep n lo hi : Nat) (ys : List D) : Option Obj → Option (D × Heap)
  | some (.arr sz' pin ep' es) => if ep = ep' ∧ n = es.length then putD H id ep (sz', pin, es) lo hi ys sz else none
  | _ => none
def cpD (x : D) (ys : List D) : Option (D × Heap) := if headSize sz ys = true then (match x with
  | .ref id ep n => putO H sz id ep n 0 n ys H[id]?
  | .sub id ep n lo hi => putO H sz id ep n lo hi ys H[id]?
  | _ => none) else none
def opCp (x y : Option D) : Option (D × Heap) := x.bind fun a => y.bind fun b => copyD H a b sz
@[go_sem] theorem ev_cp (call : Oracle) (get : X → Option D) (x y : X) : evO call get H (.cp x y sz) = opCp H sz (get x) (get y) := (rfl)
theorem copyD_is (x y : D) (ys : List D) (h : elems H y = some ys) : copyD H x y sz = cpD H sz x ys := by
  unfold copyD cpD
  rw [h, Option.bind_some]
  split
  · rename_i hh
    cases x with
    | ref id ep n =>
      simp only [arrAt, putO]
      cases H[id]? with
      | none => rfl
      | some o =>
        cases o with
        | box cs => rfl
        | arr sz' pin ep' es =>
          simp only
          by_cases c : ep = ep' ∧ n = es.length
          · rw [if_pos c, if_pos c]; rfl
          · rw [if_neg c, if_neg c]; rfl
    | sub id ep n lo hi =>
      simp only [arrAt, putO]
      cases H[id]? with
      | none => rfl
      | some o =>
        cases o with
        | box cs => rfl
        | arr sz' pin ep' es =>
          simp only
          by_cases c : ep = ep' ∧ n = es.length
          · rw [if_pos c, if_pos c]; rfl
          · rw [if_neg c, if_neg c]; rfl
    | _ => rfl
  · rfl
@[go_sem] theorem opCp_t (x : D) (ts : List T) : opCp H sz (some x) (some (.t (.sl ts))) = cpD H sz x (ts.map .t) := copyD_is H sz x (.t (.sl ts)) (ts.map .t) rfl
def cpE (x : D) (ep n lo hi : Nat) : Option Obj → Option (D × Heap)
  | some (.arr _ _ ep' es) => if ep = ep' ∧ n = es.length then cpD H sz x ((es.drop lo).take (hi - lo)) else none
  | _ => none
@[go_sem] theorem cpE_arr (x : D) (n lo hi sz' : Nat) (pin : Bool) (ep : Nat) (es : List D) : cpE H sz x ep n lo hi (some (.arr sz' pin ep es)) = if n = es.length then cpD H sz x ((es.drop lo).take (hi - lo)) else none := by simp [cpE]
@[go_sem] theorem opCp_sub (x : D) (id ep n lo hi : Nat) : opCp H sz (some x) (some (.sub id ep n lo hi)) = cpE H sz x ep n lo hi H[id]? := by
  unfold opCp
  simp only [Option.bind_some]
  cases h : H[id]? with
  | none => simp [copyD, elems, arrAt, h, cpE]
  | some o =>
    cases o with
    | box cs => simp [copyD, elems, arrAt, h, cpE]
    | arr sz' pin ep' es =>
      by_cases c : ep = ep' ∧ n = es.length
      · rw [copyD_is H sz x _ ((es.drop lo).take (hi - lo)) (by simp [elems, arrAt, h, c])]
        simp only [cpE, if_pos c]
      · simp [copyD, elems, arrAt, h, cpE, c]
@[go_sem] theorem cpD_ref (id ep n : Nat) (ys : List D) : cpD H sz (.ref id ep n) ys = if headSize sz ys = true then putO H sz id ep n 0 n ys H[id]? else none := (rfl)
@[go_sem] theorem cpD_sub (id ep n lo hi : Nat) (ys : List D) : cpD H sz (.sub id ep n lo hi) ys = if headSize sz ys = true then putO H sz id ep n lo hi ys H[id]? else none := (rfl)
@[go_sem] theorem putO_arr (id n lo hi : Nat) (ys : List D) (ep : Nat) (es : List D) : putO H sz id ep n lo hi ys (some (.arr sz false ep es)) =
    if n = es.length then (if min ys.length (hi - lo) = 0 then some (.t (.int .i64 0), H) else some (.t (.int .i64 ((min ys.length (hi - lo) : Nat) : Int)), H.set id (.arr sz false ep (es.take lo ++ ys.take (min ys.length (hi - lo)) ++ es.drop (lo + min ys.length (hi - lo)))))) else none := by
  simp [putO, putD]
end

/- numbers -/
theorem wrapU {n : Int} (h1 : 0 ≤ n) (h2 : n < 18446744073709551616) : IntKind.u64.wrap n = n := by
  have e : IntKind.u64.wrap n = n % 18446744073709551616 := by simp [IntKind.wrap, IntKind.signed, IntKind.bits]
  rw [e]; omega
theorem and32 {n : Nat} (h : n < 4294967296) : IntKind.u64.wrap ((BitVec.ofInt IntKind.u64.bits (n : Int) &&& BitVec.ofInt IntKind.u64.bits 4294967295).toNat : Nat) = (n : Int) := by
  have e : (BitVec.ofInt IntKind.u64.bits (n : Int) &&& BitVec.ofInt IntKind.u64.bits 4294967295).toNat = n := by
    rw [BitVec.toNat_and]
    have a : (BitVec.ofInt IntKind.u64.bits (n : Int)).toNat = n := by
      rw [BitVec.ofInt_natCast, BitVec.toNat_ofNat]
      exact Nat.mod_eq_of_lt (Nat.lt_of_lt_of_le h (by decide))
    have b : (BitVec.ofInt IntKind.u64.bits 4294967295).toNat = 2 ^ 32 - 1 := by decide
    rw [a, b, Nat.and_two_pow_sub_one_eq_mod]
    exact Nat.mod_eq_of_lt h
  rw [e]
  exact wrapU (by omega) (by omega)
theorem shr32 {n : Nat} (h : n < 4294967296) : (n : Int).fdiv (2 ^ min (32 : Int).toNat IntKind.u64.bits) = 0 := by
  have e : (2 ^ min (32 : Int).toNat IntKind.u64.bits : Int) = 4294967296 := by decide
  rw [e, Int.fdiv_eq_ediv_of_nonneg _ (by omega)]
  omega
theorem and32n {n : Nat} (h : n < 4294967296) : (((BitVec.ofInt IntKind.u64.bits (n : Int) &&& BitVec.ofInt IntKind.u64.bits 4294967295).toNat : Nat) : Int) = (n : Int) := by
  have e := and32 h
  rwa [wrapU (by omega) (by
    have : (BitVec.ofInt IntKind.u64.bits (n : Int) &&& BitVec.ofInt IntKind.u64.bits 4294967295).toNat < 2 ^ IntKind.u64.bits := BitVec.isLt _
    have : 2 ^ IntKind.u64.bits = 18446744073709551616 := by decide
    omega)] at e
theorem mul64_ok (a b : Nat) (ha : a < 4294967296) (hb : b < 4294967296) (h : a * b < 4294967296) : CALL 0 N.math_bits_Mul64 [.t (.int .u64 a), .t (.int .u64 b)] [] = some (.tup [.t (.int .u64 0), .t (.int .u64 ((a * b : Nat) : Int))], []) := by
  refine CALL_of K.t_math_bits_Mul64 rfl ?_
  have m : (a : Int) * (b : Int) = ((a * b : Nat) : Int) := (Int.natCast_mul a b).symm
  have z := and32 (n := 0) (by omega)
  have z2 := shr32 (n := 0) (by omega)
  have z3 := and32n (n := 0) (by omega)
  have g3 := fun (n : Nat) (h : n < 4294967296) => and32n (n := n) h
  have g4 := fun (n : Nat) (h : n < 4294967296) => shr32 (n := n) h
  simp only [Int.ofNat_zero, Int.natCast_zero] at z z2 z3
  simp only [go_sem] at z2 z3 g3 g4
  simp (disch := omega) only [go_sem, K.math_bits_Mul64, ↓reduceIte, g3, g4, m, z2, z3, wrapU, Int.zero_mul, Int.mul_zero, Int.add_zero, Int.zero_add, Nat.reduceAdd, Nat.reduceSub]
theorem mul_ok (a b : Nat) (ha : a < 4294967296) (hb : b < 4294967296) (h : a * b < 4294967296) : CALL 0 N.math_bits_Mul [.t (.int .u64 a), .t (.int .u64 b)] [] = some (.tup [.t (.int .u64 0), .t (.int .u64 ((a * b : Nat) : Int))], []) := by
  refine CALL_of K.t_math_bits_Mul rfl ?_
  have m := mul64_ok a b ha hb h
  simp (disch := omega) only [go_sem, K.math_bits_Mul, ↓reduceIte, m, Nat.reduceAdd, Nat.reduceSub]

/- an array that is filled from the left -/
def repD (v : Int) (n cur : Nat) : List D := List.replicate cur (I v) ++ List.replicate (n - cur) (I 0)
theorem repD_len (v : Int) {n cur : Nat} (h : cur ≤ n) : (repD v n cur).length = n := by simp [repD]; omega
theorem repD_step (v : Int) {n cur m : Nat} (h : cur + m ≤ n) (hm : m ≤ cur) : (repD v n cur).take cur ++ ((repD v n cur).take cur).take m ++ (repD v n cur).drop (cur + m) = repD v n (cur + m) := by
  unfold repD
  have e1 : (List.replicate cur (I v) ++ List.replicate (n - cur) (I 0)).take cur = List.replicate cur (I v) := by
    rw [List.take_append_of_le_length (by simp), List.take_of_length_le (by simp)]
  have e2 : (List.replicate cur (I v) ++ List.replicate (n - cur) (I 0)).drop (cur + m) = List.replicate (n - (cur + m)) (I 0) := by
    rw [List.drop_append, List.length_replicate]
    simp; omega
  rw [e1, e2, List.take_replicate, Nat.min_eq_left hm, List.replicate_append_replicate]

theorem repD_t (v : Int) (n cur : Nat) : ∃ ts : List T, repD v n cur = ts.map .t := ⟨List.replicate cur (tI v) ++ List.replicate (n - cur) (tI 0), by simp [repD]⟩
theorem headSize_rep (v : Int) (n cur : Nat) (lo k : Nat) : headSize 1 (((repD v n cur).drop lo).take k) = true := by
  cases h : ((repD v n cur).drop lo).take k with
  | nil => rfl
  | cons d r =>
    have hm : d ∈ repD v n cur := List.mem_of_mem_drop (List.mem_of_mem_take (h ▸ List.mem_cons_self))
    unfold repD at hm
    simp only [List.mem_append, List.mem_replicate] at hm
    rcases hm with ⟨-, rfl⟩ | ⟨-, rfl⟩ <;> rfl

theorem repeat_loop (v : Int) (n : Nat) (hn : n ≤ 1000000) : ∀ (k cur : Nat), n - cur ≤ k → 1 ≤ cur → cur ≤ n →
    loopC true [0, 1, 2, 3, 4] (exS CALL K.slices_Repeat_int_int_l1b) ⟨[.und, .und, .und, .und, .und, .ref 0 0 n, I cur], [.arr 1 false 0 (repD v n cur)]⟩ =
      some (.exit 0, ⟨[.und, .und, .und, .und, .und, .ref 0 0 n, I n], [.arr 1 false 0 (repD v n n)]⟩) := by
  intro k
  induction k with
  | zero =>
    intro cur h1 h2 h3
    have : cur = n := by omega
    subst this
    refine loopC_exit ?_ (by simp)
    have rl := repD_len v (Nat.le_refl cur)
    simp (disch := omega) only [go_sem, K.slices_Repeat_int_int_l1b, ↓reduceIte, Nat.reduceAdd, Nat.reduceSub]
  | succ k ih =>
    intro cur h1 h2 h3
    by_cases c : cur = n
    · subst c
      refine loopC_exit ?_ (by simp)
      simp (disch := omega) only [go_sem, K.slices_Repeat_int_int_l1b, ↓reduceIte, Nat.reduceAdd, Nat.reduceSub]
    · have rl := repD_len v (n := n) (cur := cur) (by omega)
      have st := repD_step v (n := n) (cur := cur) (m := min cur (n - cur)) (by omega) (by omega)
      have hs := headSize_rep v n cur 0 cur
      rw [List.drop_zero] at hs
      have tl : ((repD v n cur).take cur).length = cur := by rw [List.length_take]; omega
      refine loopC_step (st2 := ⟨[.und, .und, .und, .und, .und, .ref 0 0 n, I ((cur + min cur (n - cur) : Nat) : Int)], [.arr 1 false 0 (repD v n (cur + min cur (n - cur)))]⟩) ?_ (ih _ (by omega) (by omega) (by omega))
      rw [← st]
      obtain ⟨ts, hts⟩ := repD_t v n cur
      have ao : ∀ a b c : Nat, allOld 1 8 ((repD v n cur).take a) = true ∧ allOld 1 8 (((repD v n cur).take a).take b) = true ∧ allOld 1 8 ((repD v n cur).drop c) = true := fun a b c => by
        rw [hts, ← List.map_take, ← List.map_take, ← List.map_drop]
        simp only [go_sem, and_self]
      have ao1 := fun a => (ao a 0 0).1
      have ao2 := fun a b => (ao a b 0).2.1
      have ao3 := fun c => (ao 0 0 c).2.2
      clear ao hts
      generalize repD v n cur = es at *
      simp (disch := omega) only [go_sem, K.slices_Repeat_int_int_l1b, ↓reduceIte, rl, hs, tl, ao1, ao2, ao3, and_self, List.drop_zero, Nat.sub_zero, Nat.reduceAdd, Nat.reduceSub]

theorem repeat_ok (v : Int) (n : Nat) (h1 : 1 ≤ n) (hn : n ≤ 1000000) : CALL 1 N.slices_Repeat_int_int [.t (tL [v]), I n] [] = some (.ref 0 0 n, [.arr 1 false 0 (List.replicate n (I v))]) := by
  refine CALL_of K.t_slices_Repeat_int_int rfl ?_
  have m := mul_ok 1 n (by omega) (by omega) (by omega)
  rw [Nat.one_mul] at m
  change CALL 0 N.math_bits_Mul [.t (.int .u64 1), .t (.int .u64 n)] [] = _ at m
  have w1 : IntKind.u64.wrap 1 = 1 := by decide
  have w2 : IntKind.u64.wrap (n : Int) = n := wrapU (by omega) (by omega)
  have w3 : IntKind.i64.wrap (n : Int) = n := wrap_id (by omega) (by omega)
  have lp := repeat_loop v n hn n 1 (by omega) (by omega) h1
  have loop : ∀ z0 z1 z2 z3 z4 : D, exS CALL K.slices_Repeat_int_int_l1 ⟨[z0, z1, z2, z3, z4, .ref 0 0 n, I 1], [.arr 1 false 0 (I v :: List.replicate (n - 1) (I 0))]⟩ = some (.exit 0, ⟨[.und, .und, .und, .und, .und, .ref 0 0 n, I n], [.arr 1 false 0 (List.replicate n (I v))]⟩) := by
    intro z0 z1 z2 z3 z4
    have e1 : repD v n 1 = I v :: List.replicate (n - 1) (I 0) := rfl
    have e2 : repD v n n = List.replicate n (I v) := by simp [repD]
    rw [e1, e2] at lp
    exact lp
  have dr : (List.replicate n (D.t (.int .i64 0))).drop 1 = List.replicate (n - 1) (I 0) := List.drop_replicate ..
  have mn : min 1 n = 1 := by omega
  have ar : ∀ H : Heap, arrsL H 8 (List.replicate n (I v)) = [] := fun H => by
    have e : List.replicate n (I v) = (List.replicate n (tI v)).map D.t := by simp
    rw [e]
    unfold arrsL
    exact arrs_t ..
  simp (disch := omega) only [go_sem, K.slices_Repeat_int_int, ↓reduceIte, tL, List.map_cons, List.map_nil, m, w1, w2, w3, loop, dr, mn, ar, List.length_replicate, Nat.sub_zero, List.take_zero, List.nil_append, List.take_succ_cons, Nat.zero_add, Nat.reduceAdd, Nat.reduceSub]
end Go.Ev

/- The program: smoke. -/
namespace Go.Ev
open Go
variable [Lib] [Has1] [Has2] [Has6] [Has7]

/- the program's look at a mine: only at good ones -/
theorem spanIn_ok (a b lo hi : Int) (h1 : lo ≤ a) (h2 : a ≤ b) (h3 : b ≤ hi) : CALL 0 N.plan_spanIn [.t (.agg [tI a, tI b]), I lo, I hi] [] = some (B true, []) := by
  refine CALL_of K.t_plan_spanIn rfl ?_
  simp (disch := omega) only [go_sem, K.plan_spanIn, ↓reduceIte, Nat.reduceAdd, Nat.reduceSub]
theorem planCheck_ok {m : Mine} (h : m.ok) : CALL 0 N.plan_Check [.t m.e] [] = some (I 0, []) := by
  refine CALL_of K.t_plan_Check rfl ?_
  have np := h.np
  have nr := h.nr
  have hs := h.hs
  have rs := h.rs
  obtain ⟨places, roads⟩ := m
  simp only at np nr hs rs
  have l1 : ∀ z0 z2 z3 z4 z5 z9 z10 z11 : D, exS CALL K.plan_Check_l1 ⟨[z0, .bp 0 0, z2, z3, z4, z5, .t (.sl (places.map Place.e)), I places.length, I 0, z9, z10, z11], [.box (mineCells ⟨places, roads⟩)]⟩ =
      some (.exit 0, ⟨[.und, .bp 0 0, .und, .und, .und, .und, .t (.sl (places.map Place.e)), I places.length, I places.length, .und, .und, .und], [.box (mineCells ⟨places, roads⟩)]⟩) := by
    intro z0 z2 z3 z4 z5 z9 z10 z11
    refine loop_up (fun j => ⟨[.und, .bp 0 0, .und, .und, .und, .und, .t (.sl (places.map Place.e)), I places.length, I j, .und, .und, .und], [.box (mineCells ⟨places, roads⟩)]⟩) places.length rfl ?_ ?_ (by simp)
    · intro j hj
      have g : (places.map Place.e)[j]? = some (nth places j).e := map_nth _ hj
      have q := hs _ (nth_mem hj)
      generalize nth places j = x at *
      obtain ⟨hh, sf⟩ := x
      simp only [mineCells] at *
      simp (disch := omega) only [go_sem, K.plan_Check_l1b, ↓reduceIte, g, Nat.reduceAdd, Nat.reduceSub]
    · simp (disch := omega) only [go_sem, K.plan_Check_l1b, ↓reduceIte, mineCells, Nat.reduceAdd, Nat.reduceSub]
  have l2 : ∀ z0 z1 z2 z3 z5 z6 z7 z8 : D, exS CALL K.plan_Check_l2 ⟨[z0, z1, z2, z3, I places.length, z5, z6, z7, z8, .t (.sl (roads.map Road.e)), I roads.length, I 0], [.box (mineCells ⟨places, roads⟩)]⟩ =
      some (.exit 2, ⟨[.und, .und, .und, .und, I places.length, .und, .und, .und, .und, .t (.sl (roads.map Road.e)), I roads.length, I roads.length], [.box (mineCells ⟨places, roads⟩)]⟩) := by
    intro z0 z1 z2 z3 z5 z6 z7 z8
    refine loop_up (fun j => ⟨[.und, .und, .und, .und, I places.length, .und, .und, .und, .und, .t (.sl (roads.map Road.e)), I roads.length, I j], [.box (mineCells ⟨places, roads⟩)]⟩) roads.length rfl ?_ ?_ (by simp)
    · intro j hj
      have g : (roads.map Road.e)[j]? = some (nth roads j).e := map_nth _ hj
      have q := rs _ (nth_mem hj)
      generalize nth roads j = x at *
      have f0 := q.f0; have f1 := q.f1; have t0 := q.t0; have t1 := q.t1; have ne := q.ne; have l0 := q.l0; have l1 := q.l1; have a0 := q.a0; have a1 := q.a1
      have r0 := q.r0; have r1 := q.r1; have r2 := q.r2; have i0 := q.i0; have i1 := q.i1; have i2 := q.i2
      clear q
      obtain ⟨frm, to, len, area, walk, closed, rl, rh, ll, lh⟩ := x
      simp only [mineCells] at *
      have s1 := spanIn_ok rl rh 1 262144 r0 r1 r2
      have s2 := spanIn_ok ll lh (-2199023255552) 2199023255552 i0 i1 i2
      simp (disch := omega) only [go_sem, K.plan_Check_l2b, ↓reduceIte, g, s1, s2, Nat.reduceAdd, Nat.reduceSub]
    · simp (disch := omega) only [go_sem, K.plan_Check_l2b, ↓reduceIte, mineCells, Nat.reduceAdd, Nat.reduceSub]
  simp only [mineCells] at l1 l2
  simp (disch := omega) only [go_sem, K.plan_Check, ↓reduceIte, l1, l2, Nat.reduceAdd, Nat.reduceSub]
theorem planValid_ok {m : Mine} (h : m.ok) : CALL 0 N.plan_Valid [.t m.e] [] = some (B true, []) := by
  refine CALL_of K.t_plan_Valid rfl ?_
  have c := planCheck_ok h
  obtain ⟨places, roads⟩ := m
  simp (disch := omega) only [go_sem, K.plan_Valid, ↓reduceIte, c, Nat.reduceAdd, Nat.reduceSub]
end Go.Ev

/- The program: walking times; slices.Clone and slices.Equal; small functions of places. -/
namespace Go.Ev
open Go
variable [Lib] [Has1] [Has2] [Has6] [Has7] [Has8] [Has9]

abbrev arr1 (l : List Int) : Obj := .arr 1 false 0 ((l.map (T.int .i64)).map .t)
theorem clone1_ok (l : List Int) (hl : l.length ≤ 1000000) : CALL 1 N.slices_Clone_int_int [.t (tL l)] [] = some (.ref 0 0 l.length, [arr1 l]) := by
  refine CALL_of K.t_slices_Clone_int_int rfl ?_
  by_cases h0 : l = []
  · subst h0
    simp only [tL, List.map_nil]
    simp (disch := omega) only [go_sem, K.slices_Clone_int_int, ↓reduceIte, List.map_nil, List.length_nil, Nat.reduceAdd, Nat.reduceSub]
    rfl
  · have e := fun H => opEqk_sl H (l.map (T.int .i64)) (by simpa using h0)
    simp (disch := omega) only [go_sem, K.slices_Clone_int_int, ↓reduceIte, e, Nat.reduceAdd, Nat.reduceSub]
theorem equal_ok (a b : List Int) (hl : a.length ≤ 4294967296) (hl2 : b.length ≤ 4294967296) : CALL 0 N.slices_Equal_int_int [.t (tL a), .t (tL b)] [] = some (B (decide (a = b)), []) := by
  refine CALL_of K.t_slices_Equal_int_int rfl ?_
  by_cases hlen : a.length = b.length
  · have loop : ∀ z2 z3 : D, exS CALL K.slices_Equal_int_int_l1 ⟨[.t (tL a), .t (tL b), z2, z3, I a.length, I 0], []⟩ =
        some (match (List.range a.length).find? (fun j => decide (nth a j ≠ nth b j)) with
          | some j => (.ret, ⟨[.t (tL a), .t (tL b), B false, I j, I a.length, I j], []⟩)
          | none => (.exit 0, ⟨[.t (tL a), .t (tL b), .und, .und, I a.length, I a.length], []⟩)) := by
      intro z2 z3
      refine loop_first (fun j => ⟨[.t (tL a), .t (tL b), .und, .und, I a.length, I j], []⟩) a.length (fun j => decide (nth a j ≠ nth b j)) _ _ rfl ?_ ?_ ?_ (by simp)
      · intro j hj hp
        have hp : nth a j = nth b j := by simpa using hp
        simp (disch := omega) only [go_sem, K.slices_Equal_int_int_l1b, ↓reduceIte, Nat.reduceAdd, Nat.reduceSub]
      · intro j hj hp
        have hp : nth a j ≠ nth b j := by simpa using hp
        simp (disch := omega) only [go_sem, K.slices_Equal_int_int_l1b, ↓reduceIte, Nat.reduceAdd, Nat.reduceSub]
        simp
      · simp (disch := omega) only [go_sem, K.slices_Equal_int_int_l1b, ↓reduceIte, Nat.reduceAdd, Nat.reduceSub]
    have e : (a = b) ↔ (List.range a.length).find? (fun j => decide (nth a j ≠ nth b j)) = none := by
      rw [List.find?_eq_none]
      constructor
      · intro h j _; simp [h]
      · intro h
        apply List.ext_getElem?
        intro j
        by_cases hj : j < a.length
        · rw [nth_some hj, nth_some (by omega)]
          have := h j (List.mem_range.2 hj)
          simpa using this
        · rw [List.getElem?_eq_none (by omega), List.getElem?_eq_none (by omega)]
    cases hf : (List.range a.length).find? (fun j => decide (nth a j ≠ nth b j)) with
    | some j =>
      rw [hf] at e loop
      have e : ¬ a = b := fun h => by have := e.1 h; cases this
      simp (disch := omega) only [go_sem, K.slices_Equal_int_int, ↓reduceIte, loop, e, decide_false, Nat.reduceAdd, Nat.reduceSub]
    | none =>
      rw [hf] at e loop
      have e : a = b := e.2 rfl
      simp (disch := omega) only [go_sem, K.slices_Equal_int_int, ↓reduceIte, loop, decide_eq_true e, Nat.reduceAdd, Nat.reduceSub]
  · have hne : a ≠ b := fun h => hlen (by rw [h])
    simp (disch := omega) only [go_sem, K.slices_Equal_int_int, ↓reduceIte, hne, decide_false, Nat.reduceAdd, Nat.reduceSub]

/- walking times -/
theorem quick_ok : CALL 0 N.walk_quick [] [] = some (.t (.agg [tI 6, tI 9, tI 12]), []) := by
  refine CALL_of K.t_walk_quick rfl ?_
  simp (disch := omega) only [go_sem, K.walk_quick, ↓reduceIte, Nat.reduceAdd, Nat.reduceSub]
theorem with_ok {m : Mine} (h : m.ok) (k : Nat) (hk : k < m.roads.length) (back : Bool) (up down level : Int) (hu : 1 ≤ up) (hu2 : up ≤ 100) (hd : 1 ≤ down) (hd2 : down ≤ 100) (hl : 1 ≤ level) (hl2 : level ≤ 100) :
    CALL 0 N.walk_with [.t m.e, I k, B back, .t (.agg [tI up, tI down, tI level])] [] = some (I (walkT m k back up down level), []) := by
  refine CALL_of K.t_walk_with rfl ?_
  have nr := h.nr
  have np := h.np
  obtain ⟨f0, f1, t0, t1, -, l0, l1, -, -, -, -, -, -, -, -⟩ := h.rs _ (nth_mem hk)
  have b1 := h.hs _ (nth_mem (l := m.places) (j := (nth m.roads k).frm.toNat) (by omega))
  have b2 := h.hs _ (nth_mem (l := m.places) (j := (nth m.roads k).to.toNat) (by omega))
  have g : (m.roads.map Road.e)[k]? = some (nth m.roads k).e := map_nth _ hk
  have p1 : (m.places.map Place.e)[(nth m.roads k).frm.toNat]? = some (nth m.places (nth m.roads k).frm.toNat).e := map_nth _ (by omega)
  have p2 : (m.places.map Place.e)[(nth m.roads k).to.toNat]? = some (nth m.places (nth m.roads k).to.toNat).e := map_nth _ (by omega)
  have key : ∀ h1 h2 : Int, -10000 ≤ h1 → h1 ≤ 10000 → -10000 ≤ h2 → h2 ≤ 10000 → IntKind.i64.wrap (h1 - h2) = h1 - h2 ∧ IntKind.i64.wrap (-(h1 - h2)) = h2 - h1 := fun h1 h2 _ _ _ _ => ⟨wrap_id (by omega) (by omega), by rw [wrap_id (by omega) (by omega)]; omega⟩
  unfold walkT
  generalize nth m.roads k = x at *
  obtain ⟨frm, to, len, area, walk, closed, rl, rh, ll, lh⟩ := x
  simp only at f0 f1 t0 t1 l0 l1 b1 b2 p1 p2 ⊢
  cases closed with
  | true =>
    obtain ⟨places, roads⟩ := m
    simp (disch := omega) only [go_sem, K.walk_with, ↓reduceIte, g, Nat.reduceAdd, Nat.reduceSub]
  | false =>
    cases walk with
    | false =>
      obtain ⟨places, roads⟩ := m
      simp (disch := omega) only [go_sem, K.walk_with, ↓reduceIte, g, Nat.reduceAdd, Nat.reduceSub]
    | true =>
      have g1 := tdiv_bd (a := 10 * len + up - 1) (b := up) (by omega) hu
      have g2 := tdiv_bd (a := 10 * len + down - 1) (b := down) (by omega) hd
      have g3 := tdiv_bd (a := 10 * len + level - 1) (b := level) (by omega) hl
      cases back with
      | true =>
        simp only [↓reduceIte]
        generalize nth m.places frm.toNat = q1 at *
        generalize nth m.places to.toNat = q2 at *
        obtain ⟨h1, s1⟩ := q1
        obtain ⟨h2, s2⟩ := q2
        obtain ⟨places, roads⟩ := m
        simp only at *
        obtain ⟨w2, w3⟩ := key h2 h1 (by omega) (by omega) (by omega) (by omega)
        by_cases c2 : len < -10 * (h1 - h2)
        · simp (disch := omega) only [go_sem, K.walk_with, ↓reduceIte, g, p1, p2, w2, w3, gt_iff_lt, Int.zero_sub, Nat.reduceAdd, Nat.reduceSub]
        · by_cases c1 : len < 10 * (h1 - h2)
          · simp (disch := omega) only [go_sem, K.walk_with, ↓reduceIte, g, p1, p2, w2, w3, gt_iff_lt, Int.zero_sub, Nat.reduceAdd, Nat.reduceSub]
          · simp (disch := omega) only [go_sem, K.walk_with, ↓reduceIte, g, p1, p2, w2, w3, gt_iff_lt, Int.zero_sub, Nat.reduceAdd, Nat.reduceSub]
      | false =>
        simp only [Bool.false_eq_true, ↓reduceIte]
        generalize nth m.places frm.toNat = q1 at *
        generalize nth m.places to.toNat = q2 at *
        obtain ⟨h1, s1⟩ := q1
        obtain ⟨h2, s2⟩ := q2
        obtain ⟨places, roads⟩ := m
        simp only at *
        obtain ⟨w2, w3⟩ := key h2 h1 (by omega) (by omega) (by omega) (by omega)
        by_cases c2 : len < -10 * (h2 - h1)
        · simp (disch := omega) only [go_sem, K.walk_with, ↓reduceIte, g, p1, p2, w2, gt_iff_lt, Nat.reduceAdd, Nat.reduceSub]
        · by_cases c1 : len < 10 * (h2 - h1)
          · simp (disch := omega) only [go_sem, K.walk_with, ↓reduceIte, g, p1, p2, w2, gt_iff_lt, Nat.reduceAdd, Nat.reduceSub]
          · simp (disch := omega) only [go_sem, K.walk_with, ↓reduceIte, g, p1, p2, w2, gt_iff_lt, Nat.reduceAdd, Nat.reduceSub]
theorem wtime_ok {m : Mine} (h : m.ok) (k : Nat) (hk : k < m.roads.length) (back : Bool) : CALL 0 N.walk_Time [.t m.e, I k, B back] [] = some (I (walkT m k back 6 9 12), []) := by
  have q := quick_ok
  have w := with_ok h k hk back 6 9 12 (by omega) (by omega) (by omega) (by omega) (by omega) (by omega)
  have v := planValid_ok h
  have nr := h.nr
  have s : CALL 0 N.walk_step [.t m.e, I k, B back] [] = some (I (walkT m k back 6 9 12), []) := by
    refine CALL_of K.t_walk_step rfl ?_
    generalize walkT m k back 6 9 12 = r at *
    obtain ⟨places, roads⟩ := m
    simp (disch := omega) only [go_sem, K.walk_step, ↓reduceIte, q, w, Nat.reduceAdd, Nat.reduceSub]
  refine CALL_of K.t_walk_Time rfl ?_
  generalize walkT m k back 6 9 12 = r at *
  obtain ⟨places, roads⟩ := m
  simp only at *
  simp (disch := omega) only [go_sem, K.walk_Time, ↓reduceIte, v, s, Nat.reduceAdd, Nat.reduceSub]

/- places -/
theorem pall_ok (q : Int) : CALL 0 N.places_all [I q] [] = some (B true, []) := by
  refine CALL_of K.t_places_all rfl ?_
  simp (disch := omega) only [go_sem, K.places_all, ↓reduceIte, Nat.reduceAdd, Nat.reduceSub]
theorem pabs1_ok (q : Int) (l : List Int) (hl : l.length ≤ 4294967296) : CALL 0 N.places_Absent_1 [I q, .bp 0 0] [.box [.t (tL l)]] = some (B (decide (q ∈ l)), [.box [.t (tL l)]]) := by
  refine CALL_of K.t_places_Absent_1 rfl ?_
  have c := contains_ok l q hl
  simp (disch := omega) only [go_sem, K.places_Absent_1, ↓reduceIte, c, Nat.reduceAdd, Nat.reduceSub]
theorem nowhere1_ok {m : Mine} (h : m.ok) (h1 : 1 ≤ m.places.length) : CALL 1 N.places_nowhere [.t m.e] [] = some (.ref 0 0 m.places.length, [.arr 1 false 0 (((neverL m.places.length).map (T.int .i64)).map .t)]) := by
  refine CALL_of K.t_places_nowhere rfl ?_
  have np := h.np
  have r := repeat_ok 1099511627776 m.places.length h1 (by omega)
  have e : List.replicate m.places.length (I 1099511627776) = ((neverL m.places.length).map (T.int .i64)).map D.t := by simp [neverL]
  rw [e] at r
  simp only [tL, List.map_cons, List.map_nil] at r
  obtain ⟨places, roads⟩ := m
  simp only at *
  generalize neverL places.length = nl at *
  simp (disch := omega) only [go_sem, K.places_nowhere, ↓reduceIte, r, Nat.reduceAdd, Nat.reduceSub]
end Go.Ev

/- The program: arrivals. -/
namespace Go.Ev
open Go
variable [Lib] [Has1] [Has2] [Has6] [Has7] [Has8] [Has9]

def smE (into : Option (List Int)) : Heap := match into with
  | none => []
  | some s => [.box [.t (tL s)]]
def smD (into : Option (List Int)) : D := match into with
  | none => .fn N.places_all []
  | some _ => .fn N.places_Absent_1 [.bp 5 0]
def smK (into : Option (List Int)) : Nat := match into with
  | none => 5
  | some _ => 6


@[go_sem] theorem ixAt_1 (H : Heap) (len j : Nat) (ts : List T) (h : j < len) : ixAt H len 1 false (.t (.agg ts)) j = (ts[j]?).map fun t => (.t t, H) := by
  have h0 : len ≠ 0 := by omega
  unfold ixAt indexD
  rw [if_neg h0, if_pos h]
  unfold fieldD cut
  simp only [D.isAgg, D.cells, T.cells, if_true, Nat.mul_one, List.length_map]
  by_cases hj : j < ts.length
  · rw [if_pos (by omega), List.getElem?_eq_getElem hj]
    have e : ((ts.map D.t).drop j).take 1 = [D.t ts[j]] := by
      rw [List.drop_eq_getElem_cons (by simpa using hj)]; simp
    rw [e]; rfl
  · rw [if_neg (by omega), List.getElem?_eq_none (by omega)]; rfl

/-- A place's time may fall to x. -/
def fallC (into : Option (List Int)) (l : List Int) (q : Nat) (x : Int) : Bool := decide (x ≤ 2147483648 ∧ x < nth l q) && inOK into q
theorem low1_ok (into : Option (List Int)) (hi : ∀ s, into = some s → s.length ≤ 64) (l : List Int) (hl : l.length ≤ 64) (hb : bnd l) (p : Int) (q : Nat) (hq : q < l.length) (n t : Int) (ch : Bool) :
    CALL 0 N.places_lowered_1 [I p, I q, I n, .bp 0 0, .bp 1 0, .bp 2 0, .bp 3 0] (.box [I t] :: .box [.ref 4 0 l.length] :: .box [smD into] :: .box [B ch] :: arr1 l :: smE into) =
      some (.tup [], if fallC into l q (max n t) = true then .box [I t] :: .box [.ref 4 0 l.length] :: .box [smD into] :: .box [B true] :: arr1 (l.set q (max n t)) :: smE into
        else .box [I t] :: .box [.ref 4 0 l.length] :: .box [smD into] :: .box [B ch] :: arr1 l :: smE into) := by
  refine CALL_of K.t_places_lowered_1 rfl ?_
  have ln : (l.set q (max n t)).length = l.length := List.length_set ..
  have a := pall_ok q
  have b := hb _ (nth_mem hq)
  unfold fallC
  cases into with
  | none =>
    simp only [smE, smD, inOK, Bool.and_true, decide_eq_true_eq]
    by_cases c1 : max n t ≤ 2147483648
    · by_cases c2 : max n t < nth l q
      · simp (disch := omega) only [go_sem, K.places_lowered_1, ↓reduceIte, a, c1, c2, and_self, Nat.reduceAdd, Nat.reduceSub]
      · simp (disch := omega) only [go_sem, K.places_lowered_1, ↓reduceIte, c1, c2, and_false, Nat.reduceAdd, Nat.reduceSub]
    · simp (disch := omega) only [go_sem, K.places_lowered_1, ↓reduceIte, c1, false_and, Nat.reduceAdd, Nat.reduceSub]
  | some s =>
    have a2 := pabs1_ok q s (by have := hi s rfl; omega)
    simp only [smE, smD, inOK]
    by_cases c1 : max n t ≤ 2147483648
    · by_cases c2 : max n t < nth l q
      · by_cases c3 : (q : Int) ∈ s
        · simp only [c3, decide_true] at a2
          simp (disch := omega) only [go_sem, K.places_lowered_1, ↓reduceIte, a2, c1, c2, c3, and_self, decide_true, Bool.and_true, Nat.reduceAdd, Nat.reduceSub]
        · simp only [c3, decide_false] at a2
          simp (disch := omega) only [go_sem, K.places_lowered_1, ↓reduceIte, a2, c1, c2, c3, and_self, decide_false, Bool.and_false, Nat.reduceAdd, Nat.reduceSub]
      · simp (disch := omega) only [go_sem, K.places_lowered_1, ↓reduceIte, c1, c2, and_false, decide_false, Bool.false_and, Nat.reduceAdd, Nat.reduceSub]
    · simp (disch := omega) only [go_sem, K.places_lowered_1, ↓reduceIte, c1, false_and, decide_false, Bool.false_and, Nat.reduceAdd, Nat.reduceSub]
end Go.Ev

/- The program: arrivals, round by round. -/
namespace Go.Ev
open Go
variable [Lib] [Has1] [Has2] [Has6] [Has7] [Has8] [Has9]

theorem halfF_eq {m : Mine} (h : m.ok) (t : Int) (into : Option (List Int)) {k : Nat} (hk : k < m.roads.length) (back : Bool) (l : List Int) :
    halfF m t into k back l = if 0 ≤ walkT m k back 6 9 12 ∧ nth l ((nth m.roads k).src back).toNat < 1099511627776 ∧ fallC into l ((nth m.roads k).dst back).toNat (max (nth l ((nth m.roads k).src back).toNat + walkT m k back 6 9 12) t) = true
      then (l.set ((nth m.roads k).dst back).toNat (max (nth l ((nth m.roads k).src back).toNat + walkT m k back 6 9 12) t), true) else (l, false) := by
  have r2 := Road.dst_ok (h.rs _ (nth_mem hk)) back
  unfold halfF fallC lowerF lowerC
  have e : (((nth m.roads k).dst back).toNat : Int) = (nth m.roads k).dst back := by omega
  rw [e]
  generalize (nth m.roads k).dst back = d at *
  generalize ((nth m.roads k).src back).toNat = s at *
  generalize walkT m k back 6 9 12 = v at *
  rw [Int.max_comm t]
  generalize max (nth l s + v) t = x at *
  cases inOK into d with
  | false => simp
  | true =>
    simp only [↓reduceIte, Bool.and_true, Bool.and_eq_true, decide_eq_true_eq]
    by_cases c : ((0 ≤ v ∧ nth l s < 1099511627776) ∧ x ≤ 2147483648) ∧ x < nth l d.toNat
    · obtain ⟨⟨⟨c1, c2⟩, c3⟩, c4⟩ := c
      simp [c1, c2, c3, c4]
    · have c' : ¬ (0 ≤ v ∧ nth l s < 1099511627776 ∧ x ≤ 2147483648 ∧ x < nth l d.toNat) := fun h => c ⟨⟨⟨h.1, h.2.1⟩, h.2.2.1⟩, h.2.2.2⟩
      rw [if_neg c, if_neg c']
      simp only [Prod.mk.injEq, true_and]
      have : (decide (0 ≤ v) && decide (nth l s < 1099511627776) && decide (x ≤ 2147483648) && decide (x < nth l d.toNat)) = false := by
        rw [Bool.eq_false_iff]; intro h; simp only [Bool.and_eq_true, decide_eq_true_eq] at h; exact c h
      exact this

abbrev lowF : D := .fn N.places_lowered_1 [.bp 1 0, .bp 2 0, .bp 3 0, .bp 4 0]
abbrev arrH (into : Option (List Int)) (t : Int) (s : List Int × Bool) : Heap := arr1 s.1 :: .box [I t] :: .box [.ref 0 0 s.1.length] :: .box [smD into] :: .box [B s.2] :: smE into
abbrev roadC (x : Road) : List D := [I x.frm, I x.to, I x.len, I x.area, B x.walk, B x.closed, I x.restL, I x.restH, I x.liftL, I x.liftH]
theorem half_round {m : Mine} (h : m.ok) (t : Int) (ht : 0 ≤ t) (ht2 : t ≤ 1000000000000) (into : Option (List Int)) (hi : ∀ s, into = some s → s.length ≤ 64) (l : List Int) (hl : l.length = m.places.length) (hb : bnd l) (ch : Bool) {k : Nat} (hk : k < m.roads.length) (back : Bool) :
    roundC true [0, 6, 7, 8, 9] (arrH into t (l, ch) ++ [Obj.box (mineCells m), Obj.box (roadC (nth m.roads k))]).length (exS CALL K.places_arrivals_l2b ⟨[.und, .ref 0 0 l.length, lowF, .bp (smK into) 0, I k, .bp (smK into + 1) 0, .und, .und, .und, .und, .t (.sl (m.roads.map Road.e)), I m.roads.length, I k, .t (.agg [.bool false, .bool true]), I (if back then 1 else 0 : Nat)], arrH into t (l, ch) ++ [.box (mineCells m), .box (roadC (nth m.roads k))]⟩) =
      some ⟨[.und, .ref 0 0 l.length, lowF, .bp (smK into) 0, I k, .bp (smK into + 1) 0, .und, .und, .und, .und, .t (.sl (m.roads.map Road.e)), I m.roads.length, I k, .t (.agg [.bool false, .bool true]), I ((if back then 1 else 0 : Nat) + 1)], arrH into t ((halfF m t into k back l).1, ch || (halfF m t into k back l).2) ++ [.box (mineCells m), .box (roadC (nth m.roads k))]⟩ := by
  have np := h.np
  have nr := h.nr
  have ok := h.rs _ (nth_mem hk)
  have r1 := Road.src_ok ok back
  have r2 := Road.dst_ok ok back
  have wt := wtime_ok h k hk back
  have wl := walkT_lo h k hk back
  have b1 := hb _ (nth_mem (l := l) (j := ((nth m.roads k).src back).toNat) (by omega))
  have lo := low1_ok into hi l (by omega) hb ((nth m.roads k).src back) ((nth m.roads k).dst back).toNat (by omega) (nth l ((nth m.roads k).src back).toNat + walkT m k back 6 9 12) t ch
  have e : (((nth m.roads k).dst back).toNat : Int) = (nth m.roads k).dst back := by omega
  rw [e] at lo
  rw [halfF_eq h t into hk back l]
  have ls : ∀ x, (l.set ((nth m.roads k).dst back).toNat x).length = l.length := fun x => List.length_set ..
  generalize walkT m k back 6 9 12 = v at *
  generalize hx : nth m.roads k = x at *
  clear hx ok
  obtain ⟨frm, to, len, area, walk, closed, rl, rh, ll, lh⟩ := x
  obtain ⟨places, roads⟩ := m
  simp only at hl np nr hk
  have h01 : (1 : Int) = 0 + 1 := rfl
  by_cases c1 : 0 ≤ v
  · by_cases c2 : nth l ((Road.mk frm to len area walk closed rl rh ll lh).src back).toNat < 1099511627776
    · cases c3 : fallC into l ((Road.mk frm to len area walk closed rl rh ll lh).dst back).toNat (max (nth l ((Road.mk frm to len area walk closed rl rh ll lh).src back).toNat + v) t) <;>
      cases back <;> simp only [Road.src, Road.dst, Bool.false_eq_true, ↓reduceIte] at * <;> simp only [c1, c2, c3, and_true, true_and, and_self, and_false, Bool.false_eq_true, ↓reduceIte] at lo ⊢ <;>
      cases into <;> simp only [smE, smD, smK, mineCells, roadC, arrH, List.cons_append, List.nil_append] at * <;>
      simp (disch := omega) only [go_sem, K.places_arrivals_l2b, ↓reduceIte, wt, lo, c1, c2, ls, Bool.or_true, Bool.or_false, Nat.reduceAdd, Nat.reduceSub]
    · cases back <;> simp only [Road.src, Road.dst, Bool.false_eq_true, ↓reduceIte] at * <;> simp only [c1, c2, false_and, and_false, ↓reduceIte] <;>
      cases into <;> simp only [smE, smD, smK, mineCells, roadC, arrH, List.cons_append, List.nil_append] at * <;>
      simp (disch := omega) only [go_sem, K.places_arrivals_l2b, ↓reduceIte, wt, c1, c2, Bool.or_false, Nat.reduceAdd, Nat.reduceSub]
  · cases back <;> simp only [Road.src, Road.dst, Bool.false_eq_true, ↓reduceIte] at * <;> simp only [c1, false_and, ↓reduceIte] <;>
    cases into <;> simp only [smE, smD, smK, mineCells, roadC, arrH, List.cons_append, List.nil_append] at * <;>
    simp (disch := omega) only [go_sem, K.places_arrivals_l2b, ↓reduceIte, wt, c1, Bool.or_false, Nat.reduceAdd, Nat.reduceSub]
end Go.Ev

/- The program: times that fall until nothing changes. -/
namespace Go.Ev
open Go
variable [Lib] [Has1] [Has2] [Has6] [Has7] [Has8] [Has9]

theorem arr_road {m : Mine} (h : m.ok) (t : Int) (ht : 0 ≤ t) (ht2 : t ≤ 1000000000000) (into : Option (List Int)) (hi : ∀ s, into = some s → s.length ≤ 64) (l : List Int) (hl : l.length = m.places.length) (hb : bnd l) (ch : Bool) {k : Nat} (hk : k < m.roads.length) :
    roundC true [0, 4, 5, 6, 7, 8, 9, 13, 14] (arrH into t (l, ch) ++ [Obj.box (mineCells m)]).length (exS CALL K.places_arrivals_l1b ⟨[.und, .ref 0 0 l.length, lowF, .bp (smK into) 0, .und, .und, .und, .und, .und, .und, .t (.sl (m.roads.map Road.e)), I m.roads.length, I k, .und, .und], arrH into t (l, ch) ++ [.box (mineCells m)]⟩) =
      some ⟨[.und, .ref 0 0 (stepF m t into k (l, ch)).1.length, lowF, .bp (smK into) 0, .und, .und, .und, .und, .und, .und, .t (.sl (m.roads.map Road.e)), I m.roads.length, I (k + 1), .und, .und], arrH into t (stepF m t into k (l, ch)) ++ [.box (mineCells m)]⟩ := by
  have nr := h.nr
  have g : (m.roads.map Road.e)[k]? = some (nth m.roads k).e := map_nth _ hk
  have h1 := half_round h t ht ht2 into hi l hl hb ch hk false
  have l1 : (halfF m t into k false l).1.length = l.length := halfF_len ..
  have l2 : (halfF m t into k true (halfF m t into k false l).1).1.length = l.length := by rw [halfF_len, l1]
  have h2 := half_round h t ht ht2 into hi (halfF m t into k false l).1 (by omega) (halfF_bnd h hl hb hk false) (ch || (halfF m t into k false l).2) hk true
  have st : stepF m t into k (l, ch) = ((halfF m t into k true (halfF m t into k false l).1).1, ch || (halfF m t into k false l).2 || (halfF m t into k true (halfF m t into k false l).1).2) := rfl
  rw [st]
  simp only [l1, l2, Bool.false_eq_true, ↓reduceIte] at h1 h2 ⊢
  have inner : ∀ z0 z6 z7 z8 z9 : D, exS CALL K.places_arrivals_l2 ⟨[z0, .ref 0 0 l.length, lowF, .bp (smK into) 0, I k, .bp (smK into + 1) 0, z6, z7, z8, z9, .t (.sl (m.roads.map Road.e)), I m.roads.length, I k, .t (.agg [.bool false, .bool true]), I 0], arrH into t (l, ch) ++ [.box (mineCells m), .box (roadC (nth m.roads k))]⟩ =
      some (.exit 2, ⟨[.und, .ref 0 0 l.length, lowF, .bp (smK into) 0, I k, .bp (smK into + 1) 0, .und, .und, .und, .und, .t (.sl (m.roads.map Road.e)), I m.roads.length, I k, .t (.agg [.bool false, .bool true]), I 2],
        arrH into t ((halfF m t into k true (halfF m t into k false l).1).1, ch || (halfF m t into k false l).2 || (halfF m t into k true (halfF m t into k false l).1).2) ++ [.box (mineCells m), .box (roadC (nth m.roads k))]⟩) := by
    intro z0 z6 z7 z8 z9
    refine loop_up (fun j => ⟨[.und, .ref 0 0 l.length, lowF, .bp (smK into) 0, I k, .bp (smK into + 1) 0, .und, .und, .und, .und, .t (.sl (m.roads.map Road.e)), I m.roads.length, I k, .t (.agg [.bool false, .bool true]), I j],
      arrH into t (match j with | 0 => (l, ch) | 1 => ((halfF m t into k false l).1, ch || (halfF m t into k false l).2) | _ => ((halfF m t into k true (halfF m t into k false l).1).1, ch || (halfF m t into k false l).2 || (halfF m t into k true (halfF m t into k false l).1).2)) ++ [.box (mineCells m), .box (roadC (nth m.roads k))]⟩) 2 rfl ?_ ?_ (by simp)
    · intro j hj
      have hj2 : j = 0 ∨ j = 1 := by omega
      rcases hj2 with rfl | rfl
      · exact h1
      · exact h2
    · clear h1 h2
      cases into <;> simp only [smE, smD, smK, mineCells, roadC, arrH, List.cons_append, List.nil_append] <;>
      simp (disch := omega) only [go_sem, K.places_arrivals_l2b, ↓reduceIte, Nat.reduceAdd, Nat.reduceSub]
  clear h1 h2 st
  generalize halfF m t into k true (halfF m t into k false l).1 = b2 at *
  generalize halfF m t into k false l = b1 at *
  generalize hx : nth m.roads k = x at *
  clear hx
  obtain ⟨frm, to, len, area, walk, closed, rl, rh, ll, lh⟩ := x
  obtain ⟨places, roads⟩ := m
  simp only at nr hk
  cases into <;> simp only [smE, smD, smK, mineCells, roadC, arrH, List.cons_append, List.nil_append] at * <;>
  simp (disch := omega) only [go_sem, K.places_arrivals_l1b, ↓reduceIte, g, inner, l2, Nat.reduceAdd, Nat.reduceSub]
theorem arrivals_ok {m : Mine} (h : m.ok) (t : Int) (ht : 0 ≤ t) (ht2 : t ≤ 1000000000000) (into : Option (List Int)) (hi : ∀ s, into = some s → s.length ≤ 64) (l : List Int) (hl : l.length = m.places.length) (hb : bnd l) (ch : Bool) :
    CALL 0 N.places_arrivals [.t m.e, .ref 0 0 l.length, lowF] (arrH into t (l, ch)) = some (.tup [], arrH into t ((roundF m t into l).1, ch || (roundF m t into l).2)) := by
  refine CALL_of K.t_places_arrivals rfl ?_
  have nr := h.nr
  have ls := fun k => stepsF_len m t into l k
  have loop : ∀ z0 z4 z5 z6 z7 z8 z9 z13 z14 : D, exS CALL K.places_arrivals_l1 ⟨[z0, .ref 0 0 l.length, lowF, .bp (smK into) 0, z4, z5, z6, z7, z8, z9, .t (.sl (m.roads.map Road.e)), I m.roads.length, I 0, z13, z14], arrH into t (l, ch) ++ [.box (mineCells m)]⟩ =
      some (.exit 0, ⟨[.und, .ref 0 0 l.length, lowF, .bp (smK into) 0, .und, .und, .und, .und, .und, .und, .t (.sl (m.roads.map Road.e)), I m.roads.length, I m.roads.length, .und, .und], arrH into t ((roundF m t into l).1, ch || (roundF m t into l).2) ++ [.box (mineCells m)]⟩) := by
    intro z0 z4 z5 z6 z7 z8 z9 z13 z14
    refine loop_up (fun j => ⟨[.und, .ref 0 0 l.length, lowF, .bp (smK into) 0, .und, .und, .und, .und, .und, .und, .t (.sl (m.roads.map Road.e)), I m.roads.length, I j, .und, .und], arrH into t ((stepsF m t into l j).1, ch || (stepsF m t into l j).2) ++ [.box (mineCells m)]⟩) m.roads.length ?_ ?_ ?_ (by simp)
    · simp only [stepsF, Bool.or_false]; rfl
    · intro j hj
      have r := arr_road h t ht ht2 into hi (stepsF m t into l j).1 (by rw [ls, hl]) (stepsF_bnd h hl hb j (by omega)) (ch || (stepsF m t into l j).2) hj
      have e : stepF m t into j ((stepsF m t into l j).1, ch || (stepsF m t into l j).2) = ((stepsF m t into l (j + 1)).1, ch || (stepsF m t into l (j + 1)).2) := by
        simp only [stepsF, stepF, Bool.or_assoc]
      rw [e] at r
      simp only [ls] at r
      exact r
    · clear ls
      cases into <;> simp only [smE, smD, smK, mineCells, roadC, arrH, List.cons_append, List.nil_append] <;>
      simp (disch := omega) only [go_sem, K.places_arrivals_l1b, ↓reduceIte, roundF, Nat.reduceAdd, Nat.reduceSub]
  have l2 : (roundF m t into l).1.length = l.length := by unfold roundF; rw [ls]
  clear ls
  generalize roundF m t into l = r at *
  obtain ⟨r1, r2⟩ := r
  obtain ⟨places, roads⟩ := m
  simp only at nr hl l2
  cases into <;> simp only [smE, smD, smK, mineCells, roadC, arrH, List.cons_append, List.nil_append] at * <;>
  simp (disch := omega) only [go_sem, K.places_arrivals, ↓reduceIte, loop, l2, Nat.reduceAdd, Nat.reduceSub]
end Go.Ev

/- The program: times that fall until nothing changes: the rounds. -/
namespace Go.Ev
open Go
variable [Lib] [Has1] [Has2] [Has6] [Has7] [Has8] [Has9]

section
variable (a0 a1 a2 a3 a4 a5 x y : Obj) (ds : Heap)
theorem h5_get : (a0 :: a1 :: a2 :: a3 :: a4 :: (ds ++ [x]))[ds.length + 5]? = some x := by simp
theorem h5_set : (a0 :: a1 :: a2 :: a3 :: a4 :: (ds ++ [x])).set (ds.length + 5) y = a0 :: a1 :: a2 :: a3 :: a4 :: (ds ++ [y]) := by simp
theorem h6_get : (a0 :: a1 :: a2 :: a3 :: a4 :: a5 :: (ds ++ [x]))[ds.length + 6]? = some x := by simp
theorem h6_set : (a0 :: a1 :: a2 :: a3 :: a4 :: a5 :: (ds ++ [x])).set (ds.length + 6) y = a0 :: a1 :: a2 :: a3 :: a4 :: a5 :: (ds ++ [y]) := by simp
theorem h_get1 (u : Obj) : (ds ++ [u] ++ [x])[ds.length + 1]? = some x := by simp
theorem h5_set1 (u : Obj) : (a0 :: a1 :: a2 :: a3 :: a4 :: (ds ++ [u] ++ [x])).set (ds.length + 1 + 1 + 1 + 1 + 1 + 1) y = a0 :: a1 :: a2 :: a3 :: a4 :: (ds ++ [u] ++ [y]) := by simp
theorem h6_set1 (u : Obj) : (a0 :: a1 :: a2 :: a3 :: a4 :: a5 :: (ds ++ [u] ++ [x])).set (ds.length + 1 + 1 + 1 + 1 + 1 + 1 + 1) y = a0 :: a1 :: a2 :: a3 :: a4 :: a5 :: (ds ++ [u] ++ [y]) := by simp
theorem h_len : (ds ++ [x]).length = ds.length + 1 := by simp
end

@[go_sem] theorem eqB_self (n : Nat) : eqB n n = true := by
  induction n with
  | zero => rfl
  | succ n ih => exact ih
abbrev lowH (m : Mine) (into : Option (List Int)) (t : Int) (l : List Int) (ds : Heap) (c : Bool) : Heap := match into with
  | none => .box (mineCells m) :: .box [I t] :: .box [.fn N.places_all []] :: arr1 l :: .box [.ref 3 0 l.length] :: (ds ++ [.box [B c]])
  | some s => .box [.t (tL s)] :: .box (mineCells m) :: .box [I t] :: .box [.fn N.places_Absent_1 [.bp 0 0]] :: arr1 l :: .box [.ref 4 0 l.length] :: (ds ++ [.box [B c]])
abbrev lowS (m : Mine) (into : Option (List Int)) (t : Int) (l : List Int) (ds : Heap) (c : Bool) : St := match into with
  | none => ⟨[.und, .und, .und, .und, .bp 0 0, .bp 1 0, .bp 2 0, .und, .bp 4 0, .bp (ds.length + 5) 0, .und], lowH m none t l ds c⟩
  | some s => ⟨[.und, .und, .und, .und, .bp 1 0, .bp 2 0, .bp 3 0, .und, .bp 5 0, .bp (ds.length + 6) 0, .und], lowH m (some s) t l ds c⟩
theorem low_round {m : Mine} (h : m.ok) (t : Int) (ht : 0 ≤ t) (ht2 : t ≤ 1000000000000) (into : Option (List Int)) (hi : ∀ s, into = some s → s.length ≤ 64) (l : List Int) (hl : l.length = m.places.length) (hb : bnd l) (ds : Heap) (k : Nat) :
    roundC false [0, 1, 2, 3, 7, 10] k (exS CALL K.places_lowered_l1b (lowS m into t l ds true)) = some (lowS m into t (roundF m t into l).1 (ds ++ [.box [B (roundF m t into l).2]]) (roundF m t into l).2) := by
  have nr := h.nr
  have ar := arrivals_ok h t ht ht2 into hi l hl hb false
  have l2 : (roundF m t into l).1.length = l.length := by unfold roundF; rw [stepsF_len]
  cases into with
  | none =>
    generalize roundF m t none l = r at *
    obtain ⟨r1, r2⟩ := r
    obtain ⟨places, roads⟩ := m
    simp only [lowH, lowS, arrH, smE, smD, mineCells, Bool.false_or] at *
    simp (disch := omega) only [go_sem, K.places_lowered_l1b, ↓reduceIte, ar, h5_get, h5_set, h_len, l2, h_get1, h5_set1, Nat.reduceAdd, Nat.reduceSub]
  | some s =>
    generalize roundF m t (some s) l = r at *
    obtain ⟨r1, r2⟩ := r
    obtain ⟨places, roads⟩ := m
    simp only [lowH, lowS, arrH, smE, smD, mineCells, Bool.false_or] at *
    simp (disch := omega) only [go_sem, K.places_lowered_l1b, ↓reduceIte, ar, h6_get, h6_set, h_len, l2, h_get1, h6_set1, Nat.reduceAdd, Nat.reduceSub]
theorem low_exit (m : Mine) (into : Option (List Int)) (t : Int) (l : List Int) (ds : Heap) : exS CALL K.places_lowered_l1b (lowS m into t l ds false) = some (.exit 0, lowS m into t l ds false) := by
  obtain ⟨places, roads⟩ := m
  cases into with
  | none =>
    simp only [lowH, lowS, mineCells]
    simp (disch := omega) only [go_sem, K.places_lowered_l1b, ↓reduceIte, h5_get, Nat.reduceAdd, Nat.reduceSub]
  | some s =>
    simp only [lowH, lowS, mineCells]
    simp (disch := omega) only [go_sem, K.places_lowered_l1b, ↓reduceIte, h6_get, Nat.reduceAdd, Nat.reduceSub]
theorem low_loop {m : Mine} (h : m.ok) (t : Int) (ht : 0 ≤ t) (ht2 : t ≤ 1000000000000) (into : Option (List Int)) (hi : ∀ s, into = some s → s.length ≤ 64) : ∀ (n : Nat) (l : List Int) (ds : Heap), sumN l < n → l.length = m.places.length → bnd l →
    ∃ ds', loopC false [0, 1, 2, 3, 7, 10] (exS CALL K.places_lowered_l1b) (lowS m into t l ds true) = some (.exit 0, lowS m into t (closeN (roundF m t into) n l) ds' false)
  | 0, l, ds, hn, _, _ => absurd hn (by omega)
  | n + 1, l, ds, hn, hl, hb => by
    have r := low_round h t ht ht2 into hi l hl hb ds (lowS m into t l ds true).H.length
    have s := (stepsF_sum h (t := t) (into := into) hl hb m.roads.length (Nat.le_refl _)).1
    change (roundF m t into l).2 = true → sumN (roundF m t into l).1 < sumN l at s
    unfold closeN
    cases hc : (roundF m t into l).2 with
    | true =>
      rw [hc] at r
      obtain ⟨ds', h2⟩ := low_loop h t ht ht2 into hi n (roundF m t into l).1 _ (by have := s hc; omega) (by unfold roundF; rw [stepsF_len, hl]) (stepsF_bnd h hl hb _ (Nat.le_refl _))
      exact ⟨ds', loopC_step r h2⟩
    | false =>
      rw [hc] at r
      exact ⟨_, loopC_step r (loopC_exit (low_exit m into t _ _) (by simp))⟩
/-- Both ways in which it is called. -/
theorem lowered_ok {m : Mine} (h : m.ok) (t : Int) (ht : 0 ≤ t) (ht2 : t ≤ 1000000000000) (l : List Int) (hl : l.length = m.places.length) (hb : bnd l) :
    CALL 0 N.places_lowered [.t m.e, .t (tL l), I t, .fn N.places_all []] [] = some (.t (tL (closeF m t none l)), []) ∧
    ∀ s : List Int, s.length ≤ 64 → CALL 1 N.places_lowered [.t m.e, .t (tL l), I t, .fn N.places_Absent_1 [.bp 0 0]] [.box [.t (tL s)]] = some (.ref 1 0 l.length, [.box [.t (tL s)], arr1 (closeF m t (some s) l)]) := by
  have np := h.np
  have c1 := clone1_ok l (by omega)
  have ln : ∀ into, (closeF m t into l).length = l.length := by
    intro into
    have key : ∀ n l, (closeN (roundF m t into) n l).length = l.length := by
      intro n
      induction n with
      | zero => intro l; rfl
      | succ n ih =>
        intro l
        unfold closeN
        split
        · rw [ih]; unfold roundF; rw [stepsF_len]
        · unfold roundF; rw [stepsF_len]
    exact key _ _
  refine ⟨CALL_of K.t_places_lowered rfl ?_, fun s hs => CALL_of K.t_places_lowered rfl ?_⟩
  · obtain ⟨ds, lp⟩ := low_loop h t ht ht2 none (by simp) (sumN l + 1) l [] (Nat.lt_succ_self _) hl hb
    have ln := ln none
    have lp : ∀ z0 z1 z2 z3 z7 z10 : D, exS CALL K.places_lowered_l1 ⟨[z0, z1, z2, z3, .bp 0 0, .bp 1 0, .bp 2 0, z7, .bp 4 0, .bp 5 0, z10], [.box (mineCells m), .box [I t], .box [.fn N.places_all []], arr1 l, .box [.ref 3 0 l.length], .box [B true]]⟩ = some (.exit 0, lowS m none t (closeF m t none l) ds false) := fun z0 z1 z2 z3 z7 z10 => lp
    generalize closeF m t none l = r at *
    obtain ⟨places, roads⟩ := m
    simp only [lowH, lowS, mineCells] at *
    simp (disch := omega) only [go_sem, K.places_lowered, ↓reduceIte, c1, lp, ln, Nat.reduceAdd, Nat.reduceSub]
  · obtain ⟨ds, lp⟩ := low_loop h t ht ht2 (some s) (by intro s' h; cases h; exact hs) (sumN l + 1) l [] (Nat.lt_succ_self _) hl hb
    have l2 := ln (some s)
    clear ln
    have lp : ∀ z0 z1 z2 z3 z7 z10 : D, exS CALL K.places_lowered_l1 ⟨[z0, z1, z2, z3, .bp 1 0, .bp 2 0, .bp 3 0, z7, .bp 5 0, .bp 6 0, z10], [.box [.t (tL s)], .box (mineCells m), .box [I t], .box [.fn N.places_Absent_1 [.bp 0 0]], arr1 l, .box [.ref 4 0 l.length], .box [B true]]⟩ = some (.exit 0, lowS m (some s) t (closeF m t (some s) l) ds false) := fun z0 z1 z2 z3 z7 z10 => lp
    generalize closeF m t (some s) l = r at *
    obtain ⟨places, roads⟩ := m
    simp only [lowH, lowS, mineCells] at *
    simp (disch := omega) only [go_sem, K.places_lowered, ↓reduceIte, c1, lp, l2, Nat.reduceAdd, Nat.reduceSub]
end Go.Ev

/- Chapter 26 of the references: tags. -/
namespace Go.Ev
open Go
variable [Lib] [Has1] [Has2]

def lessB (a b : List Int) : Bool := match (List.range (min a.length b.length)).find? (fun j => decide (nth a j ≠ nth b j)) with
  | some j => decide (nth a j < nth b j)
  | none => decide (a.length < b.length)

def bearerF (l : List Int) (x : Int) : Int := match (List.range l.length).find? (fun j => decide (nth l j = x)) with
  | some j => j
  | none => -1

def properN (l : List Int) (j : Nat) : Bool := decide (1 ≤ nth l j ∧ nth l j ≤ 65535 ∧ bearerF (l.take j) (nth l j) < 0)
def properB (l : List Int) : Bool := (List.range l.length).all (properN l)

end Go.Ev

/- Chapter 26 of the references: worlds, copies, validity. -/
namespace Go.Ev
open Go
variable [Lib] [Has1] [Has2]

structure World where
  tags : List Int
  whr : List Wh
instance : Dat World := ⟨⟨[], []⟩⟩
abbrev World.e (x : World) : T := .agg [tL x.tags, .sl (x.whr.map Wh.e)]
structure Bel where
  worlds : List World
instance : Dat Bel := ⟨⟨[]⟩⟩
abbrev Bel.e (b : Bel) : T := .agg [.sl (b.worlds.map World.e)]

/-- Small enough. -/
def World.sz (x : World) : Prop := x.tags.length ≤ 1000000 ∧ x.whr.length ≤ 1000000 ∧ ∀ w ∈ x.whr, w.frm.length ≤ 1000000
def Bel.sz (b : Bel) : Prop := b.worlds.length ≤ 1000000 ∧ ∀ x ∈ b.worlds, x.sz

@[go_sem] theorem cellsAre_wh (l : List Wh) : cellsAre 2 (l.map Wh.e) = true := cellsAre_map 2 _ (fun _ => rfl) l
@[go_sem] theorem cellsAre_world (l : List World) : cellsAre 2 (l.map World.e) = true := cellsAre_map 2 _ (fun _ => rfl) l
@[go_sem] theorem appOK_wh (l : List Wh) : appOK 2 (l.map Wh.e) = true := by cases l <;> rfl
@[go_sem] theorem appOK_world (l : List World) : appOK 2 (l.map World.e) = true := by cases l <;> rfl

/- validity -/
def whoB (m : Mine) (first : List Int) (x : World) (k : Nat) : Bool := decide (0 ≤ bearerF first (nth x.tags k)) && validB m (nth x.whr k)
def worldB (m : Mine) (ws : List World) (first : List Int) (i : Nat) : Bool :=
  decide ((nth ws i).tags.length = first.length ∧ (nth ws i).whr.length = first.length) && properB (nth ws i).tags && (decide (i = 0) || lessB (nth ws (i - 1)).tags (nth ws i).tags) && (List.range (nth ws i).tags.length).all (whoB m first (nth ws i))
def belB (m : Mine) (b : Bel) : Bool :=
  decide (1 ≤ b.worlds.length ∧ b.worlds.length ≤ 24) && decide (1 ≤ (nth b.worlds 0).tags.length ∧ (nth b.worlds 0).tags.length ≤ 12) && (List.range b.worlds.length).all (worldB m b.worlds (nth b.worlds 0).tags)

end Go.Ev

/- MADE BY PROGRAM (lib.py): the compact code of functions. -/
namespace Go.Ev.K
open Go.Ev
/-- /law34.FiringRaw -/
def law34_FiringRaw : Fn := { nargs := 3, vars := [0, 1, 2, 4, 5, 6, 7, 8, 9, 10, 11, 12, 13], body := (.seq (.reg [{ o := .bx (.v 1) 3, d := some 3 }, { o := .bx (.v 2) 4, d := some 4 }, { o := .mv (.b false), d := some 5 }] []) (.seq (.ite [{ o := .mv (.v 0) }, { o := .ca N.made_Light 0 [] [.l 0] }, { o := .un .not (.l 0) }, { o := .mv (.l 0) }, { o := .fa (.v 3) 0, g := some (0, false) }, { o := .ld (.l 0) 1 false, g := some (1, false) }, { o := .ln (.l 0), g := some (2, false) }, { o := .bin .gtr (.l 0) (.i 80), g := some (3, false) }, { o := .pk (.l 4) (.b true) (.l 0) }] [] 0 (.seq (.reg [{ o := .ca N.law34_awake 0 [] [] }, { o := .mv (.l 0), d := some 5 }] []) .ret) .skip) (.seq (.reg [{ o := .mv (.v 0) }, { o := .ca N.made_Roll 0 [] [.l 0] }, { o := .mv (.l 0), d := some 6 }] []) (.seq (.reg [{ o := .mv (.v 6) }, { o := .bs [.i 1, .i 2, .i 3, .i 0, .i (-1)] 1 }, { o := .ca N.made_Dice_Of 0 [] [.l 1, .l 0] }, { o := .mv (.v 6) }, { o := .fa (.v 4) 3 }, { o := .ld (.l 0) 1 false }, { o := .fa (.v 4) 3 }, { o := .ld (.l 0) 1 false }, { o := .bin .quo (.l 0) (.i 2) }, { o := .bs [.l 3, .i 50, .l 0, .i (-1), .i 2147483648, .i 2147483649] 1 }, { o := .ca N.made_Dice_Of 0 [] [.l 6, .l 0] }, { o := .mv (.l 8), d := some 7 }, { o := .mv (.l 1), d := some 8 }] [(1, 1), (5, 0), (7, 0), (9, 0)]) (.seq (.reg [{ o := .mv (.v 6) }, { o := .ca N.made_Dice_Some 0 [] [.l 0, .i 4] }, { o := .mv (.v 6) }, { o := .ca N.made_Dice_Ints 0 [] [.l 0] }, { o := .mv (.v 6) }, { o := .ca N.made_Dice_One 0 [] [.l 0, .i 2] }, { o := .bd [.nil, .nil, .t (.bool false)] [(0, 1, .l 4), (1, 1, .l 2), (2, 1, .l 0)] }, { o := .al [.nil, .nil, .t (.bool false)] [], d := some 9 }, { o := .st (.l 0) (.l 1) 3 [] }] []) (.seq (.reg [{ o := .mv (.v 6) }, { o := .ca N.law34_scene 0 [] [.l 0] }, { o := .mv (.l 0) }, { o := .ex (.l 0) 0 }, { o := .ex (.l 1) 1 }, { o := .ex (.l 2) 2 }, { o := .al [.nil, .t (.int .i64 (0)), .t (.int .i64 (0))] [], d := some 10 }, { o := .al [.nil, .nil, .t (.bool false)] [], d := some 11 }, { o := .al [.nil] [], d := some 12 }, { o := .st (.l 2) (.l 5) 3 [] }, { o := .st (.l 2) (.l 5) 3 [] }, { o := .st (.l 2) (.l 5) 1 [] }] []) (.seq (.reg [{ o := .ca N.law34_awake 0 [] [] }, { o := .mv (.l 0) }, { o := .ld (.v 3) 3 true, g := some (0, true) }, { o := .ld (.v 4) 4 true, g := some (1, true) }, { o := .ld (.v 9) 3 true, g := some (2, true) }, { o := .ld (.v 12) 1 true, g := some (3, true) }, { o := .mv (.v 7), g := some (4, true) }, { o := .mv (.v 8), g := some (5, true) }, { o := .mv (.v 6), g := some (6, true) }, { o := .ca N.made_Dice_One 0 [] [.l 0, .i 2], g := some (7, true) }, { o := .ca N.law34_agree 0 [] [.l 7, .l 6, .l 5, .l 4, .l 3, .l 2, .l 0], g := some (8, true) }, { o := .pk (.l 9) (.l 0) (.b false) }, { o := .mv (.l 0) }, { o := .ld (.v 10) 3 true, g := some (0, true) }, { o := .ld (.v 4) 4 true, g := some (1, true) }, { o := .ld (.v 11) 3 true, g := some (2, true) }, { o := .ld (.v 12) 1 true, g := some (3, true) }, { o := .mv (.v 7), g := some (4, true) }, { o := .mv (.v 8), g := some (5, true) }, { o := .ca N.law34_agree 0 [] [.l 5, .l 4, .l 3, .l 2, .l 1, .l 0, .b false], g := some (6, true) }, { o := .pk (.l 7) (.l 0) (.b false) }, { o := .mv (.l 0) }, { o := .ld (.v 3) 3 true, g := some (0, true) }, { o := .bd [.t (.int .i64 (0)), .t (.int .i64 (0)), .t (.int .i64 (0)), .t (.int .i64 (0))] [], g := some (1, true) }, { o := .ld (.v 11) 3 true, g := some (2, true) }, { o := .ld (.v 12) 1 true, g := some (3, true) }, { o := .mv (.v 7), g := some (4, true) }, { o := .mv (.v 8), g := some (5, true) }, { o := .ca N.law34_agree 0 [] [.l 5, .l 4, .l 3, .l 2, .l 1, .l 0, .b true], g := some (6, true) }, { o := .pk (.l 7) (.l 0) (.b false) }, { o := .mv (.l 0) }, { o := .ld (.v 10) 3 true, g := some (0, true) }, { o := .ld (.v 4) 4 true, g := some (1, true) }, { o := .ld (.v 9) 3 true, g := some (2, true) }, { o := .bd [.nil] [], g := some (3, true) }, { o := .mv (.v 7), g := some (4, true) }, { o := .mv (.v 8), g := some (5, true) }, { o := .ca N.law34_agree 0 [] [.l 5, .l 4, .l 3, .l 2, .l 1, .l 0, .b true], g := some (6, true) }, { o := .pk (.l 7) (.l 0) (.b false) }, { o := .mv (.l 0), d := some 5 }] [(2, 10), (3, 10), (4, 10), (5, 10)]) .ret))))))), res := [(5, none)] }
def law34_FiringMade_l1b : C := (.seq (.ite [{ o := .mv (.v 7) }, { o := .bin .lss (.l 0) (.i 6) }] [] 0 .skip (.exit 0)) (.seq (.blk 1 (.seq (.reg [{ o := .fa (.v 6) 3 }, { o := .ld (.l 0) 1 false }, { o := .mv (.v 2) }, { o := .fa (.v 3) 1 }, { o := .ld (.l 0) 1 false }, { o := .fa (.v 3) 1 }, { o := .ld (.l 0) 1 false }, { o := .bin .add (.l 0) (.i 1) }, { o := .fa (.v 3) 2 }, { o := .ld (.l 0) 1 false }, { o := .fa (.v 3) 2 }, { o := .ld (.l 0) 1 false }, { o := .bin .sub (.l 0) (.i 1) }, { o := .bs [.i 0, .l 8, .l 5, .l 3, .l 0, .i (-1), .i 5] 1 }, { o := .ca N.made_Dice_Of 0 [] [.l 11, .l 0] }, { o := .bin .add (.l 13) (.l 0) }, { o := .mv (.l 0), d := some 8 }] [(1, 14), (1, 15)]) (.ite [{ o := .ld (.v 3) 3 true }, { o := .ld (.v 6) 4 true }, { o := .ld (.v 4) 3 true }, { o := .ld (.v 5) 1 true }, { o := .mv (.v 2) }, { o := .bs [.i 1, .i 2, .i 3, .i 0] 1 }, { o := .ca N.made_Dice_Of 0 [] [.l 1, .l 0] }, { o := .mv (.v 8) }, { o := .mv (.v 2) }, { o := .ca N.made_Dice_One 0 [] [.l 0, .i 2] }, { o := .ca N.law34_agree 0 [] [.l 9, .l 8, .l 7, .l 6, .l 3, .l 2, .l 0] }, { o := .un .not (.l 0) }] [(0, 6), (0, 7), (0, 10), (1, 6), (1, 7), (1, 10), (2, 6), (2, 7), (2, 10), (3, 6), (3, 7), (3, 10)] 0 (.seq (.reg [{ o := .mv (.b false), d := some 1 }] []) .ret) .skip))) (.reg [{ o := .mv (.v 7) }, { o := .bin .add (.l 0) (.i 1) }, { o := .mv (.l 0), d := some 7 }] [])))
def law34_FiringMade_l1 : C := .loop true [0, 1, 8] K.law34_FiringMade_l1b
/-- /law34.FiringMade -/
def law34_FiringMade : Fn := { nargs := 1, vars := [0, 2, 3, 4, 5, 6, 7, 8, 9], body := (.seq (.reg [{ o := .mv (.b false), d := some 1 }] []) (.seq (.ite [{ o := .mv (.v 0) }, { o := .ca N.made_Light 0 [] [.l 0] }, { o := .un .not (.l 0) }] [] 0 (.seq (.reg [{ o := .ca N.law34_awake 0 [] [] }, { o := .mv (.l 0), d := some 1 }] []) .ret) .skip) (.seq (.reg [{ o := .mv (.v 0) }, { o := .ca N.made_Roll 0 [] [.l 0] }, { o := .mv (.l 0), d := some 2 }] []) (.seq (.reg [{ o := .mv (.v 2) }, { o := .ca N.law34_scene 0 [] [.l 0] }, { o := .mv (.l 0) }, { o := .ex (.l 0) 0 }, { o := .ex (.l 1) 1 }, { o := .ex (.l 2) 2 }, { o := .al [.nil, .t (.int .i64 (0)), .t (.int .i64 (0))] [], d := some 3 }, { o := .al [.nil, .nil, .t (.bool false)] [], d := some 4 }, { o := .al [.nil] [], d := some 5 }, { o := .st (.l 2) (.l 5) 3 [] }, { o := .st (.l 2) (.l 5) 3 [] }, { o := .st (.l 2) (.l 5) 1 [] }] []) (.seq (.ite [{ o := .mv (.v 2) }, { o := .ca N.made_Dice_One 0 [] [.l 0, .i 2] }] [] 0 (.reg [{ o := .ca N.law34_ready 0 [] [] }, { o := .mv (.l 0) }, { o := .ex (.l 0) 0 }, { o := .ex (.l 1) 1 }, { o := .ex (.l 2) 2 }, { o := .st (.v 3) (.l 2) 3 [] }, { o := .st (.v 4) (.l 2) 3 [] }, { o := .st (.v 5) (.l 2) 1 [] }] []) .skip) (.seq (.reg [{ o := .mv (.v 2) }, { o := .ca N.made_Dice_Next 0 [] [.l 0, .i 5] }, { o := .bd [.t (.int .i64 (0)), .t (.int .i64 (0)), .t (.int .i64 (0)), .t (.int .i64 (0))] [(0, 1, .l 0)] }, { o := .al [.t (.int .i64 (0)), .t (.int .i64 (0)), .t (.int .i64 (0)), .t (.int .i64 (0))] [], d := some 6 }, { o := .st (.l 0) (.l 1) 4 [] }] []) (.seq (.ite [{ o := .fa (.v 6) 0 }, { o := .ld (.l 0) 1 false }, { o := .bin .gtr (.l 0) (.i 0) }] [] 0 (.reg [{ o := .mv (.v 2) }, { o := .ca N.made_Dice_Next 0 [] [.l 0, .i 2] }, { o := .bin .add (.i 1) (.l 0) }, { o := .mv (.v 2) }, { o := .bs [.i 500, .i 0, .i 77] 1 }, { o := .ca N.made_Dice_Of 0 [] [.l 1, .l 0] }, { o := .fa (.v 6) 1 }, { o := .st (.l 0) (.l 4) 1 [] }, { o := .fa (.v 6) 3 }, { o := .st (.l 0) (.l 3) 1 [] }] []) .skip) (.seq (.ite [{ o := .fa (.v 6) 0 }, { o := .ld (.l 0) 1 false }, { o := .bin .gtr (.l 0) (.i 1) }] [] 0 (.reg [{ o := .fa (.v 6) 1 }, { o := .ld (.l 0) 1 false }, { o := .bin .sub (.i 3) (.l 0) }, { o := .fa (.v 6) 2 }, { o := .st (.l 0) (.l 1) 1 [] }] []) .skip) (.seq (.seq (.reg [{ o := .mv (.i 0), d := some 7 }] []) (.blk 0 K.law34_FiringMade_l1)) (.seq (.reg [{ o := .ca N.law34_awake 0 [] [] }, { o := .mv (.l 0), d := some 1 }] []) .ret)))))))))), res := [(1, none)] }
def law34_FiringNeeds_l1b : C := (.seq (.ite [{ o := .mv (.v 13) }, { o := .bin .gtr (.l 0) (.i 0) }] [] 0 .skip (.exit 0)) (.seq (.blk 1 (.seq (.reg [{ o := .mv (.v 8) }, { o := .mv (.v 2) }, { o := .bs [.i 0, .i 10, .i 200, .i 301] 1 }, { o := .ca N.made_Dice_Of 0 [] [.l 1, .l 0] }, { o := .bin .add (.l 3) (.l 0) }, { o := .mv (.l 0), d := some 8 }] []) (.seq (.reg [{ o := .al [.nil, .nil, .t (.bool false)] [], d := some 14 }, { o := .al [.nil] [], d := some 15 }, { o := .ld (.v 4) 3 true }, { o := .ld (.v 5) 1 true }, { o := .st (.l 3) (.l 1) 3 [] }, { o := .st (.l 3) (.l 1) 1 [] }] [(3, 5)]) (.seq (.reg [{ o := .mv (.v 2) }, { o := .ca N.made_Dice_Next 0 [] [.l 0, .i 6] }, { o := .bin .gtr (.l 0) (.i 0) }, { o := .fa (.v 14) 2 }, { o := .st (.l 0) (.l 1) 1 [] }] []) (.seq (.ite [{ o := .mv (.v 2) }, { o := .ca N.made_Dice_One 0 [] [.l 0, .i 6] }] [] 0 (.reg [{ o := .ld (.v 6) 1 true }, { o := .st (.v 15) (.l 0) 1 [] }] []) .skip) (.seq (.reg [{ o := .fa (.v 14) 2 }, { o := .ld (.l 0) 1 false }, { o := .mv (.l 0) }, { o := .fa (.v 15) 0, g := some (0, true) }, { o := .ld (.l 0) 1 false, g := some (1, true) }, { o := .ia (.l 0) (.i 0) 2, g := some (2, true) }, { o := .fa (.l 0) 1, g := some (3, true) }, { o := .ld (.l 0) 1 false, g := some (4, true) }, { o := .ia (.l 0) (.i 0) 2, g := some (5, true) }, { o := .fa (.l 0) 1, g := some (6, true) }, { o := .ld (.l 0) 1 false, g := some (7, true) }, { o := .ia (.l 0) (.i 1) 1, g := some (8, true) }, { o := .ld (.l 0) 1 false, g := some (9, true) }, { o := .bin .eql (.l 0) (.i 1099511627776), g := some (10, true) }, { o := .pk (.l 11) (.l 0) (.b false) }, { o := .mv (.l 0), d := some 16 }] []) (.seq (.reg [{ o := .mv (.v 2) }, { o := .ca N.made_Dice_Next 0 [] [.l 0, .i 3] }, { o := .bin .add (.i 1) (.l 0) }, { o := .mv (.l 0), d := some 17 }] []) (.seq (.seq (.reg [{ o := .mv (.v 2) }, { o := .ca N.made_Dice_Next 0 [] [.l 0, .i 4], d := some 26 }] []) (.blk 2 (.ite [{ o := .bin .eql (.v 26) (.i 0) }, { o := .mv (.l 0) }] [] 0 (.seq (.reg [{ o := .ld (.v 3) 3 true }, { o := .ld (.v 7) 4 true }, { o := .ld (.v 14) 3 true }, { o := .ld (.v 15) 1 true }, { o := .mv (.v 17) }, { o := .mv (.v 8) }, { o := .ca N.firing_Arm 0 [] [.l 5, .l 4, .l 3, .l 2, .l 1, .l 0] }, { o := .mv (.l 0) }, { o := .ex (.l 0) 0 }, { o := .ex (.l 1) 1 }, { o := .al [.t (.int .i64 (0)), .t (.int .i64 (0)), .t (.int .i64 (0)), .t (.int .i64 (0))] [], d := some 18 }, { o := .st (.l 0) (.l 2) 4 [] }, { o := .mv (.l 2), d := some 19 }] []) (.seq (.ite [{ o := .mv (.v 19) }, { o := .bin .eql (.l 0) (.i 0) }] [] 0 (.seq (.ite [{ o := .mv (.v 16) }, { o := .un .not (.l 0) }, { o := .mv (.l 0) }, { o := .fa (.v 7) 0, g := some (0, false) }, { o := .ld (.l 0) 1 false, g := some (1, false) }, { o := .bin .neq (.l 0) (.i 0), g := some (2, false) }, { o := .pk (.l 3) (.b true) (.l 0) }] [] 0 (.seq (.reg [{ o := .mv (.b false), d := some 1 }] []) .ret) .skip) (.reg [{ o := .mv (.v 8) }, { o := .mv (.v 17) }, { o := .mv (.l 1), d := some 9 }, { o := .mv (.l 1), d := some 11 }] [])) .skip) (.reg [{ o := .ld (.v 18) 4 true }, { o := .st (.v 7) (.l 0) 4 [] }] []))) (.ite [{ o := .bin .eql (.v 26) (.i 1) }, { o := .mv (.l 0) }] [] 0 (.seq (.reg [{ o := .ld (.v 3) 3 true }, { o := .ld (.v 7) 4 true }, { o := .ld (.v 14) 3 true }, { o := .ld (.v 15) 1 true }, { o := .mv (.v 17) }, { o := .mv (.v 8) }, { o := .ca N.firing_Agree 0 [] [.l 5, .l 4, .l 3, .l 2, .l 1, .l 0] }, { o := .mv (.l 0) }, { o := .ex (.l 0) 0 }, { o := .ex (.l 1) 1 }, { o := .al [.t (.int .i64 (0)), .t (.int .i64 (0)), .t (.int .i64 (0)), .t (.int .i64 (0))] [], d := some 20 }, { o := .st (.l 0) (.l 2) 4 [] }, { o := .mv (.l 2), d := some 21 }] []) (.seq (.ite [{ o := .mv (.v 21) }, { o := .bin .eql (.l 0) (.i 0) }] [] 0 (.seq (.ite [{ o := .mv (.v 16) }, { o := .un .not (.l 0) }, { o := .mv (.l 0) }, { o := .mv (.v 9), g := some (0, false) }, { o := .bin .lss (.l 0) (.i 0), g := some (1, false) }, { o := .pk (.l 2) (.b true) (.l 0) }, { o := .mv (.l 0) }, { o := .mv (.v 8), g := some (0, false) }, { o := .mv (.v 9), g := some (1, false) }, { o := .bin .sub (.l 1) (.l 0), g := some (2, false) }, { o := .fa (.v 3) 1, g := some (3, false) }, { o := .ld (.l 0) 1 false, g := some (4, false) }, { o := .bin .gtr (.l 2) (.l 0), g := some (5, false) }, { o := .pk (.l 6) (.b true) (.l 0) }, { o := .mv (.l 0) }, { o := .mv (.v 17), g := some (0, false) }, { o := .mv (.v 11), g := some (1, false) }, { o := .bin .eql (.l 1) (.l 0), g := some (2, false) }, { o := .pk (.l 3) (.b true) (.l 0) }] [] 0 (.seq (.reg [{ o := .mv (.b false), d := some 1 }] []) .ret) .skip) (.reg [{ o := .mv (.v 8) }, { o := .mv (.v 17) }, { o := .mv (.l 1), d := some 10 }, { o := .mv (.l 1), d := some 12 }] [])) .skip) (.reg [{ o := .ld (.v 20) 4 true }, { o := .st (.v 7) (.l 0) 4 [] }] []))) (.ite [{ o := .bin .eql (.v 26) (.i 2) }, { o := .mv (.l 0) }] [] 0 (.seq (.reg [{ o := .al [.t (.int .i64 (0)), .t (.int .i64 (0)), .t (.int .i64 (0)), .t (.int .i64 (0))] [], d := some 22 }, { o := .ld (.v 3) 3 true }, { o := .ld (.v 7) 4 true }, { o := .ld (.v 14) 3 true }, { o := .ld (.v 15) 1 true }, { o := .mv (.v 8) }, { o := .mv (.v 2) }, { o := .ca N.made_Dice_One 0 [] [.l 0, .i 3] }, { o := .ca N.firing_Fire 0 [] [.l 6, .l 5, .l 4, .l 3, .l 2, .l 0] }, { o := .mv (.l 0) }, { o := .ex (.l 0) 0 }, { o := .ex (.l 1) 1 }, { o := .st (.l 11) (.l 1) 4 [] }, { o := .mv (.l 1), d := some 23 }] [(0, 8), (0, 9), (1, 8), (2, 8), (3, 8), (4, 8)]) (.seq (.ite [{ o := .mv (.v 23) }, { o := .bin .eql (.l 0) (.i 0) }, { o := .mv (.l 0) }, { o := .mv (.v 16), g := some (0, true) }, { o := .un .not (.l 0), g := some (1, true) }, { o := .mv (.l 0), g := some (2, true) }, { o := .mv (.v 10), g := some (0, false) }, { o := .bin .lss (.l 0) (.i 0), g := some (1, false) }, { o := .pk (.l 2) (.b true) (.l 0), g := some (5, true) }, { o := .mv (.l 0), g := some (6, true) }, { o := .mv (.v 8), g := some (0, false) }, { o := .mv (.v 10), g := some (1, false) }, { o := .bin .sub (.l 1) (.l 0), g := some (2, false) }, { o := .fa (.v 3) 1, g := some (3, false) }, { o := .ld (.l 0) 1 false, g := some (4, false) }, { o := .bin .gtr (.l 2) (.l 0), g := some (5, false) }, { o := .pk (.l 6) (.b true) (.l 0), g := some (13, true) }, { o := .mv (.l 0), g := some (14, true) }, { o := .mv (.v 11), g := some (0, false) }, { o := .mv (.v 12), g := some (1, false) }, { o := .bin .eql (.l 1) (.l 0), g := some (2, false) }, { o := .pk (.l 3) (.b true) (.l 0), g := some (18, true) }, { o := .pk (.l 19) (.l 0) (.b false) }] [] 0 (.seq (.reg [{ o := .mv (.b false), d := some 1 }] []) .ret) .skip) (.reg [{ o := .ld (.v 22) 4 true }, { o := .st (.v 7) (.l 0) 4 [] }] []))) (.seq (.reg [{ o := .ld (.v 3) 3 true }, { o := .ld (.v 7) 4 true }, { o := .mv (.v 8) }, { o := .ca N.firing_Abort 0 [] [.l 2, .l 1, .l 0] }, { o := .mv (.l 0) }, { o := .ex (.l 0) 0 }, { o := .ex (.l 1) 1 }, { o := .al [.t (.int .i64 (0)), .t (.int .i64 (0)), .t (.int .i64 (0)), .t (.int .i64 (0))] [], d := some 24 }, { o := .st (.l 0) (.l 2) 4 [] }, { o := .mv (.l 2), d := some 25 }] []) (.seq (.ite [{ o := .mv (.v 25) }, { o := .bin .eql (.l 0) (.i 0) }] [] 0 (.reg [{ o := .mv (.i (-1)), d := some 9 }, { o := .mv (.i (-1)), d := some 10 }, { o := .mv (.i 0), d := some 11 }, { o := .mv (.i 0), d := some 12 }] []) .skip) (.reg [{ o := .ld (.v 24) 4 true }, { o := .st (.v 7) (.l 0) 4 [] }] [])))))))) (.ite [{ o := .ld (.v 3) 3 true }, { o := .ld (.v 7) 4 true }, { o := .ca N.firing_Valid 0 [] [.l 1, .l 0] }, { o := .un .not (.l 0) }] [] 0 (.seq (.reg [{ o := .mv (.b false), d := some 1 }] []) .ret) .skip))))))))) (.reg [{ o := .mv (.v 13) }, { o := .bin .sub (.l 0) (.i 1) }, { o := .mv (.l 0), d := some 13 }] [])))
def law34_FiringNeeds_l1 : C := .loop true [0, 1, 14, 15, 16, 17, 18, 19, 20, 21, 22, 23, 24, 25, 26] K.law34_FiringNeeds_l1b
/-- /law34.FiringNeeds -/
def law34_FiringNeeds : Fn := { nargs := 1, vars := [0, 2, 3, 4, 5, 6, 7, 8, 9, 10, 11, 12, 13, 14, 15, 16, 17, 18, 19, 20, 21, 22, 23, 24, 25, 26, 88], body := (.seq (.reg [{ o := .mv (.b false), d := some 1 }] []) (.seq (.ite [{ o := .mv (.v 0) }, { o := .ca N.made_Light 0 [] [.l 0] }, { o := .un .not (.l 0) }] [] 0 (.seq (.reg [{ o := .ca N.law34_awake 0 [] [] }, { o := .mv (.l 0), d := some 1 }] []) .ret) .skip) (.seq (.reg [{ o := .mv (.v 0) }, { o := .ca N.made_Roll 0 [] [.l 0] }, { o := .mv (.l 0), d := some 2 }] []) (.seq (.reg [{ o := .ca N.law34_ready 0 [] [] }, { o := .mv (.l 0) }, { o := .ex (.l 0) 0 }, { o := .ex (.l 1) 1 }, { o := .ex (.l 2) 2 }, { o := .al [.nil, .t (.int .i64 (0)), .t (.int .i64 (0))] [], d := some 3 }, { o := .al [.nil, .nil, .t (.bool false)] [], d := some 4 }, { o := .al [.nil] [], d := some 5 }, { o := .st (.l 2) (.l 5) 3 [] }, { o := .st (.l 2) (.l 5) 3 [] }, { o := .st (.l 2) (.l 5) 1 [] }] []) (.seq (.reg [{ o := .ld (.v 5) 1 true }, { o := .ca N.ref26_Copy_v2 3 [] [.l 0] }, { o := .al [.nil] [], d := some 6 }, { o := .st (.l 0) (.l 1) 1 [] }] []) (.seq (.reg [{ o := .fa (.v 6) 0 }, { o := .ld (.l 0) 1 false }, { o := .ia (.l 0) (.i 0) 2 }, { o := .fa (.l 0) 1 }, { o := .ld (.l 0) 1 false }, { o := .ia (.l 0) (.i 0) 2 }, { o := .fa (.l 0) 1 }, { o := .ld (.l 0) 1 false }, { o := .ia (.l 0) (.i 1) 1 }, { o := .st (.l 0) (.i 5000) 1 [] }] []) (.seq (.reg [{ o := .al [.t (.int .i64 (0)), .t (.int .i64 (0)), .t (.int .i64 (0)), .t (.int .i64 (0))] [], d := some 7 }] []) (.seq (.reg [{ o := .mv (.i 0), d := some 8 }, { o := .mv (.i (-1)), d := some 9 }, { o := .mv (.i (-1)), d := some 10 }, { o := .mv (.i 0), d := some 11 }, { o := .mv (.i 0), d := some 12 }] []) (.seq (.seq (.reg [{ o := .mv (.v 2) }, { o := .ca N.made_Dice_Next 0 [] [.l 0, .i 30] }, { o := .mv (.l 0), d := some 13 }] []) (.blk 0 K.law34_FiringNeeds_l1)) (.seq (.reg [{ o := .ca N.law34_awake 0 [] [] }, { o := .mv (.l 0), d := some 1 }] []) .ret)))))))))), res := [(1, none)] }
/-- /law34.awake -/
def law34_awake : Fn := { nargs := 0, vars := [0, 1, 2, 3, 4, 5, 6, 7, 8, 9, 11], body := (.seq (.reg [{ o := .mv (.b false), d := some 0 }] []) (.seq (.reg [{ o := .ca N.law34_ready 0 [] [] }, { o := .mv (.l 0) }, { o := .ex (.l 0) 0 }, { o := .ex (.l 1) 1 }, { o := .ex (.l 2) 2 }, { o := .al [.nil, .t (.int .i64 (0)), .t (.int .i64 (0))] [], d := some 1 }, { o := .al [.nil, .nil, .t (.bool false)] [], d := some 2 }, { o := .al [.nil] [], d := some 3 }, { o := .st (.l 2) (.l 5) 3 [] }, { o := .st (.l 2) (.l 5) 3 [] }, { o := .st (.l 2) (.l 5) 1 [] }] []) (.seq (.reg [{ o := .ld (.v 1) 3 true }, { o := .bd [.t (.int .i64 (0)), .t (.int .i64 (0)), .t (.int .i64 (0)), .t (.int .i64 (0))] [] }, { o := .ld (.v 2) 3 true }, { o := .ld (.v 3) 1 true }, { o := .ca N.firing_Arm 0 [] [.l 3, .l 2, .l 1, .l 0, .i 1, .i 100] }, { o := .mv (.l 0) }, { o := .ex (.l 0) 0 }, { o := .ex (.l 1) 1 }, { o := .al [.t (.int .i64 (0)), .t (.int .i64 (0)), .t (.int .i64 (0)), .t (.int .i64 (0))] [], d := some 4 }, { o := .st (.l 0) (.l 2) 4 [] }, { o := .mv (.l 2), d := some 5 }] []) (.seq (.reg [{ o := .ld (.v 1) 3 true }, { o := .ld (.v 4) 4 true }, { o := .ld (.v 2) 3 true }, { o := .ld (.v 3) 1 true }, { o := .ca N.firing_Agree 0 [] [.l 3, .l 2, .l 1, .l 0, .i 2, .i 200] }, { o := .mv (.l 0) }, { o := .ex (.l 0) 0 }, { o := .ex (.l 1) 1 }, { o := .al [.t (.int .i64 (0)), .t (.int .i64 (0)), .t (.int .i64 (0)), .t (.int .i64 (0))] [], d := some 6 }, { o := .st (.l 0) (.l 2) 4 [] }, { o := .mv (.l 2), d := some 7 }] []) (.seq (.reg [{ o := .ld (.v 1) 3 true }, { o := .ld (.v 6) 4 true }, { o := .ld (.v 2) 3 true }, { o := .ld (.v 3) 1 true }, { o := .ca N.firing_Fire 0 [] [.l 3, .l 2, .l 1, .l 0, .i 300, .b false] }, { o := .mv (.l 0) }, { o := .ex (.l 0) 0 }, { o := .ex (.l 1) 1 }, { o := .al [.t (.int .i64 (0)), .t (.int .i64 (0)), .t (.int .i64 (0)), .t (.int .i64 (0))] [], d := some 8 }, { o := .st (.l 0) (.l 2) 4 [] }, { o := .mv (.l 2), d := some 9 }] []) (.seq (.reg [{ o := .ld (.v 1) 3 true }, { o := .ld (.v 4) 4 true }, { o := .ld (.v 2) 3 true }, { o := .ld (.v 3) 1 true }, { o := .ca N.firing_Agree 0 [] [.l 3, .l 2, .l 1, .l 0, .i 1, .i 200] }, { o := .mv (.l 0) }, { o := .ex (.l 0) 0 }, { o := .ex (.l 1) 1 }, { o := .al [.t (.int .i64 (0)), .t (.int .i64 (0)), .t (.int .i64 (0)), .t (.int .i64 (0))] [] }, { o := .st (.l 0) (.l 2) 4 [] }, { o := .mv (.l 2), d := some 10 }] []) (.seq (.reg [{ o := .mv (.v 5) }, { o := .bin .eql (.l 0) (.i 0) }, { o := .mv (.l 0) }, { o := .mv (.v 7), g := some (0, true) }, { o := .bin .eql (.l 0) (.i 0), g := some (1, true) }, { o := .pk (.l 2) (.l 0) (.b false) }, { o := .mv (.l 0) }, { o := .mv (.v 9), g := some (0, true) }, { o := .bin .eql (.l 0) (.i 0), g := some (1, true) }, { o := .pk (.l 2) (.l 0) (.b false) }, { o := .mv (.l 0) }, { o := .mv (.v 10), g := some (0, true) }, { o := .bin .eql (.l 0) (.i 19), g := some (1, true) }, { o := .pk (.l 2) (.l 0) (.b false) }, { o := .mv (.l 0) }, { o := .fa (.v 4) 0, g := some (0, true) }, { o := .ld (.l 0) 1 false, g := some (1, true) }, { o := .bin .eql (.l 0) (.i 1), g := some (2, true) }, { o := .pk (.l 3) (.l 0) (.b false) }, { o := .mv (.l 0) }, { o := .fa (.v 8) 0, g := some (0, true) }, { o := .ld (.l 0) 1 false, g := some (1, true) }, { o := .bin .eql (.l 0) (.i 3), g := some (2, true) }, { o := .pk (.l 3) (.l 0) (.b false) }, { o := .mv (.l 0) }, { o := .fa (.v 8) 3, g := some (0, true) }, { o := .ld (.l 0) 1 false, g := some (1, true) }, { o := .bin .eql (.l 0) (.i 300), g := some (2, true) }, { o := .pk (.l 3) (.l 0) (.b false) }, { o := .mv (.l 0) }, { o := .ld (.v 1) 3 true, g := some (0, true) }, { o := .ld (.v 4) 4 true, g := some (1, true) }, { o := .ca N.firing_Due 0 [] [.l 1, .l 0, .i 150], g := some (2, true) }, { o := .bin .eql (.l 0) (.i 250), g := some (3, true) }, { o := .pk (.l 4) (.l 0) (.b false) }, { o := .mv (.l 0), d := some 0 }] []) .ret))))))), res := [(0, none)] }
def made_Dice_Ints_l1b : C := (.seq (.ite [{ o := .mv (.v 3) }, { o := .bin .gtr (.l 0) (.i 0) }] [] 0 .skip (.exit 0)) (.seq (.blk 1 (.reg [{ o := .mv (.v 2) }, { o := .mv (.v 0) }, { o := .ca N.made_Dice_Next 0 [] [.l 0, .i 9] }, { o := .bin .sub (.l 0) (.i 1) }, { o := .bs [.l 0] 1 }, { o := .app (.l 4) (.l 0) true 1 }, { o := .mv (.l 0), d := some 2 }] [])) (.reg [{ o := .mv (.v 3) }, { o := .bin .sub (.l 0) (.i 1) }, { o := .mv (.l 0), d := some 3 }] [])))
def made_Dice_Ints_l1 : C := .loop true [1] K.made_Dice_Ints_l1b
/-- (*/made.Dice).Ints -/
def made_Dice_Ints : Fn := { nargs := 1, vars := [0, 2, 3, 4], body := (.seq (.reg [{ o := .mv (.c (.nil)), d := some 1 }] []) (.seq (.reg [{ o := .nw 1, d := some 2 }] []) (.seq (.seq (.reg [{ o := .mv (.v 0) }, { o := .ca N.made_Dice_Next 0 [] [.l 0, .i 5] }, { o := .mv (.l 0), d := some 3 }] []) (.blk 0 K.made_Dice_Ints_l1)) (.seq (.reg [{ o := .mv (.v 2) }, { o := .mv (.l 0), d := some 1 }] []) .ret)))), res := [(1, none)] }
/-- /law34.scene -/
def law34_scene : Fn := { nargs := 1, vars := [0, 2, 3, 4, 5, 6, 7, 8, 9, 10, 11], body := (.seq (.reg [{ o := .al [.nil, .t (.int .i64 (0)), .t (.int .i64 (0))] [], d := some 1 }, { o := .al [.nil, .nil, .t (.bool false)] [], d := some 2 }, { o := .al [.nil] [], d := some 3 }] []) (.seq (.reg [{ o := .mv (.v 0) }, { o := .ca N.made_Dice_Mine 0 [] [.l 0] }, { o := .al [.nil, .nil] [], d := some 4 }, { o := .st (.l 0) (.l 1) 2 [] }] []) (.seq (.reg [{ o := .al [.nil, .t (.int .i64 (0)), .t (.int .i64 (0))] [], d := some 5 }, { o := .fa (.v 4) 0 }, { o := .ld (.l 0) 1 false }, { o := .ln (.l 0) }, { o := .bin .sub (.l 0) (.i 1) }, { o := .bs [.l 0] 1 }, { o := .mv (.v 0) }, { o := .bs [.i 299, .i 9] 1 }, { o := .ca N.made_Dice_Of 0 [] [.l 1, .l 0] }, { o := .bin .add (.i 1) (.l 0) }, { o := .mv (.v 0) }, { o := .bs [.i 1799, .i 9] 1 }, { o := .ca N.made_Dice_Of 0 [] [.l 1, .l 0] }, { o := .bin .add (.i 1) (.l 0) }, { o := .bd [.nil, .t (.int .i64 (0)), .t (.int .i64 (0))] [(0, 1, .l 8), (1, 1, .l 4), (2, 1, .l 0)] }, { o := .st (.l 14) (.l 0) 3 [] }] [(0, 9), (0, 13), (2, 9), (2, 13), (5, 9), (5, 13), (7, 7), (11, 1)]) (.seq (.reg [{ o := .mv (.v 0) }, { o := .ld (.v 4) 2 true }, { o := .ca N.made_Dice_Belief 0 [] [.l 1, .l 0] }, { o := .al [.nil] [], d := some 6 }, { o := .st (.l 0) (.l 1) 1 [] }] []) (.seq (.reg [{ o := .ld (.v 4) 2 true }, { o := .fa (.v 5) 0 }, { o := .ld (.l 0) 1 false }, { o := .ca N.ref32_Border 0 [] [.l 2, .l 0] }, { o := .mv (.l 0), d := some 7 }] []) (.seq (.reg [{ o := .al [.nil] [], d := some 8 }, { o := .ld (.v 4) 2 true }, { o := .ld (.v 6) 1 true }, { o := .mv (.v 7) }, { o := .ld (.v 6) 1 true }, { o := .ca N.made_Last 0 [] [.l 0] }, { o := .mv (.v 0) }, { o := .ca N.made_Dice_Next 0 [] [.l 0, .i 50] }, { o := .bin .add (.l 2) (.l 0) }, { o := .ca N.ref32_Seal 0 [] [.l 7, .l 6, .l 5, .l 0] }, { o := .mv (.l 0) }, { o := .ex (.l 0) 0 }, { o := .ex (.l 1) 1 }, { o := .st (.l 12) (.l 1) 1 [] }, { o := .mv (.l 1), d := some 9 }] [(0, 6), (0, 8), (0, 10), (1, 6), (1, 8), (2, 6), (2, 8)]) (.seq (.ite [{ o := .mv (.v 9) }, { o := .bin .neq (.l 0) (.i 0) }] [] 0 (.reg [{ o := .ld (.v 6) 1 true }, { o := .st (.v 8) (.l 0) 1 [] }] []) .skip) (.seq (.reg [{ o := .bs [.i 1] 1 }, { o := .bs [.i 2] 1 }, { o := .mv (.v 0) }, { o := .ca N.made_Dice_Next 0 [] [.l 0, .i 6] }, { o := .bin .gtr (.l 0) (.i 0) }, { o := .bd [.nil, .nil, .t (.bool false)] [(0, 1, .l 4), (1, 1, .l 3), (2, 1, .l 0)] }, { o := .al [.nil, .nil, .t (.bool false)] [], d := some 10 }, { o := .st (.l 0) (.l 1) 3 [] }] []) (.seq (.reg [{ o := .ld (.v 5) 3 true }, { o := .ld (.v 10) 3 true }, { o := .ld (.v 8) 1 true }, { o := .st (.v 1) (.l 2) 3 [] }, { o := .st (.v 2) (.l 2) 3 [] }, { o := .st (.v 3) (.l 2) 1 [] }] [(1, 4), (2, 4), (2, 5)]) .ret))))))))), res := [(1, some (3, true)), (2, some (3, true)), (3, some (1, true))] }
/-- /law34.agree -/
def law34_agree : Fn := { nargs := 7, vars := [0, 1, 2, 3, 4, 5, 6, 7, 8, 9, 10, 14, 15, 16, 17, 18, 19, 20, 21, 22, 23, 24, 25, 26, 27, 28, 29, 30], body := (.seq (.reg [{ o := .bx (.v 0) 3, d := some 7 }, { o := .bx (.v 1) 4, d := some 8 }, { o := .bx (.v 2) 3, d := some 9 }, { o := .bx (.v 3) 1, d := some 10 }, { o := .mv (.b false), d := some 11 }] []) (.seq (.reg [{ o := .ld (.v 7) 3 true }, { o := .ld (.v 8) 4 true }, { o := .ld (.v 9) 3 true }, { o := .ld (.v 10) 1 true }, { o := .mv (.v 4) }, { o := .mv (.v 5) }, { o := .ca N.firing_Arm 0 [] [.l 5, .l 4, .l 3, .l 2, .l 1, .l 0] }, { o := .mv (.l 0) }, { o := .ex (.l 0) 0 }, { o := .ex (.l 1) 1 }, { o := .al [.t (.int .i64 (0)), .t (.int .i64 (0)), .t (.int .i64 (0)), .t (.int .i64 (0))] [], d := some 12 }, { o := .st (.l 0) (.l 2) 4 [] }, { o := .mv (.l 2), d := some 13 }] []) (.seq (.reg [{ o := .ld (.v 7) 3 true }, { o := .ld (.v 8) 4 true }, { o := .ld (.v 9) 3 true }, { o := .ld (.v 10) 1 true }, { o := .mv (.v 4) }, { o := .mv (.v 5) }, { o := .ca N.ref34_Arm 0 [] [.l 5, .l 4, .l 3, .l 2, .l 1, .l 0] }, { o := .mv (.l 0) }, { o := .ex (.l 0) 0 }, { o := .ex (.l 1) 1 }, { o := .al [.t (.int .i64 (0)), .t (.int .i64 (0)), .t (.int .i64 (0)), .t (.int .i64 (0))] [], d := some 14 }, { o := .st (.l 0) (.l 2) 4 [] }, { o := .mv (.l 2), d := some 15 }] []) (.seq (.reg [{ o := .ld (.v 7) 3 true }, { o := .ld (.v 8) 4 true }, { o := .ld (.v 9) 3 true }, { o := .ld (.v 10) 1 true }, { o := .mv (.v 4) }, { o := .mv (.v 5) }, { o := .ca N.firing_Agree 0 [] [.l 5, .l 4, .l 3, .l 2, .l 1, .l 0] }, { o := .mv (.l 0) }, { o := .ex (.l 0) 0 }, { o := .ex (.l 1) 1 }, { o := .al [.t (.int .i64 (0)), .t (.int .i64 (0)), .t (.int .i64 (0)), .t (.int .i64 (0))] [], d := some 16 }, { o := .st (.l 0) (.l 2) 4 [] }, { o := .mv (.l 2), d := some 17 }] []) (.seq (.reg [{ o := .ld (.v 7) 3 true }, { o := .ld (.v 8) 4 true }, { o := .ld (.v 9) 3 true }, { o := .ld (.v 10) 1 true }, { o := .mv (.v 4) }, { o := .mv (.v 5) }, { o := .ca N.ref34_Agree 0 [] [.l 5, .l 4, .l 3, .l 2, .l 1, .l 0] }, { o := .mv (.l 0) }, { o := .ex (.l 0) 0 }, { o := .ex (.l 1) 1 }, { o := .al [.t (.int .i64 (0)), .t (.int .i64 (0)), .t (.int .i64 (0)), .t (.int .i64 (0))] [], d := some 18 }, { o := .st (.l 0) (.l 2) 4 [] }, { o := .mv (.l 2), d := some 19 }] []) (.seq (.reg [{ o := .ld (.v 7) 3 true }, { o := .ld (.v 8) 4 true }, { o := .ld (.v 9) 3 true }, { o := .ld (.v 10) 1 true }, { o := .mv (.v 5) }, { o := .mv (.v 6) }, { o := .ca N.firing_Fire 0 [] [.l 5, .l 4, .l 3, .l 2, .l 1, .l 0] }, { o := .mv (.l 0) }, { o := .ex (.l 0) 0 }, { o := .ex (.l 1) 1 }, { o := .al [.t (.int .i64 (0)), .t (.int .i64 (0)), .t (.int .i64 (0)), .t (.int .i64 (0))] [], d := some 20 }, { o := .st (.l 0) (.l 2) 4 [] }, { o := .mv (.l 2), d := some 21 }] []) (.seq (.reg [{ o := .ld (.v 7) 3 true }, { o := .ld (.v 8) 4 true }, { o := .ld (.v 9) 3 true }, { o := .ld (.v 10) 1 true }, { o := .mv (.v 5) }, { o := .mv (.v 6) }, { o := .ca N.ref34_Fire 0 [] [.l 5, .l 4, .l 3, .l 2, .l 1, .l 0] }, { o := .mv (.l 0) }, { o := .ex (.l 0) 0 }, { o := .ex (.l 1) 1 }, { o := .al [.t (.int .i64 (0)), .t (.int .i64 (0)), .t (.int .i64 (0)), .t (.int .i64 (0))] [], d := some 22 }, { o := .st (.l 0) (.l 2) 4 [] }, { o := .mv (.l 2), d := some 23 }] []) (.seq (.reg [{ o := .ld (.v 7) 3 true }, { o := .ld (.v 8) 4 true }, { o := .mv (.v 5) }, { o := .ca N.firing_Abort 0 [] [.l 2, .l 1, .l 0] }, { o := .mv (.l 0) }, { o := .ex (.l 0) 0 }, { o := .ex (.l 1) 1 }, { o := .al [.t (.int .i64 (0)), .t (.int .i64 (0)), .t (.int .i64 (0)), .t (.int .i64 (0))] [], d := some 24 }, { o := .st (.l 0) (.l 2) 4 [] }, { o := .mv (.l 2), d := some 25 }] []) (.seq (.reg [{ o := .ld (.v 7) 3 true }, { o := .ld (.v 8) 4 true }, { o := .mv (.v 5) }, { o := .ca N.ref34_Abort 0 [] [.l 2, .l 1, .l 0] }, { o := .mv (.l 0) }, { o := .ex (.l 0) 0 }, { o := .ex (.l 1) 1 }, { o := .al [.t (.int .i64 (0)), .t (.int .i64 (0)), .t (.int .i64 (0)), .t (.int .i64 (0))] [], d := some 26 }, { o := .st (.l 0) (.l 2) 4 [] }, { o := .mv (.l 2), d := some 27 }] []) (.seq (.reg [{ o := .ld (.v 12) 4 true }, { o := .ld (.v 14) 4 true }, { o := .eqk (.ints 4) false (.l 1) (.l 0) }, { o := .mv (.l 0) }, { o := .mv (.v 13), g := some (0, true) }, { o := .mv (.v 15), g := some (1, true) }, { o := .bin .eql (.l 1) (.l 0), g := some (2, true) }, { o := .pk (.l 3) (.l 0) (.b false) }, { o := .mv (.l 0) }, { o := .ld (.v 16) 4 true, g := some (0, true) }, { o := .ld (.v 18) 4 true, g := some (1, true) }, { o := .eqk (.ints 4) false (.l 1) (.l 0), g := some (2, true) }, { o := .pk (.l 3) (.l 0) (.b false) }, { o := .mv (.l 0) }, { o := .mv (.v 17), g := some (0, true) }, { o := .mv (.v 19), g := some (1, true) }, { o := .bin .eql (.l 1) (.l 0), g := some (2, true) }, { o := .pk (.l 3) (.l 0) (.b false) }, { o := .mv (.l 0) }, { o := .ld (.v 20) 4 true, g := some (0, true) }, { o := .ld (.v 22) 4 true, g := some (1, true) }, { o := .eqk (.ints 4) false (.l 1) (.l 0), g := some (2, true) }, { o := .pk (.l 3) (.l 0) (.b false) }, { o := .mv (.l 0) }, { o := .mv (.v 21), g := some (0, true) }, { o := .mv (.v 23), g := some (1, true) }, { o := .bin .eql (.l 1) (.l 0), g := some (2, true) }, { o := .pk (.l 3) (.l 0) (.b false) }, { o := .mv (.l 0) }, { o := .ld (.v 24) 4 true, g := some (0, true) }, { o := .ld (.v 26) 4 true, g := some (1, true) }, { o := .eqk (.ints 4) false (.l 1) (.l 0), g := some (2, true) }, { o := .pk (.l 3) (.l 0) (.b false) }, { o := .mv (.l 0) }, { o := .mv (.v 25), g := some (0, true) }, { o := .mv (.v 27), g := some (1, true) }, { o := .bin .eql (.l 1) (.l 0), g := some (2, true) }, { o := .pk (.l 3) (.l 0) (.b false) }, { o := .mv (.l 0) }, { o := .ld (.v 7) 3 true, g := some (0, true) }, { o := .ld (.v 8) 4 true, g := some (1, true) }, { o := .ca N.firing_Valid 0 [] [.l 1, .l 0], g := some (2, true) }, { o := .ld (.v 7) 3 true, g := some (3, true) }, { o := .ld (.v 8) 4 true, g := some (4, true) }, { o := .ca N.ref34_Valid 0 [] [.l 1, .l 0], g := some (5, true) }, { o := .eqk (.bool) false (.l 3) (.l 0), g := some (6, true) }, { o := .pk (.l 7) (.l 0) (.b false) }, { o := .mv (.l 0) }, { o := .ld (.v 7) 3 true, g := some (0, true) }, { o := .ld (.v 9) 3 true, g := some (1, true) }, { o := .ld (.v 10) 1 true, g := some (2, true) }, { o := .ca N.firing_Safe 0 [] [.l 2, .l 1, .l 0], g := some (3, true) }, { o := .ld (.v 7) 3 true, g := some (4, true) }, { o := .ld (.v 9) 3 true, g := some (5, true) }, { o := .ld (.v 10) 1 true, g := some (6, true) }, { o := .ca N.ref34_Safe 0 [] [.l 2, .l 1, .l 0], g := some (7, true) }, { o := .eqk (.bool) false (.l 4) (.l 0), g := some (8, true) }, { o := .pk (.l 9) (.l 0) (.b false) }, { o := .mv (.l 0) }, { o := .ld (.v 7) 3 true, g := some (0, true) }, { o := .ld (.v 8) 4 true, g := some (1, true) }, { o := .mv (.v 5), g := some (2, true) }, { o := .ca N.firing_Due 0 [] [.l 2, .l 1, .l 0], g := some (3, true) }, { o := .ld (.v 7) 3 true, g := some (4, true) }, { o := .ld (.v 8) 4 true, g := some (5, true) }, { o := .mv (.v 5), g := some (6, true) }, { o := .ca N.ref34_Due 0 [] [.l 2, .l 1, .l 0], g := some (7, true) }, { o := .bin .eql (.l 4) (.l 0), g := some (8, true) }, { o := .pk (.l 9) (.l 0) (.b false) }, { o := .mv (.l 0), d := some 11 }] [(42, 0), (43, 0), (52, 45), (53, 45), (54, 45), (63, 56), (64, 56)]) .ret)))))))))), res := [(11, none)] }
/-- /law34.ready -/
def law34_ready : Fn := { nargs := 0, vars := [0, 1, 2, 3], body := (.seq (.reg [{ o := .al [.nil, .t (.int .i64 (0)), .t (.int .i64 (0))] [], d := some 0 }, { o := .al [.nil, .nil, .t (.bool false)] [], d := some 1 }, { o := .al [.nil] [], d := some 2 }] []) (.seq (.reg [{ o := .bs [.i 0, .i 1099511627776] 1 }, { o := .bd [.t (.int .i64 (0)), .nil] [(1, 1, .l 0)] }, { o := .al [.t (.int .i64 (0)), .nil] [], d := some 3 }, { o := .st (.l 0) (.l 1) 2 [] }] []) (.seq (.reg [{ o := .bs [.i 1] 1 }, { o := .bd [.nil, .t (.int .i64 (0)), .t (.int .i64 (0))] [(0, 1, .l 0), (1, 1, .i 300), (2, 1, .i 1800)] }, { o := .bs [.i 0] 1 }, { o := .bs [.i 2] 1 }, { o := .bd [.nil, .nil, .t (.bool false)] [(0, 1, .l 1), (1, 1, .l 0), (2, 1, .b true)] }, { o := .bs [.i 1] 1 }, { o := .ld (.v 3) 2 true }, { o := .bs [.l 0] 2 }, { o := .bd [.nil, .nil] [(0, 1, .l 2), (1, 1, .l 0)] }, { o := .bs [.l 0] 2 }, { o := .bd [.nil] [(0, 1, .l 0)] }, { o := .st (.v 0) (.l 9) 3 [] }, { o := .st (.v 1) (.l 7) 3 [] }, { o := .st (.v 2) (.l 2) 1 [] }] [(0, 0), (2, 12), (3, 12), (5, 12), (5, 13), (6, 12), (6, 13), (7, 12), (7, 13), (9, 12), (9, 13)]) .ret))), res := [(0, some (3, true)), (1, some (3, true)), (2, some (1, true))] }
/-- /firing.Arm -/
def firing_Arm : Fn := { nargs := 6, vars := [0, 1, 2, 3, 4, 5, 6, 7, 8, 9, 12, 13, 14], body := (.seq (.reg [{ o := .bx (.v 0) 3, d := some 6 }, { o := .bx (.v 1) 4, d := some 7 }, { o := .bx (.v 2) 3, d := some 8 }, { o := .bx (.v 3) 1, d := some 9 }, { o := .al [.t (.int .i64 (0)), .t (.int .i64 (0)), .t (.int .i64 (0)), .t (.int .i64 (0))] [], d := some 10 }, { o := .mv (.i 0), d := some 11 }] []) (.seq (.seq (.reg [{ o := .ld (.v 6) 3 true }, { o := .ld (.v 7) 4 true }, { o := .ld (.v 8) 3 true }, { o := .ld (.v 9) 1 true }, { o := .mv (.v 5) }, { o := .bd [.nil, .t (.int .i64 (0)), .t (.int .i64 (0)), .t (.int .i64 (0)), .t (.int .i64 (0)), .t (.int .i64 (0)), .t (.int .i64 (0)), .nil, .nil, .t (.bool false), .nil, .t (.int .i64 (0)), .t (.int .i64 (0))] [(0, 3, .l 4), (3, 4, .l 3), (7, 3, .l 2), (10, 1, .l 1), (11, 1, .l 0), (12, 1, .i 0)] }, { o := .mv (.v 4) }, { o := .bin .leq (.l 0) (.i 0) }, { o := .ca N.firing_request_check 0 [] [.l 2, .l 0] }, { o := .mv (.l 0), d := some 12 }] []) (.ite [{ o := .mv (.v 12) }, { o := .bin .neq (.l 0) (.i 0) }] [] 0 (.seq (.reg [{ o := .ld (.v 7) 4 true }, { o := .mv (.v 12) }, { o := .st (.v 10) (.l 1) 4 [] }, { o := .mv (.l 1), d := some 11 }] []) .ret) .skip)) (.seq (.reg [{ o := .mv (.v 4) }, { o := .mv (.v 5) }, { o := .bd [.t (.int .i64 (0)), .t (.int .i64 (0)), .t (.int .i64 (0)), .t (.int .i64 (0))] [(0, 1, .i 1), (1, 1, .l 1), (3, 1, .l 0)] }, { o := .st (.v 10) (.l 0) 4 [] }, { o := .mv (.i 0), d := some 11 }] []) .ret))), res := [(10, some (4, true)), (11, none)] }
/-- /firing.Agree -/
def firing_Agree : Fn := { nargs := 6, vars := [0, 1, 2, 3, 4, 5, 6, 7, 8, 9, 12, 13, 14], body := (.seq (.reg [{ o := .bx (.v 0) 3, d := some 6 }, { o := .bx (.v 1) 4, d := some 7 }, { o := .bx (.v 2) 3, d := some 8 }, { o := .bx (.v 3) 1, d := some 9 }, { o := .al [.t (.int .i64 (0)), .t (.int .i64 (0)), .t (.int .i64 (0)), .t (.int .i64 (0))] [], d := some 10 }, { o := .mv (.i 0), d := some 11 }] []) (.seq (.seq (.reg [{ o := .ld (.v 6) 3 true }, { o := .ld (.v 7) 4 true }, { o := .ld (.v 8) 3 true }, { o := .ld (.v 9) 1 true }, { o := .mv (.v 5) }, { o := .bd [.nil, .t (.int .i64 (0)), .t (.int .i64 (0)), .t (.int .i64 (0)), .t (.int .i64 (0)), .t (.int .i64 (0)), .t (.int .i64 (0)), .nil, .nil, .t (.bool false), .nil, .t (.int .i64 (0)), .t (.int .i64 (0))] [(0, 3, .l 4), (3, 4, .l 3), (7, 3, .l 2), (10, 1, .l 1), (11, 1, .l 0), (12, 1, .i 1)] }, { o := .mv (.v 4) }, { o := .bin .leq (.l 0) (.i 0) }, { o := .mv (.l 0) }, { o := .mv (.v 4), g := some (0, false) }, { o := .fa (.v 7) 1, g := some (1, false) }, { o := .ld (.l 0) 1 false, g := some (2, false) }, { o := .bin .eql (.l 2) (.l 0), g := some (3, false) }, { o := .pk (.l 4) (.b true) (.l 0) }, { o := .ca N.firing_request_check 0 [] [.l 8, .l 0] }, { o := .mv (.l 0), d := some 12 }] []) (.ite [{ o := .mv (.v 12) }, { o := .bin .neq (.l 0) (.i 0) }] [] 0 (.seq (.reg [{ o := .ld (.v 7) 4 true }, { o := .mv (.v 12) }, { o := .st (.v 10) (.l 1) 4 [] }, { o := .mv (.l 1), d := some 11 }] []) .ret) .skip)) (.seq (.reg [{ o := .mv (.v 4) }, { o := .mv (.v 5) }, { o := .fa (.v 7) 0 }, { o := .st (.l 0) (.i 2) 1 [] }, { o := .fa (.v 7) 2 }, { o := .st (.l 0) (.l 4) 1 [] }, { o := .fa (.v 7) 3 }, { o := .st (.l 0) (.l 5) 1 [] }] []) (.seq (.reg [{ o := .ld (.v 7) 4 true }, { o := .st (.v 10) (.l 0) 4 [] }, { o := .mv (.i 0), d := some 11 }] []) .ret)))), res := [(10, some (4, true)), (11, none)] }
/-- /firing.Fire -/
def firing_Fire : Fn := { nargs := 6, vars := [0, 1, 2, 3, 4, 5, 6, 7, 8, 9, 12, 13, 14], body := (.seq (.reg [{ o := .bx (.v 0) 3, d := some 6 }, { o := .bx (.v 1) 4, d := some 7 }, { o := .bx (.v 2) 3, d := some 8 }, { o := .bx (.v 3) 1, d := some 9 }, { o := .al [.t (.int .i64 (0)), .t (.int .i64 (0)), .t (.int .i64 (0)), .t (.int .i64 (0))] [], d := some 10 }, { o := .mv (.i 0), d := some 11 }] []) (.seq (.seq (.reg [{ o := .ld (.v 6) 3 true }, { o := .ld (.v 7) 4 true }, { o := .ld (.v 8) 3 true }, { o := .ld (.v 9) 1 true }, { o := .mv (.v 4) }, { o := .bd [.nil, .t (.int .i64 (0)), .t (.int .i64 (0)), .t (.int .i64 (0)), .t (.int .i64 (0)), .t (.int .i64 (0)), .t (.int .i64 (0)), .nil, .nil, .t (.bool false), .nil, .t (.int .i64 (0)), .t (.int .i64 (0))] [(0, 3, .l 4), (3, 4, .l 3), (7, 3, .l 2), (10, 1, .l 1), (11, 1, .l 0), (12, 1, .i 2)] }, { o := .ca N.firing_request_check 0 [] [.l 0, .b false] }, { o := .mv (.l 0), d := some 12 }] []) (.ite [{ o := .mv (.v 12) }, { o := .bin .neq (.l 0) (.i 0) }] [] 0 (.seq (.reg [{ o := .ld (.v 7) 4 true }, { o := .mv (.v 12) }, { o := .st (.v 10) (.l 1) 4 [] }, { o := .mv (.l 1), d := some 11 }] []) .ret) .skip)) (.seq (.reg [{ o := .mv (.v 4) }, { o := .fa (.v 7) 0 }, { o := .st (.l 0) (.i 3) 1 [] }, { o := .fa (.v 7) 3 }, { o := .st (.l 0) (.l 3) 1 [] }] []) (.seq (.ite [{ o := .mv (.v 5) }] [] 0 (.reg [{ o := .fa (.v 7) 0 }, { o := .st (.l 0) (.i 4) 1 [] }] []) .skip) (.seq (.reg [{ o := .ld (.v 7) 4 true }, { o := .st (.v 10) (.l 0) 4 [] }, { o := .mv (.i 0), d := some 11 }] []) .ret))))), res := [(10, some (4, true)), (11, none)] }
/-- /firing.Abort -/
def firing_Abort : Fn := { nargs := 3, vars := [0, 1, 2, 3, 4, 6, 7], body := (.seq (.reg [{ o := .bx (.v 0) 3, d := some 3 }, { o := .bx (.v 1) 4, d := some 4 }, { o := .al [.t (.int .i64 (0)), .t (.int .i64 (0)), .t (.int .i64 (0)), .t (.int .i64 (0))] [], d := some 5 }, { o := .mv (.i 0), d := some 6 }] []) (.seq (.blk 0 (.ite [{ o := .ld (.v 3) 3 true }, { o := .ld (.v 4) 4 true }, { o := .ca N.firing_Valid 0 [] [.l 1, .l 0] }, { o := .un .not (.l 0) }, { o := .mv (.l 0) }] [] 0 (.seq (.reg [{ o := .ld (.v 4) 4 true }, { o := .st (.v 5) (.l 0) 4 [] }, { o := .mv (.i 6), d := some 6 }] []) .ret) (.ite [{ o := .fa (.v 4) 0 }, { o := .ld (.l 0) 1 false }, { o := .bin .eql (.l 0) (.i 0) }, { o := .mv (.l 0) }] [] 0 (.seq (.reg [{ o := .ld (.v 4) 4 true }, { o := .st (.v 5) (.l 0) 4 [] }, { o := .mv (.i 10), d := some 6 }] []) .ret) (.ite [{ o := .ld (.v 4) 4 true }, { o := .mv (.v 2) }, { o := .ca N.firing_timely 0 [] [.l 1, .l 0] }, { o := .un .not (.l 0) }, { o := .mv (.l 0) }] [] 0 (.seq (.reg [{ o := .ld (.v 4) 4 true }, { o := .st (.v 5) (.l 0) 4 [] }, { o := .mv (.i 8), d := some 6 }] []) .ret) (.ite [{ o := .fa (.v 4) 0 }, { o := .ld (.l 0) 1 false }, { o := .bin .eql (.l 0) (.i 4) }, { o := .mv (.l 0) }, { o := .mv (.v 2), g := some (0, true) }, { o := .fa (.v 4) 3, g := some (1, true) }, { o := .ld (.l 0) 1 false, g := some (2, true) }, { o := .bin .sub (.l 2) (.l 0), g := some (3, true) }, { o := .fa (.v 3) 2, g := some (4, true) }, { o := .ld (.l 0) 1 false, g := some (5, true) }, { o := .bin .lss (.l 2) (.l 0), g := some (6, true) }, { o := .pk (.l 7) (.l 0) (.b false) }, { o := .mv (.l 0) }] [] 0 (.seq (.reg [{ o := .ld (.v 4) 4 true }, { o := .st (.v 5) (.l 0) 4 [] }, { o := .mv (.i 10), d := some 6 }] []) .ret) .skip))))) (.seq (.reg [{ o := .bd [.t (.int .i64 (0)), .t (.int .i64 (0)), .t (.int .i64 (0)), .t (.int .i64 (0))] [] }, { o := .st (.v 5) (.l 0) 4 [] }, { o := .mv (.i 0), d := some 6 }] []) .ret))), res := [(5, some (4, true)), (6, none)] }
/-- /firing.Valid -/
def firing_Valid : Fn := { nargs := 2, vars := [0, 1, 2, 3, 4, 34, 50], body := (.seq (.reg [{ o := .bx (.v 0) 3, d := some 2 }, { o := .bx (.v 1) 4, d := some 3 }, { o := .mv (.b false), d := some 4 }] []) (.seq (.ite [{ o := .fa (.v 2) 0 }, { o := .ld (.l 0) 1 false }, { o := .ln (.l 0) }, { o := .bin .eql (.l 0) (.i 0) }, { o := .mv (.l 0) }, { o := .fa (.v 2) 0, g := some (0, false) }, { o := .ld (.l 0) 1 false, g := some (1, false) }, { o := .ca N.lists_Rising 0 [] [.l 0, .i 0, .i 63], g := some (2, false) }, { o := .un .not (.l 0), g := some (3, false) }, { o := .pk (.l 4) (.b true) (.l 0) }, { o := .mv (.l 0) }, { o := .fa (.v 2) 1, g := some (0, false) }, { o := .ld (.l 0) 1 false, g := some (1, false) }, { o := .ca N.lists_In 0 [] [.l 0, .i 1, .i 100000], g := some (2, false) }, { o := .un .not (.l 0), g := some (3, false) }, { o := .pk (.l 4) (.b true) (.l 0) }, { o := .mv (.l 0) }, { o := .fa (.v 2) 2, g := some (0, false) }, { o := .ld (.l 0) 1 false, g := some (1, false) }, { o := .ca N.lists_In 0 [] [.l 0, .i 1, .i 100000], g := some (2, false) }, { o := .un .not (.l 0), g := some (3, false) }, { o := .pk (.l 4) (.b true) (.l 0) }, { o := .mv (.l 0) }, { o := .fa (.v 3) 3, g := some (0, false) }, { o := .ld (.l 0) 1 false, g := some (1, false) }, { o := .ca N.lists_In 0 [] [.l 0, .i 0, .i 2147483648], g := some (2, false) }, { o := .un .not (.l 0), g := some (3, false) }, { o := .pk (.l 4) (.b true) (.l 0) }] [] 0 (.seq (.reg [{ o := .mv (.b false), d := some 4 }] []) .ret) .skip) (.seq (.seq (.reg [{ o := .fa (.v 3) 0 }, { o := .ld (.l 0) 1 false, d := some 5 }] []) (.blk 0 (.ite [{ o := .bin .eql (.v 5) (.i 0) }, { o := .mv (.l 0) }] [] 0 (.seq (.reg [{ o := .ld (.v 3) 4 true }, { o := .bd [.t (.int .i64 (0)), .t (.int .i64 (0)), .t (.int .i64 (0)), .t (.int .i64 (0))] [] }, { o := .eqk (.ints 4) false (.l 1) (.l 0) }, { o := .mv (.l 0), d := some 4 }] []) .ret) (.ite [{ o := .bin .eql (.v 5) (.i 1) }, { o := .mv (.l 0) }] [] 0 (.seq (.reg [{ o := .fa (.v 3) 1 }, { o := .ld (.l 0) 1 false }, { o := .bin .gtr (.l 0) (.i 0) }, { o := .mv (.l 0) }, { o := .fa (.v 3) 2, g := some (0, true) }, { o := .ld (.l 0) 1 false, g := some (1, true) }, { o := .bin .eql (.l 0) (.i 0), g := some (2, true) }, { o := .pk (.l 3) (.l 0) (.b false) }, { o := .mv (.l 0), d := some 4 }] []) .ret) (.seq (.seq (.reg [{ o := .bin .eql (.v 5) (.i 2) }, { o := .mv (.l 0), d := some 6 }] []) (.itv 6 .skip (.seq (.reg [{ o := .bin .eql (.v 5) (.i 3) }, { o := .mv (.l 0), d := some 6 }] []) (.itv 6 .skip (.reg [{ o := .bin .eql (.v 5) (.i 4) }, { o := .mv (.l 0), d := some 6 }] []))))) (.itv 6 (.seq (.reg [{ o := .fa (.v 3) 1 }, { o := .ld (.l 0) 1 false }, { o := .bin .gtr (.l 0) (.i 0) }, { o := .mv (.l 0) }, { o := .fa (.v 3) 2, g := some (0, true) }, { o := .ld (.l 0) 1 false, g := some (1, true) }, { o := .bin .gtr (.l 0) (.i 0), g := some (2, true) }, { o := .pk (.l 3) (.l 0) (.b false) }, { o := .mv (.l 0) }, { o := .fa (.v 3) 1, g := some (0, true) }, { o := .ld (.l 0) 1 false, g := some (1, true) }, { o := .fa (.v 3) 2, g := some (2, true) }, { o := .ld (.l 0) 1 false, g := some (3, true) }, { o := .bin .neq (.l 2) (.l 0), g := some (4, true) }, { o := .pk (.l 5) (.l 0) (.b false) }, { o := .mv (.l 0), d := some 4 }] []) .ret) .skip)))))) (.seq (.reg [{ o := .mv (.b false), d := some 4 }] []) .ret)))), res := [(4, none)] }
/-- /firing.Due -/
def firing_Due : Fn := { nargs := 3, vars := [0, 1, 2, 3, 4, 6, 18, 19], body := (.seq (.reg [{ o := .bx (.v 0) 3, d := some 3 }, { o := .bx (.v 1) 4, d := some 4 }, { o := .mv (.i 0), d := some 5 }] []) (.seq (.ite [{ o := .ld (.v 3) 3 true }, { o := .ld (.v 4) 4 true }, { o := .ca N.firing_Valid 0 [] [.l 1, .l 0] }, { o := .un .not (.l 0) }, { o := .mv (.l 0) }, { o := .mv (.v 2), g := some (0, false) }, { o := .fa (.v 4) 3, g := some (1, false) }, { o := .ld (.l 0) 1 false, g := some (2, false) }, { o := .bin .lss (.l 2) (.l 0), g := some (3, false) }, { o := .pk (.l 4) (.b true) (.l 0) }] [] 0 (.seq (.reg [{ o := .mv (.i 0), d := some 5 }] []) .ret) .skip) (.seq (.seq (.reg [{ o := .fa (.v 4) 0 }, { o := .ld (.l 0) 1 false, d := some 6 }] []) (.blk 0 (.seq (.seq (.reg [{ o := .bin .eql (.v 6) (.i 1) }, { o := .mv (.l 0), d := some 7 }] []) (.itv 7 .skip (.reg [{ o := .bin .eql (.v 6) (.i 2) }, { o := .mv (.l 0), d := some 7 }] []))) (.itv 7 (.seq (.reg [{ o := .fa (.v 3) 1 }, { o := .ld (.l 0) 1 false }, { o := .mv (.v 2) }, { o := .fa (.v 4) 3 }, { o := .ld (.l 0) 1 false }, { o := .bin .sub (.l 2) (.l 0) }, { o := .bin .sub (.l 4) (.l 0) }, { o := .mx [.i 0, .l 0] }, { o := .mv (.l 0), d := some 5 }] []) .ret) (.ite [{ o := .bin .eql (.v 6) (.i 4) }, { o := .mv (.l 0) }] [] 0 (.seq (.reg [{ o := .fa (.v 3) 2 }, { o := .ld (.l 0) 1 false }, { o := .mv (.v 2) }, { o := .fa (.v 4) 3 }, { o := .ld (.l 0) 1 false }, { o := .bin .sub (.l 2) (.l 0) }, { o := .bin .sub (.l 4) (.l 0) }, { o := .mx [.i 0, .l 0] }, { o := .mv (.l 0), d := some 5 }] []) .ret) .skip))))) (.seq (.reg [{ o := .mv (.i 0), d := some 5 }] []) .ret)))), res := [(5, none)] }
def ref32_Border_l1b : C := (.seq (.ite [{ o := .mv (.v 5) }, { o := .fa (.v 2) 1 }, { o := .ld (.l 0) 1 false }, { o := .ln (.l 0) }, { o := .bin .lss (.l 3) (.l 0) }] [] 0 .skip (.exit 0)) (.seq (.blk 1 (.seq (.reg [{ o := .fa (.v 2) 1 }, { o := .ld (.l 0) 1 false }, { o := .mv (.v 5) }, { o := .ia (.l 1) (.l 0) 10 }, { o := .ld (.l 0) 10 true }, { o := .al [.t (.int .i64 (0)), .t (.int .i64 (0)), .t (.int .i64 (0)), .t (.int .i64 (0)), .t (.bool false), .t (.bool false), .t (.int .i64 (0)), .t (.int .i64 (0)), .t (.int .i64 (0)), .t (.int .i64 (0))] [], d := some 6 }, { o := .st (.l 0) (.l 1) 10 [] }] []) (.seq (.reg [{ o := .ld (.v 2) 2 true }, { o := .mv (.v 5) }, { o := .ca N.ref03_Time 0 [] [.l 1, .l 0, .b false] }, { o := .bin .geq (.l 0) (.i 0) }, { o := .mv (.l 0) }, { o := .ld (.v 2) 2 true, g := some (0, false) }, { o := .mv (.v 5), g := some (1, false) }, { o := .ca N.ref03_Time 0 [] [.l 1, .l 0, .b true], g := some (2, false) }, { o := .bin .geq (.l 0) (.i 0), g := some (3, false) }, { o := .pk (.l 4) (.b true) (.l 0) }, { o := .mv (.l 0), d := some 7 }] []) (.ite [{ o := .fa (.v 6) 5 }, { o := .ld (.l 0) 1 false }, { o := .un .not (.l 0) }, { o := .mv (.l 0) }, { o := .mv (.v 7), g := some (0, true) }, { o := .pk (.l 1) (.l 0) (.b false) }, { o := .mv (.l 0) }, { o := .mv (.v 1), g := some (0, true) }, { o := .fa (.v 6) 0, g := some (1, true) }, { o := .ld (.l 0) 1 false, g := some (2, true) }, { o := .ca N.ref23_Has 0 [] [.l 2, .l 0], g := some (3, true) }, { o := .mv (.v 1), g := some (4, true) }, { o := .fa (.v 6) 1, g := some (5, true) }, { o := .ld (.l 0) 1 false, g := some (6, true) }, { o := .ca N.ref23_Has 0 [] [.l 2, .l 0], g := some (7, true) }, { o := .eqk (.bool) true (.l 4) (.l 0), g := some (8, true) }, { o := .pk (.l 9) (.l 0) (.b false) }] [(13, 0)] 0 (.reg [{ o := .mv (.v 4) }, { o := .mv (.v 5) }, { o := .bs [.l 0] 1 }, { o := .app (.l 2) (.l 0) true 1 }, { o := .mv (.l 0), d := some 4 }] []) .skip)))) (.reg [{ o := .mv (.v 5) }, { o := .bin .add (.l 0) (.i 1) }, { o := .mv (.l 0), d := some 5 }] [])))
def ref32_Border_l1 : C := .loop true [0, 3, 6, 7] K.ref32_Border_l1b
/-- /ref32.Border -/
def ref32_Border : Fn := { nargs := 2, vars := [0, 1, 2, 4, 5, 6, 7, 8], body := (.seq (.reg [{ o := .bx (.v 0) 2, d := some 2 }, { o := .mv (.c (.nil)), d := some 3 }] []) (.seq (.reg [{ o := .nw 1, d := some 4 }] []) (.seq (.seq (.reg [{ o := .mv (.i 0), d := some 5 }] []) (.blk 0 K.ref32_Border_l1)) (.seq (.reg [{ o := .mv (.v 4) }, { o := .mv (.l 0), d := some 3 }] []) .ret)))), res := [(3, none)] }
def ref32_Seal_l2b : C := (.seq (.ite [{ o := .mv (.v 12) }, { o := .fa (.v 10) 0 }, { o := .ld (.l 0) 1 false }, { o := .mv (.v 11) }, { o := .ia (.l 1) (.l 0) 2 }, { o := .fa (.l 0) 1 }, { o := .ld (.l 0) 1 false }, { o := .ln (.l 0) }, { o := .bin .lss (.l 7) (.l 0) }] [] 0 .skip (.exit 2)) (.seq (.blk 3 (.seq (.reg [{ o := .fa (.v 10) 0 }, { o := .ld (.l 0) 1 false }, { o := .mv (.v 11) }, { o := .ia (.l 1) (.l 0) 2 }, { o := .fa (.l 0) 1 }, { o := .ld (.l 0) 1 false }, { o := .mv (.v 12) }, { o := .ia (.l 1) (.l 0) 2 }, { o := .ld (.l 0) 2 true }, { o := .al [.t (.int .i64 (0)), .nil] [], d := some 13 }, { o := .st (.l 0) (.l 1) 2 [] }] []) (.seq (.ite [{ o := .mv (.v 3) }, { o := .fa (.v 13) 0 }, { o := .ld (.l 0) 1 false }, { o := .bin .lss (.l 2) (.l 0) }, { o := .mv (.l 0) }, { o := .mv (.v 3), g := some (0, false) }, { o := .bin .gtr (.l 0) (.i 2147483648), g := some (1, false) }, { o := .pk (.l 2) (.b true) (.l 0) }] [] 0 (.seq (.reg [{ o := .ld (.v 5) 1 true }, { o := .st (.v 6) (.l 0) 1 [] }, { o := .mv (.i 8), d := some 7 }] []) .ret) .skip) (.reg [{ o := .fa (.v 10) 0 }, { o := .ld (.l 0) 1 false }, { o := .mv (.v 11) }, { o := .ia (.l 1) (.l 0) 2 }, { o := .fa (.l 0) 1 }, { o := .ld (.l 0) 1 false }, { o := .mv (.v 12) }, { o := .ld (.v 8) 2 true }, { o := .ld (.v 13) 2 true }, { o := .mv (.v 3) }, { o := .ca N.ref32_seal 0 [] [.l 2, .l 1, .l 0] }, { o := .ia (.l 5) (.l 4) 2 }, { o := .st (.l 0) (.l 1) 2 [] }] [(1, 11), (3, 11), (5, 11)])))) (.reg [{ o := .mv (.v 12) }, { o := .bin .add (.l 0) (.i 1) }, { o := .mv (.l 0), d := some 12 }] [])))
def ref32_Seal_l2 : C := .loop false [0, 1, 2, 4, 7, 9, 13] K.ref32_Seal_l2b
def ref32_Seal_l1b : C := (.seq (.ite [{ o := .mv (.v 11) }, { o := .fa (.v 10) 0 }, { o := .ld (.l 0) 1 false }, { o := .ln (.l 0) }, { o := .bin .lss (.l 3) (.l 0) }] [] 0 .skip (.exit 0)) (.seq (.blk 1 (.seq (.reg [{ o := .mv (.i 0), d := some 12 }] []) (.blk 2 K.ref32_Seal_l2))) (.reg [{ o := .mv (.v 11) }, { o := .bin .add (.l 0) (.i 1) }, { o := .mv (.l 0), d := some 11 }] [])))
def ref32_Seal_l1 : C := .loop false [0, 1, 2, 4, 7, 9, 12, 13] K.ref32_Seal_l1b
/-- /ref32.Seal -/
def ref32_Seal : Fn := { nargs := 4, vars := [0, 1, 2, 3, 4, 5, 8, 9, 10, 11, 12, 13, 14, 15], body := (.seq (.reg [{ o := .bx (.v 0) 2, d := some 4 }, { o := .bx (.v 1) 1, d := some 5 }, { o := .al [.nil] [], d := some 6 }, { o := .mv (.i 0), d := some 7 }] []) (.seq (.reg [{ o := .ld (.v 5) 1 true }, { o := .ca N.ref26_Copy_v1 2 [] [.l 0] }, { o := .st (.v 5) (.l 0) 1 [] }] []) (.seq (.ite [{ o := .ld (.v 4) 2 true }, { o := .ld (.v 5) 1 true }, { o := .ca N.ref26_Valid 0 [] [.l 1, .l 0] }, { o := .un .not (.l 0) }] [] 0 (.seq (.reg [{ o := .ld (.v 5) 1 true }, { o := .st (.v 6) (.l 0) 1 [] }, { o := .mv (.i 6), d := some 7 }] []) .ret) .skip) (.seq (.reg [{ o := .ld (.v 4) 2 true }, { o := .mv (.v 2) }, { o := .ca N.ref32_Barred 0 [] [.l 1, .l 0] }, { o := .mv (.l 0) }, { o := .ex (.l 0) 0 }, { o := .ex (.l 1) 1 }, { o := .al [.nil, .nil] [], d := some 8 }, { o := .st (.l 0) (.l 2) 2 [] }, { o := .mv (.l 2), d := some 9 }] []) (.seq (.ite [{ o := .mv (.v 9) }, { o := .bin .neq (.l 0) (.i 0) }] [] 0 (.seq (.reg [{ o := .ld (.v 5) 1 true }, { o := .mv (.v 9) }, { o := .st (.v 6) (.l 1) 1 [] }, { o := .mv (.l 1), d := some 7 }] []) .ret) .skip) (.seq (.reg [{ o := .ld (.v 5) 1 true }, { o := .ca N.ref26_Copy_v1 2 [] [.l 0] }, { o := .al [.nil] [], d := some 10 }, { o := .st (.l 0) (.l 1) 1 [] }] []) (.seq (.seq (.reg [{ o := .mv (.i 0), d := some 11 }] []) (.blk 0 K.ref32_Seal_l1)) (.seq (.reg [{ o := .fa (.v 10) 0 }, { o := .ld (.l 0) 1 false }, { o := .ca N.ref26_Tidy 0 [] [.l 0] }, { o := .fa (.v 10) 0 }, { o := .st (.l 0) (.l 1) 1 [] }] []) (.seq (.reg [{ o := .ld (.v 10) 1 true }, { o := .st (.v 6) (.l 0) 1 [] }, { o := .mv (.i 0), d := some 7 }] []) .ret))))))))), res := [(6, some (1, true)), (7, none)] }
def made_Last_l2b : C := (.seq (.ite [{ o := .mv (.v 5) }, { o := .fa (.v 1) 0 }, { o := .ld (.l 0) 1 false }, { o := .mv (.v 4) }, { o := .ia (.l 1) (.l 0) 2 }, { o := .fa (.l 0) 1 }, { o := .ld (.l 0) 1 false }, { o := .ln (.l 0) }, { o := .bin .lss (.l 7) (.l 0) }] [] 0 .skip (.exit 2)) (.seq (.blk 3 (.reg [{ o := .mv (.v 3) }, { o := .fa (.v 1) 0 }, { o := .ld (.l 0) 1 false }, { o := .mv (.v 4) }, { o := .ia (.l 1) (.l 0) 2 }, { o := .fa (.l 0) 1 }, { o := .ld (.l 0) 1 false }, { o := .mv (.v 5) }, { o := .ia (.l 1) (.l 0) 2 }, { o := .fa (.l 0) 0 }, { o := .ld (.l 0) 1 false }, { o := .mx [.l 10, .l 0] }, { o := .mv (.l 0), d := some 3 }] [])) (.reg [{ o := .mv (.v 5) }, { o := .bin .add (.l 0) (.i 1) }, { o := .mv (.l 0), d := some 5 }] [])))
def made_Last_l2 : C := .loop true [0, 2] K.made_Last_l2b
def made_Last_l1b : C := (.seq (.ite [{ o := .mv (.v 4) }, { o := .fa (.v 1) 0 }, { o := .ld (.l 0) 1 false }, { o := .ln (.l 0) }, { o := .bin .lss (.l 3) (.l 0) }] [] 0 .skip (.exit 0)) (.seq (.blk 1 (.seq (.reg [{ o := .mv (.i 0), d := some 5 }] []) (.blk 2 K.made_Last_l2))) (.reg [{ o := .mv (.v 4) }, { o := .bin .add (.l 0) (.i 1) }, { o := .mv (.l 0), d := some 4 }] [])))
def made_Last_l1 : C := .loop true [0, 2, 5] K.made_Last_l1b
/-- /made.Last -/
def made_Last : Fn := { nargs := 1, vars := [0, 1, 2, 3, 4, 5], body := (.seq (.reg [{ o := .bx (.v 0) 1, d := some 1 }, { o := .mv (.i 0), d := some 2 }] []) (.seq (.reg [{ o := .mv (.i 0), d := some 3 }] []) (.seq (.seq (.reg [{ o := .mv (.i 0), d := some 4 }] []) (.blk 0 K.made_Last_l1)) (.seq (.reg [{ o := .mv (.v 3) }, { o := .mv (.l 0), d := some 2 }] []) .ret)))), res := [(2, none)] }
/-- /ref34.Arm -/
def ref34_Arm : Fn := { nargs := 6, vars := [0, 1, 2, 3, 4, 5, 6, 7, 8, 9, 12, 13, 14], body := (.seq (.reg [{ o := .bx (.v 0) 3, d := some 6 }, { o := .bx (.v 1) 4, d := some 7 }, { o := .bx (.v 2) 3, d := some 8 }, { o := .bx (.v 3) 1, d := some 9 }, { o := .al [.t (.int .i64 (0)), .t (.int .i64 (0)), .t (.int .i64 (0)), .t (.int .i64 (0))] [], d := some 10 }, { o := .mv (.i 0), d := some 11 }] []) (.seq (.seq (.reg [{ o := .ld (.v 6) 3 true }, { o := .ld (.v 7) 4 true }, { o := .ld (.v 8) 3 true }, { o := .ld (.v 9) 1 true }, { o := .mv (.v 4) }, { o := .mv (.v 5) }, { o := .ca N.ref34_step 0 [] [.l 5, .l 4, .l 3, .l 2, .i 0, .l 1, .l 0] }, { o := .mv (.l 0), d := some 12 }] []) (.ite [{ o := .mv (.v 12) }, { o := .bin .neq (.l 0) (.i 0) }] [] 0 (.seq (.reg [{ o := .ld (.v 7) 4 true }, { o := .mv (.v 12) }, { o := .st (.v 10) (.l 1) 4 [] }, { o := .mv (.l 1), d := some 11 }] []) .ret) .skip)) (.seq (.reg [{ o := .mv (.v 4) }, { o := .mv (.v 5) }, { o := .bd [.t (.int .i64 (0)), .t (.int .i64 (0)), .t (.int .i64 (0)), .t (.int .i64 (0))] [(0, 1, .i 1), (1, 1, .l 1), (3, 1, .l 0)] }, { o := .st (.v 10) (.l 0) 4 [] }, { o := .mv (.i 0), d := some 11 }] []) .ret))), res := [(10, some (4, true)), (11, none)] }
/-- /ref34.Agree -/
def ref34_Agree : Fn := { nargs := 6, vars := [0, 1, 2, 3, 4, 5, 6, 7, 8, 9, 12, 13, 14], body := (.seq (.reg [{ o := .bx (.v 0) 3, d := some 6 }, { o := .bx (.v 1) 4, d := some 7 }, { o := .bx (.v 2) 3, d := some 8 }, { o := .bx (.v 3) 1, d := some 9 }, { o := .al [.t (.int .i64 (0)), .t (.int .i64 (0)), .t (.int .i64 (0)), .t (.int .i64 (0))] [], d := some 10 }, { o := .mv (.i 0), d := some 11 }] []) (.seq (.seq (.reg [{ o := .ld (.v 6) 3 true }, { o := .ld (.v 7) 4 true }, { o := .ld (.v 8) 3 true }, { o := .ld (.v 9) 1 true }, { o := .mv (.v 4) }, { o := .mv (.v 5) }, { o := .ca N.ref34_step 0 [] [.l 5, .l 4, .l 3, .l 2, .i 1, .l 1, .l 0] }, { o := .mv (.l 0), d := some 12 }] []) (.ite [{ o := .mv (.v 12) }, { o := .bin .neq (.l 0) (.i 0) }] [] 0 (.seq (.reg [{ o := .ld (.v 7) 4 true }, { o := .mv (.v 12) }, { o := .st (.v 10) (.l 1) 4 [] }, { o := .mv (.l 1), d := some 11 }] []) .ret) .skip)) (.seq (.reg [{ o := .fa (.v 7) 1 }, { o := .ld (.l 0) 1 false }, { o := .mv (.v 4) }, { o := .mv (.v 5) }, { o := .bd [.t (.int .i64 (0)), .t (.int .i64 (0)), .t (.int .i64 (0)), .t (.int .i64 (0))] [(0, 1, .i 2), (1, 1, .l 2), (2, 1, .l 1), (3, 1, .l 0)] }, { o := .st (.v 10) (.l 0) 4 [] }, { o := .mv (.i 0), d := some 11 }] []) .ret))), res := [(10, some (4, true)), (11, none)] }
/-- /ref34.Fire -/
def ref34_Fire : Fn := { nargs := 6, vars := [0, 1, 2, 3, 4, 5, 6, 7, 8, 9, 12, 13, 14], body := (.seq (.reg [{ o := .bx (.v 0) 3, d := some 6 }, { o := .bx (.v 1) 4, d := some 7 }, { o := .bx (.v 2) 3, d := some 8 }, { o := .bx (.v 3) 1, d := some 9 }, { o := .al [.t (.int .i64 (0)), .t (.int .i64 (0)), .t (.int .i64 (0)), .t (.int .i64 (0))] [], d := some 10 }, { o := .mv (.i 0), d := some 11 }] []) (.seq (.seq (.reg [{ o := .ld (.v 6) 3 true }, { o := .ld (.v 7) 4 true }, { o := .ld (.v 8) 3 true }, { o := .ld (.v 9) 1 true }, { o := .mv (.v 4) }, { o := .ca N.ref34_step 0 [] [.l 4, .l 3, .l 2, .l 1, .i 2, .i 1, .l 0] }, { o := .mv (.l 0), d := some 12 }] []) (.ite [{ o := .mv (.v 12) }, { o := .bin .neq (.l 0) (.i 0) }] [] 0 (.seq (.reg [{ o := .ld (.v 7) 4 true }, { o := .mv (.v 12) }, { o := .st (.v 10) (.l 1) 4 [] }, { o := .mv (.l 1), d := some 11 }] []) .ret) .skip)) (.seq (.reg [{ o := .mv (.v 4) }, { o := .fa (.v 7) 0 }, { o := .st (.l 0) (.i 3) 1 [] }, { o := .fa (.v 7) 3 }, { o := .st (.l 0) (.l 3) 1 [] }] []) (.seq (.ite [{ o := .mv (.v 5) }] [] 0 (.reg [{ o := .fa (.v 7) 0 }, { o := .st (.l 0) (.i 4) 1 [] }] []) .skip) (.seq (.reg [{ o := .ld (.v 7) 4 true }, { o := .st (.v 10) (.l 0) 4 [] }, { o := .mv (.i 0), d := some 11 }] []) .ret))))), res := [(10, some (4, true)), (11, none)] }
/-- /ref34.Abort -/
def ref34_Abort : Fn := { nargs := 3, vars := [0, 1, 2, 3, 4, 6, 7], body := (.seq (.reg [{ o := .bx (.v 0) 3, d := some 3 }, { o := .bx (.v 1) 4, d := some 4 }, { o := .al [.t (.int .i64 (0)), .t (.int .i64 (0)), .t (.int .i64 (0)), .t (.int .i64 (0))] [], d := some 5 }, { o := .mv (.i 0), d := some 6 }] []) (.seq (.blk 0 (.ite [{ o := .ld (.v 3) 3 true }, { o := .ld (.v 4) 4 true }, { o := .ca N.ref34_Valid 0 [] [.l 1, .l 0] }, { o := .un .not (.l 0) }, { o := .mv (.l 0) }] [] 0 (.seq (.reg [{ o := .ld (.v 4) 4 true }, { o := .st (.v 5) (.l 0) 4 [] }, { o := .mv (.i 6), d := some 6 }] []) .ret) (.ite [{ o := .fa (.v 4) 0 }, { o := .ld (.l 0) 1 false }, { o := .bin .eql (.l 0) (.i 0) }, { o := .mv (.l 0) }] [] 0 (.seq (.reg [{ o := .ld (.v 4) 4 true }, { o := .st (.v 5) (.l 0) 4 [] }, { o := .mv (.i 10), d := some 6 }] []) .ret) (.ite [{ o := .mv (.v 2) }, { o := .bin .lss (.l 0) (.i 0) }, { o := .mv (.l 0) }, { o := .mv (.v 2), g := some (0, false) }, { o := .bin .gtr (.l 0) (.i 2147483648), g := some (1, false) }, { o := .pk (.l 2) (.b true) (.l 0) }, { o := .mv (.l 0) }, { o := .mv (.v 2), g := some (0, false) }, { o := .fa (.v 4) 3, g := some (1, false) }, { o := .ld (.l 0) 1 false, g := some (2, false) }, { o := .bin .lss (.l 2) (.l 0), g := some (3, false) }, { o := .pk (.l 4) (.b true) (.l 0) }, { o := .mv (.l 0) }] [] 0 (.seq (.reg [{ o := .ld (.v 4) 4 true }, { o := .st (.v 5) (.l 0) 4 [] }, { o := .mv (.i 8), d := some 6 }] []) .ret) (.ite [{ o := .fa (.v 4) 0 }, { o := .ld (.l 0) 1 false }, { o := .bin .eql (.l 0) (.i 4) }, { o := .mv (.l 0) }, { o := .mv (.v 2), g := some (0, true) }, { o := .fa (.v 4) 3, g := some (1, true) }, { o := .ld (.l 0) 1 false, g := some (2, true) }, { o := .bin .sub (.l 2) (.l 0), g := some (3, true) }, { o := .fa (.v 3) 2, g := some (4, true) }, { o := .ld (.l 0) 1 false, g := some (5, true) }, { o := .bin .lss (.l 2) (.l 0), g := some (6, true) }, { o := .pk (.l 7) (.l 0) (.b false) }, { o := .mv (.l 0) }] [] 0 (.seq (.reg [{ o := .ld (.v 4) 4 true }, { o := .st (.v 5) (.l 0) 4 [] }, { o := .mv (.i 10), d := some 6 }] []) .ret) .skip))))) (.seq (.reg [{ o := .bd [.t (.int .i64 (0)), .t (.int .i64 (0)), .t (.int .i64 (0)), .t (.int .i64 (0))] [] }, { o := .st (.v 5) (.l 0) 4 [] }, { o := .mv (.i 0), d := some 6 }] []) .ret))), res := [(5, some (4, true)), (6, none)] }
end Go.Ev.K
namespace Go.Ev
class Has3 [Lib] : Prop where
  t_law34_FiringRaw : Lib.fs N.law34_FiringRaw = some K.law34_FiringRaw
  t_law34_FiringMade : Lib.fs N.law34_FiringMade = some K.law34_FiringMade
  t_law34_FiringNeeds : Lib.fs N.law34_FiringNeeds = some K.law34_FiringNeeds
  t_law34_awake : Lib.fs N.law34_awake = some K.law34_awake
  t_made_Dice_Ints : Lib.fs N.made_Dice_Ints = some K.made_Dice_Ints
  t_law34_scene : Lib.fs N.law34_scene = some K.law34_scene
  t_law34_agree : Lib.fs N.law34_agree = some K.law34_agree
  t_law34_ready : Lib.fs N.law34_ready = some K.law34_ready
  t_firing_Arm : Lib.fs N.firing_Arm = some K.firing_Arm
  t_firing_Agree : Lib.fs N.firing_Agree = some K.firing_Agree
  t_firing_Fire : Lib.fs N.firing_Fire = some K.firing_Fire
  t_firing_Abort : Lib.fs N.firing_Abort = some K.firing_Abort
  t_firing_Valid : Lib.fs N.firing_Valid = some K.firing_Valid
  t_firing_Due : Lib.fs N.firing_Due = some K.firing_Due
  t_ref32_Border : Lib.fs N.ref32_Border = some K.ref32_Border
  t_ref32_Seal : Lib.fs N.ref32_Seal = some K.ref32_Seal
  t_made_Last : Lib.fs N.made_Last = some K.made_Last
  t_ref34_Arm : Lib.fs N.ref34_Arm = some K.ref34_Arm
  t_ref34_Agree : Lib.fs N.ref34_Agree = some K.ref34_Agree
  t_ref34_Fire : Lib.fs N.ref34_Fire = some K.ref34_Fire
  t_ref34_Abort : Lib.fs N.ref34_Abort = some K.ref34_Abort
namespace K
variable [Lib] [Has3]
theorem t_law34_FiringRaw : Lib.fs N.law34_FiringRaw = some K.law34_FiringRaw := Has3.t_law34_FiringRaw
theorem t_law34_FiringMade : Lib.fs N.law34_FiringMade = some K.law34_FiringMade := Has3.t_law34_FiringMade
theorem t_law34_FiringNeeds : Lib.fs N.law34_FiringNeeds = some K.law34_FiringNeeds := Has3.t_law34_FiringNeeds
theorem t_law34_awake : Lib.fs N.law34_awake = some K.law34_awake := Has3.t_law34_awake
theorem t_made_Dice_Ints : Lib.fs N.made_Dice_Ints = some K.made_Dice_Ints := Has3.t_made_Dice_Ints
theorem t_law34_scene : Lib.fs N.law34_scene = some K.law34_scene := Has3.t_law34_scene
theorem t_law34_agree : Lib.fs N.law34_agree = some K.law34_agree := Has3.t_law34_agree
theorem t_law34_ready : Lib.fs N.law34_ready = some K.law34_ready := Has3.t_law34_ready
theorem t_firing_Arm : Lib.fs N.firing_Arm = some K.firing_Arm := Has3.t_firing_Arm
theorem t_firing_Agree : Lib.fs N.firing_Agree = some K.firing_Agree := Has3.t_firing_Agree
theorem t_firing_Fire : Lib.fs N.firing_Fire = some K.firing_Fire := Has3.t_firing_Fire
theorem t_firing_Abort : Lib.fs N.firing_Abort = some K.firing_Abort := Has3.t_firing_Abort
theorem t_firing_Valid : Lib.fs N.firing_Valid = some K.firing_Valid := Has3.t_firing_Valid
theorem t_firing_Due : Lib.fs N.firing_Due = some K.firing_Due := Has3.t_firing_Due
theorem t_ref32_Border : Lib.fs N.ref32_Border = some K.ref32_Border := Has3.t_ref32_Border
theorem t_ref32_Seal : Lib.fs N.ref32_Seal = some K.ref32_Seal := Has3.t_ref32_Seal
theorem t_made_Last : Lib.fs N.made_Last = some K.made_Last := Has3.t_made_Last
theorem t_ref34_Arm : Lib.fs N.ref34_Arm = some K.ref34_Arm := Has3.t_ref34_Arm
theorem t_ref34_Agree : Lib.fs N.ref34_Agree = some K.ref34_Agree := Has3.t_ref34_Agree
theorem t_ref34_Fire : Lib.fs N.ref34_Fire = some K.ref34_Fire := Has3.t_ref34_Fire
theorem t_ref34_Abort : Lib.fs N.ref34_Abort = some K.ref34_Abort := Has3.t_ref34_Abort
end K
end Go.Ev

