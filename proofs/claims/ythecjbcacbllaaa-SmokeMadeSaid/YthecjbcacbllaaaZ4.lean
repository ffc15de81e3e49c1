/- Parts of the proof: see the text that holds the theorem. -/
import Derived.Test.YthecjbcacbllaaaZ3
set_option linter.all false
set_option maxRecDepth 100000
/- MADE BY PROGRAM (lib.py): the compact code of functions. -/
namespace Go.Ev.K
open Go.Ev
def ref26_Copy_l1b : C := (.seq (.ite [{ o := .mv (.v 4) }, { o := .fa (.v 1) 0 }, { o := .ld (.l 0) 1 false }, { o := .ln (.l 0) }, { o := .bin .lss (.l 3) (.l 0) }] [] 0 .skip (.exit 0)) (.seq (.blk 1 (.reg [{ o := .fa (.v 3) 0 }, { o := .ld (.l 0) 1 false }, { o := .fa (.v 1) 0 }, { o := .ld (.l 0) 1 false }, { o := .mv (.v 4) }, { o := .ia (.l 1) (.l 0) 2 }, { o := .ld (.l 0) 2 true }, { o := .ca N.ref26_CopyWorld 0 [] [.l 0] }, { o := .bs [.l 0] 2 }, { o := .app (.l 7) (.l 0) true 2 }, { o := .fa (.v 3) 0 }, { o := .st (.l 0) (.l 1) 1 [] }] [(1, 8), (1, 9)])) (.reg [{ o := .mv (.v 4) }, { o := .bin .add (.l 0) (.i 1) }, { o := .mv (.l 0), d := some 4 }] [])))
def ref26_Copy_l1 : C := .loop true [0] K.ref26_Copy_l1b
/-- /ref26.Copy -/
def ref26_Copy : Fn := { nargs := 1, vars := [0, 1, 2, 3, 4], body := (.seq (.reg [{ o := .bx (.v 0) 1, d := some 1 }, { o := .al [.nil] [], d := some 2 }] []) (.seq (.reg [{ o := .al [.nil] [(0, 2)], d := some 3 }] []) (.seq (.seq (.reg [{ o := .mv (.i 0), d := some 4 }] []) (.blk 0 K.ref26_Copy_l1)) (.seq (.reg [{ o := .ld (.v 3) 1 true }, { o := .st (.v 2) (.l 0) 1 [] }] []) .ret)))), res := [(2, some (1, true))] }
def ref26_Valid_l2b : C := (.seq (.ite [{ o := .mv (.v 8) }, { o := .fa (.v 7) 0 }, { o := .ld (.l 0) 1 false }, { o := .ln (.l 0) }, { o := .bin .lss (.l 3) (.l 0) }] [] 0 .skip (.exit 2)) (.seq (.blk 3 (.ite [{ o := .mv (.v 5) }, { o := .fa (.v 7) 0 }, { o := .ld (.l 0) 1 false }, { o := .mv (.v 8) }, { o := .ia (.l 1) (.l 0) 1 }, { o := .ld (.l 0) 1 false }, { o := .ca N.ref26_bearer 0 [] [.l 5, .l 0] }, { o := .bin .lss (.l 0) (.i 0) }, { o := .mv (.l 0) }, { o := .ld (.v 2) 2 true, g := some (0, false) }, { o := .fa (.v 7) 1, g := some (1, false) }, { o := .ld (.l 0) 1 false, g := some (2, false) }, { o := .mv (.v 8), g := some (3, false) }, { o := .ia (.l 1) (.l 0) 2, g := some (4, false) }, { o := .ld (.l 0) 2 true, g := some (5, false) }, { o := .ca N.ref25_Valid 0 [] [.l 5, .l 0], g := some (6, false) }, { o := .un .not (.l 0), g := some (7, false) }, { o := .pk (.l 8) (.b true) (.l 0) }] [] 0 (.seq (.reg [{ o := .mv (.b false), d := some 4 }] []) .ret) .skip)) (.reg [{ o := .mv (.v 8) }, { o := .bin .add (.l 0) (.i 1) }, { o := .mv (.l 0), d := some 8 }] [])))
def ref26_Valid_l2 : C := .loop true [0, 1, 4] K.ref26_Valid_l2b
def ref26_Valid_l1b : C := (.seq (.ite [{ o := .mv (.v 6) }, { o := .fa (.v 3) 0 }, { o := .ld (.l 0) 1 false }, { o := .ln (.l 0) }, { o := .bin .lss (.l 3) (.l 0) }] [] 0 .skip (.exit 0)) (.seq (.blk 1 (.seq (.reg [{ o := .fa (.v 3) 0 }, { o := .ld (.l 0) 1 false }, { o := .mv (.v 6) }, { o := .ia (.l 1) (.l 0) 2 }, { o := .ld (.l 0) 2 true }, { o := .al [.nil, .nil] [], d := some 7 }, { o := .st (.l 0) (.l 1) 2 [] }] []) (.seq (.ite [{ o := .fa (.v 7) 0 }, { o := .ld (.l 0) 1 false }, { o := .ln (.l 0) }, { o := .mv (.v 5) }, { o := .ln (.l 0) }, { o := .bin .neq (.l 2) (.l 0) }, { o := .mv (.l 0) }, { o := .fa (.v 7) 1, g := some (0, false) }, { o := .ld (.l 0) 1 false, g := some (1, false) }, { o := .ln (.l 0), g := some (2, false) }, { o := .mv (.v 5), g := some (3, false) }, { o := .ln (.l 0), g := some (4, false) }, { o := .bin .neq (.l 2) (.l 0), g := some (5, false) }, { o := .pk (.l 6) (.b true) (.l 0) }, { o := .mv (.l 0) }, { o := .fa (.v 7) 0, g := some (0, false) }, { o := .ld (.l 0) 1 false, g := some (1, false) }, { o := .ca N.ref26_proper 0 [] [.l 0], g := some (2, false) }, { o := .un .not (.l 0), g := some (3, false) }, { o := .pk (.l 4) (.b true) (.l 0) }, { o := .mv (.l 0) }, { o := .mv (.v 6), g := some (0, false) }, { o := .bin .gtr (.l 0) (.i 0), g := some (1, false) }, { o := .mv (.l 0), g := some (2, false) }, { o := .fa (.v 3) 0, g := some (0, true) }, { o := .ld (.l 0) 1 false, g := some (1, true) }, { o := .mv (.v 6), g := some (2, true) }, { o := .bin .sub (.l 0) (.i 1), g := some (3, true) }, { o := .ia (.l 2) (.l 0) 2, g := some (4, true) }, { o := .fa (.l 0) 0, g := some (5, true) }, { o := .ld (.l 0) 1 false, g := some (6, true) }, { o := .fa (.v 7) 0, g := some (7, true) }, { o := .ld (.l 0) 1 false, g := some (8, true) }, { o := .ca N.ref26_Less 0 [] [.l 2, .l 0], g := some (9, true) }, { o := .un .not (.l 0), g := some (10, true) }, { o := .pk (.l 11) (.l 0) (.b false), g := some (14, false) }, { o := .pk (.l 15) (.b true) (.l 0) }] [] 0 (.seq (.reg [{ o := .mv (.b false), d := some 4 }] []) .ret) .skip) (.seq (.reg [{ o := .mv (.i 0), d := some 8 }] []) (.blk 2 K.ref26_Valid_l2))))) (.reg [{ o := .mv (.v 6) }, { o := .bin .add (.l 0) (.i 1) }, { o := .mv (.l 0), d := some 6 }] [])))
def ref26_Valid_l1 : C := .loop true [0, 1, 4, 7, 8] K.ref26_Valid_l1b
/-- /ref26.Valid -/
def ref26_Valid : Fn := { nargs := 2, vars := [0, 1, 2, 3, 4, 5, 6, 7, 8], body := (.seq (.reg [{ o := .bx (.v 0) 2, d := some 2 }, { o := .bx (.v 1) 1, d := some 3 }, { o := .mv (.b false), d := some 4 }] []) (.seq (.ite [{ o := .fa (.v 3) 0 }, { o := .ld (.l 0) 1 false }, { o := .ln (.l 0) }, { o := .bin .lss (.l 0) (.i 1) }, { o := .mv (.l 0) }, { o := .fa (.v 3) 0, g := some (0, false) }, { o := .ld (.l 0) 1 false, g := some (1, false) }, { o := .ln (.l 0), g := some (2, false) }, { o := .bin .gtr (.l 0) (.i 24), g := some (3, false) }, { o := .pk (.l 4) (.b true) (.l 0) }, { o := .mv (.l 0) }, { o := .ld (.v 2) 2 true, g := some (0, false) }, { o := .ca N.ref01_Check 0 [] [.l 0], g := some (1, false) }, { o := .bin .neq (.l 0) (.i 0), g := some (2, false) }, { o := .pk (.l 3) (.b true) (.l 0) }] [] 0 (.seq (.reg [{ o := .mv (.b false), d := some 4 }] []) .ret) .skip) (.seq (.reg [{ o := .fa (.v 3) 0 }, { o := .ld (.l 0) 1 false }, { o := .ia (.l 0) (.i 0) 2 }, { o := .fa (.l 0) 0 }, { o := .ld (.l 0) 1 false }, { o := .mv (.l 0), d := some 5 }] []) (.seq (.ite [{ o := .mv (.v 5) }, { o := .ln (.l 0) }, { o := .bin .lss (.l 0) (.i 1) }, { o := .mv (.l 0) }, { o := .mv (.v 5), g := some (0, false) }, { o := .ln (.l 0), g := some (1, false) }, { o := .bin .gtr (.l 0) (.i 12), g := some (2, false) }, { o := .pk (.l 3) (.b true) (.l 0) }] [] 0 (.seq (.reg [{ o := .mv (.b false), d := some 4 }] []) .ret) .skip) (.seq (.seq (.reg [{ o := .mv (.i 0), d := some 6 }] []) (.blk 0 K.ref26_Valid_l1)) (.seq (.reg [{ o := .mv (.b true), d := some 4 }] []) .ret)))))), res := [(4, none)] }
def ref26_CopyWorld_l1b : C := (.seq (.ite [{ o := .mv (.v 4) }, { o := .fa (.v 1) 1 }, { o := .ld (.l 0) 1 false }, { o := .ln (.l 0) }, { o := .bin .lss (.l 3) (.l 0) }] [] 0 .skip (.exit 0)) (.seq (.blk 1 (.reg [{ o := .fa (.v 3) 1 }, { o := .ld (.l 0) 1 false }, { o := .fa (.v 1) 1 }, { o := .ld (.l 0) 1 false }, { o := .mv (.v 4) }, { o := .ia (.l 1) (.l 0) 2 }, { o := .ld (.l 0) 2 true }, { o := .ca N.ref25_Copy 0 [] [.l 0] }, { o := .bs [.l 0] 2 }, { o := .app (.l 7) (.l 0) true 2 }, { o := .fa (.v 3) 1 }, { o := .st (.l 0) (.l 1) 1 [] }] [(1, 8), (1, 9)])) (.reg [{ o := .mv (.v 4) }, { o := .bin .add (.l 0) (.i 1) }, { o := .mv (.l 0), d := some 4 }] [])))
def ref26_CopyWorld_l1 : C := .loop true [0] K.ref26_CopyWorld_l1b
/-- /ref26.CopyWorld -/
def ref26_CopyWorld : Fn := { nargs := 1, vars := [0, 1, 2, 3, 4], body := (.seq (.reg [{ o := .bx (.v 0) 2, d := some 1 }, { o := .al [.nil, .nil] [], d := some 2 }] []) (.seq (.reg [{ o := .fa (.v 1) 0 }, { o := .ld (.l 0) 1 false }, { o := .app (.c (.nil)) (.l 0) true 1 }, { o := .bd [.nil, .nil] [(0, 1, .l 0)] }, { o := .al [.nil, .nil] [(1, 2)], d := some 3 }, { o := .st (.l 0) (.l 1) 2 [(1, 2)] }] []) (.seq (.seq (.reg [{ o := .mv (.i 0), d := some 4 }] []) (.blk 0 K.ref26_CopyWorld_l1)) (.seq (.reg [{ o := .ld (.v 3) 2 true }, { o := .st (.v 2) (.l 0) 2 [] }] []) .ret)))), res := [(2, some (2, true))] }
def ref26_meet_l1b : C := (.seq (.ite [{ o := .mv (.v 6) }, { o := .fa (.v 3) 1 }, { o := .ld (.l 0) 1 false }, { o := .ln (.l 0) }, { o := .bin .lss (.l 3) (.l 0) }, { o := .mv (.l 0) }, { o := .mv (.v 6), g := some (0, true) }, { o := .fa (.v 4) 1, g := some (1, true) }, { o := .ld (.l 0) 1 false, g := some (2, true) }, { o := .ln (.l 0), g := some (3, true) }, { o := .bin .lss (.l 3) (.l 0), g := some (4, true) }, { o := .pk (.l 5) (.l 0) (.b false) }] [] 0 .skip (.exit 0)) (.seq (.blk 1 (.ite [{ o := .fa (.v 3) 1 }, { o := .ld (.l 0) 1 false }, { o := .mv (.v 6) }, { o := .ia (.l 1) (.l 0) 1 }, { o := .ld (.l 0) 1 false }, { o := .mv (.v 2) }, { o := .bin .leq (.l 1) (.l 0) }, { o := .mv (.l 0) }, { o := .fa (.v 4) 1, g := some (0, true) }, { o := .ld (.l 0) 1 false, g := some (1, true) }, { o := .mv (.v 6), g := some (2, true) }, { o := .ia (.l 1) (.l 0) 1, g := some (3, true) }, { o := .ld (.l 0) 1 false, g := some (4, true) }, { o := .mv (.v 2), g := some (5, true) }, { o := .bin .leq (.l 1) (.l 0), g := some (6, true) }, { o := .pk (.l 7) (.l 0) (.b false) }] [] 0 (.seq (.reg [{ o := .mv (.b true), d := some 5 }] []) .ret) .skip)) (.reg [{ o := .mv (.v 6) }, { o := .bin .add (.l 0) (.i 1) }, { o := .mv (.l 0), d := some 6 }] [])))
def ref26_meet_l1 : C := .loop true [0, 1, 5] K.ref26_meet_l1b
/-- /ref26.meet -/
def ref26_meet : Fn := { nargs := 3, vars := [0, 1, 2, 3, 4, 6, 7], body := (.seq (.reg [{ o := .bx (.v 0) 2, d := some 3 }, { o := .bx (.v 1) 2, d := some 4 }, { o := .mv (.b false), d := some 5 }] []) (.seq (.seq (.reg [{ o := .mv (.i 0), d := some 6 }] []) (.blk 0 K.ref26_meet_l1)) (.seq (.reg [{ o := .mv (.b false), d := some 5 }] []) .ret))), res := [(5, none)] }
/-- /ref25.Raise -/
def ref25_Raise : Fn := { nargs := 2, vars := [0, 1, 2, 4, 5], body := (.seq (.reg [{ o := .bx (.v 0) 2, d := some 2 }, { o := .al [.t (.int .i64 (0)), .nil] [], d := some 3 }, { o := .mv (.i 0), d := some 4 }] []) (.seq (.reg [{ o := .ld (.v 2) 2 true }, { o := .ca N.ref25_Copy 0 [] [.l 0] }, { o := .st (.v 2) (.l 0) 2 [] }] []) (.seq (.ite [{ o := .mv (.v 1) }, { o := .fa (.v 2) 0 }, { o := .ld (.l 0) 1 false }, { o := .bin .lss (.l 2) (.l 0) }, { o := .mv (.l 0) }, { o := .mv (.v 1), g := some (0, false) }, { o := .bin .gtr (.l 0) (.i 2147483648), g := some (1, false) }, { o := .pk (.l 2) (.b true) (.l 0) }] [] 0 (.seq (.reg [{ o := .ld (.v 2) 2 true }, { o := .st (.v 3) (.l 0) 2 [] }, { o := .mv (.i 8), d := some 4 }] []) .ret) .skip) (.seq (.reg [{ o := .mv (.v 1) }, { o := .fa (.v 2) 0 }, { o := .st (.l 0) (.l 1) 1 [] }] []) (.seq (.reg [{ o := .ld (.v 2) 2 true }, { o := .st (.v 3) (.l 0) 2 [] }, { o := .mv (.i 0), d := some 4 }] []) .ret))))), res := [(3, some (2, true)), (4, none)] }
def ref26_Tidy_l2b : C := (.seq (.ite [{ o := .mv (.v 4) }, { o := .mv (.v 2) }, { o := .ln (.l 0) }, { o := .bin .lss (.l 2) (.l 0) }, { o := .mv (.l 0) }, { o := .mv (.v 2), g := some (0, true) }, { o := .mv (.v 4), g := some (1, true) }, { o := .ia (.l 1) (.l 0) 2, g := some (2, true) }, { o := .fa (.l 0) 0, g := some (3, true) }, { o := .ld (.l 0) 1 false, g := some (4, true) }, { o := .mv (.v 0), g := some (5, true) }, { o := .mv (.v 3), g := some (6, true) }, { o := .ia (.l 1) (.l 0) 2, g := some (7, true) }, { o := .fa (.l 0) 0, g := some (8, true) }, { o := .ld (.l 0) 1 false, g := some (9, true) }, { o := .ca N.ref26_Less 0 [] [.l 5, .l 0], g := some (10, true) }, { o := .pk (.l 11) (.l 0) (.b false) }] [] 0 .skip (.exit 2)) (.blk 3 (.reg [{ o := .mv (.v 4) }, { o := .bin .add (.l 0) (.i 1) }, { o := .mv (.l 0), d := some 4 }] [])))
def ref26_Tidy_l2 : C := .loop false [1, 5] K.ref26_Tidy_l2b
def ref26_Tidy_l3b : C := (.seq (.ite [{ o := .mv (.v 5) }, { o := .mv (.v 2) }, { o := .mv (.v 4) }, { o := .ia (.l 1) (.l 0) 2 }, { o := .fa (.l 0) 1 }, { o := .ld (.l 0) 1 false }, { o := .ln (.l 0) }, { o := .bin .lss (.l 6) (.l 0) }, { o := .mv (.l 0) }, { o := .mv (.v 5), g := some (0, true) }, { o := .mv (.v 0), g := some (1, true) }, { o := .mv (.v 3), g := some (2, true) }, { o := .ia (.l 1) (.l 0) 2, g := some (3, true) }, { o := .fa (.l 0) 1, g := some (4, true) }, { o := .ld (.l 0) 1 false, g := some (5, true) }, { o := .ln (.l 0), g := some (6, true) }, { o := .bin .lss (.l 6) (.l 0), g := some (7, true) }, { o := .pk (.l 8) (.l 0) (.b false) }] [] 0 .skip (.exit 4)) (.seq (.blk 5 (.reg [{ o := .mv (.v 2) }, { o := .mv (.v 4) }, { o := .ia (.l 1) (.l 0) 2 }, { o := .fa (.l 0) 1 }, { o := .ld (.l 0) 1 false }, { o := .mv (.v 5) }, { o := .mv (.v 2) }, { o := .mv (.v 4) }, { o := .ia (.l 1) (.l 0) 2 }, { o := .fa (.l 0) 1 }, { o := .ld (.l 0) 1 false }, { o := .mv (.v 5) }, { o := .ia (.l 1) (.l 0) 2 }, { o := .ld (.l 0) 2 true }, { o := .mv (.v 0) }, { o := .mv (.v 3) }, { o := .ia (.l 1) (.l 0) 2 }, { o := .fa (.l 0) 1 }, { o := .ld (.l 0) 1 false }, { o := .mv (.v 5) }, { o := .ia (.l 1) (.l 0) 2 }, { o := .ld (.l 0) 2 true }, { o := .ca N.ref25_Join 0 [] [.l 8, .l 0] }, { o := .mv (.l 0) }, { o := .ex (.l 0) 0 }, { o := .ex (.l 1) 1 }, { o := .ia (.l 21) (.l 20) 2 }, { o := .st (.l 0) (.l 2) 2 [] }] [(2, 23), (4, 23)])) (.reg [{ o := .mv (.v 5) }, { o := .bin .add (.l 0) (.i 1) }, { o := .mv (.l 0), d := some 5 }] [])))
def ref26_Tidy_l3 : C := .loop false [1] K.ref26_Tidy_l3b
def ref26_Tidy_l1b : C := (.seq (.ite [{ o := .mv (.v 3) }, { o := .mv (.v 0) }, { o := .ln (.l 0) }, { o := .bin .lss (.l 2) (.l 0) }] [] 0 .skip (.exit 0)) (.seq (.blk 1 (.seq (.reg [{ o := .mv (.i 0), d := some 4 }] []) (.seq (.blk 2 K.ref26_Tidy_l2) (.seq (.ite [{ o := .mv (.v 4) }, { o := .mv (.v 2) }, { o := .ln (.l 0) }, { o := .bin .lss (.l 2) (.l 0) }, { o := .mv (.l 0) }, { o := .mv (.v 2), g := some (0, true) }, { o := .mv (.v 4), g := some (1, true) }, { o := .ia (.l 1) (.l 0) 2, g := some (2, true) }, { o := .fa (.l 0) 0, g := some (3, true) }, { o := .ld (.l 0) 1 false, g := some (4, true) }, { o := .mv (.v 0), g := some (5, true) }, { o := .mv (.v 3), g := some (6, true) }, { o := .ia (.l 1) (.l 0) 2, g := some (7, true) }, { o := .fa (.l 0) 0, g := some (8, true) }, { o := .ld (.l 0) 1 false, g := some (9, true) }, { o := .ca N.ref23_SameInts 0 [] [.l 5, .l 0], g := some (10, true) }, { o := .pk (.l 11) (.l 0) (.b false) }] [] 0 (.seq (.seq (.reg [{ o := .mv (.i 0), d := some 5 }] []) (.blk 4 K.ref26_Tidy_l3)) (.exit 1)) .skip) (.reg [{ o := .mv (.v 2) }, { o := .mv (.v 4) }, { o := .sc (.l 1) none (some (.l 0)) 2 }, { o := .app (.c (.nil)) (.l 0) false 2 }, { o := .mv (.v 0) }, { o := .mv (.v 3) }, { o := .ia (.l 1) (.l 0) 2 }, { o := .ld (.l 0) 2 true }, { o := .ca N.ref26_CopyWorld 1 [] [.l 0] }, { o := .bsr [.l 0] 2 }, { o := .app (.l 6) (.l 0) false 2 }, { o := .mv (.v 2) }, { o := .mv (.v 4) }, { o := .sc (.l 1) (some (.l 0)) none 2 }, { o := .app (.l 3) (.l 0) false 2 }, { o := .mv (.l 0), d := some 2 }] [(6, 0), (7, 0), (13, 0), (13, 4), (13, 9), (13, 10)]))))) (.reg [{ o := .mv (.v 3) }, { o := .bin .add (.l 0) (.i 1) }, { o := .mv (.l 0), d := some 3 }] [])))
def ref26_Tidy_l1 : C := .loop false [1, 4, 5] K.ref26_Tidy_l1b
/-- /ref26.Tidy -/
def ref26_Tidy : Fn := { nargs := 1, vars := [0, 2, 3, 4, 5, 6], body := (.seq (.reg [{ o := .mv (.c (.nil)), d := some 1 }] []) (.seq (.reg [{ o := .mv (.c (.nil)), d := some 2 }] []) (.seq (.seq (.reg [{ o := .mv (.i 0), d := some 3 }] []) (.blk 0 K.ref26_Tidy_l1)) (.seq (.reg [{ o := .mv (.v 2) }, { o := .mv (.l 0), d := some 1 }] []) .ret)))), res := [(1, none)] }
/-- /ref26.borne -/
def ref26_borne : Fn := { nargs := 3, vars := [0, 1, 2, 3, 4, 6], body := (.seq (.reg [{ o := .bx (.v 0) 2, d := some 3 }, { o := .bx (.v 1) 1, d := some 4 }, { o := .mv (.i 0), d := some 5 }] []) (.seq (.ite [{ o := .ld (.v 3) 2 true }, { o := .ld (.v 4) 1 true }, { o := .ca N.ref26_Valid 0 [] [.l 1, .l 0] }, { o := .un .not (.l 0) }] [] 0 (.seq (.reg [{ o := .mv (.i 6), d := some 5 }] []) .ret) .skip) (.seq (.ite [{ o := .fa (.v 4) 0 }, { o := .ld (.l 0) 1 false }, { o := .ia (.l 0) (.i 0) 2 }, { o := .fa (.l 0) 0 }, { o := .ld (.l 0) 1 false }, { o := .mv (.v 2) }, { o := .ca N.ref26_bearer 0 [] [.l 1, .l 0] }, { o := .bin .lss (.l 0) (.i 0) }] [] 0 (.seq (.reg [{ o := .mv (.i 41), d := some 5 }] []) .ret) .skip) (.seq (.reg [{ o := .mv (.i 0), d := some 5 }] []) .ret)))), res := [(5, none)] }
def ref26_bearer_l1b : C := (.seq (.ite [{ o := .mv (.v 3) }, { o := .mv (.v 0) }, { o := .ln (.l 0) }, { o := .bin .lss (.l 2) (.l 0) }] [] 0 .skip (.exit 0)) (.seq (.blk 1 (.ite [{ o := .mv (.v 0) }, { o := .mv (.v 3) }, { o := .ia (.l 1) (.l 0) 1 }, { o := .ld (.l 0) 1 false }, { o := .mv (.v 1) }, { o := .bin .eql (.l 1) (.l 0) }] [] 0 (.seq (.reg [{ o := .mv (.v 3) }, { o := .mv (.l 0), d := some 2 }] []) .ret) .skip)) (.reg [{ o := .mv (.v 3) }, { o := .bin .add (.l 0) (.i 1) }, { o := .mv (.l 0), d := some 3 }] [])))
def ref26_bearer_l1 : C := .loop true [2] K.ref26_bearer_l1b
/-- /ref26.bearer -/
def ref26_bearer : Fn := { nargs := 2, vars := [0, 1, 4, 5], body := (.seq (.reg [{ o := .mv (.i 0), d := some 2 }] []) (.seq (.seq (.reg [{ o := .mv (.i 0), d := some 3 }] []) (.blk 0 K.ref26_bearer_l1)) (.seq (.reg [{ o := .mv (.i (-1)), d := some 2 }] []) .ret))), res := [(2, none)] }
def ref25_See_l1b : C := (.seq (.ite [{ o := .mv (.v 12) }, { o := .mv (.v 2) }, { o := .ln (.l 0) }, { o := .bin .lss (.l 2) (.l 0) }] [] 0 .skip (.exit 0)) (.seq (.blk 1 (.seq (.reg [{ o := .mv (.v 2) }, { o := .mv (.v 12) }, { o := .ia (.l 1) (.l 0) 1 }, { o := .ld (.l 0) 1 false }, { o := .mv (.l 0), d := some 13 }] []) (.ite [{ o := .fa (.v 6) 1 }, { o := .ld (.l 0) 1 false }, { o := .mv (.v 13) }, { o := .ia (.l 1) (.l 0) 1 }, { o := .ld (.l 0) 1 false }, { o := .mv (.v 4) }, { o := .bin .leq (.l 1) (.l 0) }] [] 0 (.reg [{ o := .mv (.v 10) }, { o := .mv (.v 13) }, { o := .fa (.v 6) 1 }, { o := .ld (.l 0) 1 false }, { o := .mv (.v 13) }, { o := .ia (.l 1) (.l 0) 1 }, { o := .ld (.l 0) 1 false }, { o := .ia (.l 6) (.l 5) 1 }, { o := .st (.l 0) (.l 1) 1 [] }, { o := .mv (.b true), d := some 11 }] []) .skip))) (.reg [{ o := .mv (.v 12) }, { o := .bin .add (.l 0) (.i 1) }, { o := .mv (.l 0), d := some 12 }] [])))
def ref25_See_l1 : C := .loop true [0, 1, 8, 9, 13] K.ref25_See_l1b
/-- /ref25.See -/
def ref25_See : Fn := { nargs := 5, vars := [0, 1, 2, 3, 4, 5, 6, 10, 11, 12, 13, 14, 15, 16], body := (.seq (.reg [{ o := .bx (.v 0) 2, d := some 5 }, { o := .bx (.v 1) 2, d := some 6 }, { o := .al [.t (.int .i64 (0)), .nil] [], d := some 7 }, { o := .mv (.i 0), d := some 8 }] []) (.seq (.seq (.reg [{ o := .ld (.v 5) 2 true }, { o := .ld (.v 6) 2 true }, { o := .mv (.v 2) }, { o := .mv (.v 3) }, { o := .mv (.v 4) }, { o := .ca N.ref25_asked 0 [] [.l 4, .l 3, .l 2, .l 1, .l 0] }, { o := .mv (.l 0), d := some 9 }] []) (.ite [{ o := .mv (.v 9) }, { o := .bin .neq (.l 0) (.i 0) }] [] 0 (.seq (.reg [{ o := .ld (.v 6) 2 true }, { o := .ca N.ref25_Copy 0 [] [.l 0] }, { o := .mv (.v 9) }, { o := .st (.v 7) (.l 1) 2 [] }, { o := .mv (.l 1), d := some 8 }] []) .ret) .skip)) (.seq (.ite [{ o := .mv (.v 3) }, { o := .fa (.v 6) 0 }, { o := .ld (.l 0) 1 false }, { o := .bin .lss (.l 2) (.l 0) }] [] 0 (.seq (.reg [{ o := .ld (.v 6) 2 true }, { o := .ca N.ref25_Copy 0 [] [.l 0] }, { o := .st (.v 7) (.l 0) 2 [] }, { o := .mv (.i 42), d := some 8 }] []) .ret) .skip) (.seq (.reg [{ o := .fa (.v 5) 0 }, { o := .ld (.l 0) 1 false }, { o := .ln (.l 0) }, { o := .ca N.ref25_never 1 [] [.l 0] }, { o := .mv (.l 0), d := some 10 }] []) (.seq (.reg [{ o := .mv (.b false), d := some 11 }] []) (.seq (.seq (.reg [{ o := .mv (.i 0), d := some 12 }] []) (.blk 0 K.ref25_See_l1)) (.seq (.ite [{ o := .mv (.v 11) }, { o := .un .not (.l 0) }] [] 0 (.seq (.reg [{ o := .ld (.v 6) 2 true }, { o := .ca N.ref25_Copy 0 [] [.l 0] }, { o := .st (.v 7) (.l 0) 2 [] }, { o := .mv (.i 43), d := some 8 }] []) .ret) .skip) (.seq (.reg [{ o := .mv (.v 4) }, { o := .ld (.v 5) 2 true }, { o := .mv (.v 10) }, { o := .mv (.v 3) }, { o := .ca N.ref25_Close 0 [] [.l 2, .l 1, .l 0] }, { o := .bd [.t (.int .i64 (0)), .nil] [(0, 1, .l 4), (1, 1, .l 0)] }, { o := .st (.v 7) (.l 0) 2 [] }, { o := .mv (.i 0), d := some 8 }] []) .ret)))))))), res := [(7, some (2, true)), (8, none)] }
def ref25_Absent_l1b : C := (.seq (.ite [{ o := .mv (.v 12) }, { o := .mv (.v 2) }, { o := .ln (.l 0) }, { o := .bin .lss (.l 2) (.l 0) }] [] 0 .skip (.exit 0)) (.seq (.blk 1 (.reg [{ o := .mv (.v 11) }, { o := .mv (.v 2) }, { o := .mv (.v 12) }, { o := .ia (.l 1) (.l 0) 1 }, { o := .ld (.l 0) 1 false }, { o := .ia (.l 4) (.l 0) 1 }, { o := .st (.l 0) (.i 1099511627776) 1 [] }] [])) (.reg [{ o := .mv (.v 12) }, { o := .bin .add (.l 0) (.i 1) }, { o := .mv (.l 0), d := some 12 }] [])))
def ref25_Absent_l1 : C := .loop true [0, 1, 3, 7, 9, 10] K.ref25_Absent_l1b
/-- /ref25.Absent -/
def ref25_Absent : Fn := { nargs := 6, vars := [0, 1, 2, 3, 4, 5, 6, 7, 12, 13, 14, 15, 16], body := (.seq (.reg [{ o := .bx (.v 0) 2, d := some 6 }, { o := .bx (.v 1) 2, d := some 7 }, { o := .al [.t (.int .i64 (0)), .nil] [], d := some 8 }, { o := .mv (.i 0), d := some 9 }] []) (.seq (.seq (.reg [{ o := .ld (.v 6) 2 true }, { o := .ld (.v 7) 2 true }, { o := .mv (.v 2) }, { o := .mv (.v 3) }, { o := .mv (.v 4) }, { o := .ca N.ref25_asked 0 [] [.l 4, .l 3, .l 2, .l 1, .l 0] }, { o := .mv (.l 0), d := some 10 }] []) (.ite [{ o := .mv (.v 10) }, { o := .bin .neq (.l 0) (.i 0) }] [] 0 (.seq (.reg [{ o := .ld (.v 7) 2 true }, { o := .ca N.ref25_Copy 0 [] [.l 0] }, { o := .mv (.v 10) }, { o := .st (.v 8) (.l 1) 2 [] }, { o := .mv (.l 1), d := some 9 }] []) .ret) .skip)) (.seq (.ite [{ o := .mv (.v 5) }, { o := .ca N.ref25_inTime 0 [] [.l 0] }, { o := .un .not (.l 0) }] [] 0 (.seq (.reg [{ o := .ld (.v 7) 2 true }, { o := .ca N.ref25_Copy 0 [] [.l 0] }, { o := .st (.v 8) (.l 0) 2 [] }, { o := .mv (.i 8), d := some 9 }] []) .ret) .skip) (.seq (.ite [{ o := .mv (.v 4) }, { o := .fa (.v 7) 0 }, { o := .ld (.l 0) 1 false }, { o := .bin .lss (.l 2) (.l 0) }] [] 0 (.seq (.reg [{ o := .ld (.v 7) 2 true }, { o := .ca N.ref25_Copy 0 [] [.l 0] }, { o := .st (.v 8) (.l 0) 2 [] }, { o := .mv (.i 42), d := some 9 }] []) .ret) .skip) (.seq (.ite [{ o := .mv (.v 4) }, { o := .mv (.v 3) }, { o := .fa (.v 7) 0 }, { o := .ld (.l 0) 1 false }, { o := .mx [.l 2, .l 0] }, { o := .bin .sub (.l 4) (.l 0) }, { o := .mv (.v 5) }, { o := .bin .leq (.l 1) (.l 0) }] [] 0 (.seq (.reg [{ o := .ld (.v 7) 2 true }, { o := .ca N.ref25_Copy 0 [] [.l 0] }, { o := .st (.v 8) (.l 0) 2 [] }, { o := .mv (.i 0), d := some 9 }] []) .ret) .skip) (.seq (.reg [{ o := .fa (.v 7) 1 }, { o := .ld (.l 0) 1 false }, { o := .app (.c (.nil)) (.l 0) true 1 }, { o := .mv (.l 0), d := some 11 }] []) (.seq (.seq (.reg [{ o := .mv (.i 0), d := some 12 }] []) (.blk 0 K.ref25_Absent_l1)) (.seq (.reg [{ o := .mv (.v 4) }, { o := .ld (.v 6) 2 true }, { o := .ld (.v 6) 2 true }, { o := .mv (.v 11) }, { o := .mv (.v 4) }, { o := .mv (.v 5) }, { o := .bin .sub (.l 1) (.l 0) }, { o := .mv (.v 2) }, { o := .ca N.ref25_close 0 [3] [.l 5, .l 4, .l 1, .l 0] }, { o := .mv (.v 4) }, { o := .ca N.ref25_Close 0 [] [.l 8, .l 1, .l 0] }, { o := .bd [.t (.int .i64 (0)), .nil] [(0, 1, .l 10), (1, 1, .l 0)] }, { o := .st (.v 8) (.l 0) 2 [] }, { o := .mv (.i 0), d := some 9 }] [(1, 9)]) .ret)))))))), res := [(8, some (2, true)), (9, none)] }
def lists_Where_l1b : C := (.its  [{ o := .bin .lss (.v 6) (.v 5) }] [] 0 .skip (.exit 0) (.seq (.blk 1 (.seq (.reg [{ o := .mv (.v 6) }, { o := .mv (.l 0), d := some 4 }] []) (.ite [{ o := .mv (.v 1) }, { o := .mv (.v 4) }, { o := .cw (.l 1) 0 [] [.l 0] }] [] 0 (.reg [{ o := .mv (.v 3) }, { o := .mv (.v 4) }, { o := .bs [.l 0] 1 }, { o := .app (.l 2) (.l 0) true 1 }, { o := .mv (.l 0), d := some 3 }] []) .skip))) (.reg [{ o := .bin .add (.v 6) (.i 1) }, { o := .mv (.l 0), d := some 6 }] [])))
def lists_Where_l1 : C := .loop true [0, 2, 4] K.lists_Where_l1b
/-- /lists.Where -/
def lists_Where : Fn := { nargs := 2, vars := [0, 1, 4, 5, 6, 7, 8], body := (.seq (.reg [{ o := .mv (.c (.nil)), d := some 2 }] []) (.seq (.reg [{ o := .nw 1, d := some 3 }] []) (.seq (.seq (.reg [{ o := .mv (.v 0), d := some 5 }, { o := .mv (.i 0), d := some 6 }] []) (.blk 0 K.lists_Where_l1)) (.seq (.reg [{ o := .mv (.v 3) }, { o := .mv (.l 0), d := some 2 }] []) .ret)))), res := [(2, none)] }
/-- /smoke.Filled.1 -/
def smoke_Filled_1 : Fn := { nargs := 3, vars := [0, 1, 2, 4], body := (.seq (.reg [{ o := .mv (.b false), d := some 3 }] []) (.seq (.reg [{ o := .fa (.v 1) 1 }, { o := .ld (.l 0) 1 false }, { o := .mv (.v 0) }, { o := .ia (.l 1) (.l 0) 1 }, { o := .ld (.l 0) 1 false }, { o := .ld (.v 2) 1 false }, { o := .bin .leq (.l 1) (.l 0) }, { o := .mv (.l 0), d := some 3 }] []) .ret)), res := [(3, none)] }
/-- slices.ContainsFunc[[]int,int] -/
def slices_ContainsFunc_int_int : Fn := { nargs := 2, vars := [0, 1, 4], body := (.seq (.reg [{ o := .mv (.b false), d := some 2 }] []) (.seq (.reg [{ o := .mv (.v 0) }, { o := .mv (.v 1) }, { o := .ca N.slices_IndexFunc_int_int 0 [] [.l 1, .l 0] }, { o := .bin .geq (.l 0) (.i 0) }, { o := .mv (.l 0), d := some 2 }] []) .ret)), res := [(2, none)] }
/-- /firerules.meets.1 -/
def firerules_meets_1 : Fn := { nargs := 2, vars := [0, 1, 3], body := (.seq (.reg [{ o := .mv (.b false), d := some 2 }] []) (.seq (.reg [{ o := .ld (.v 1) 1 false }, { o := .mv (.v 0) }, { o := .ca N.slices_Contains_int_int 0 [] [.l 1, .l 0] }, { o := .mv (.l 0), d := some 2 }] []) .ret)), res := [(2, none)] }
/-- slices.Contains[[]int,int] -/
def slices_Contains_int_int : Fn := { nargs := 2, vars := [0, 1, 4], body := (.seq (.reg [{ o := .mv (.b false), d := some 2 }] []) (.seq (.reg [{ o := .mv (.v 0) }, { o := .mv (.v 1) }, { o := .ca N.slices_Index_int_int 0 [] [.l 1, .l 0] }, { o := .bin .geq (.l 0) (.i 0) }, { o := .mv (.l 0), d := some 2 }] []) .ret)), res := [(2, none)] }
/-- /firerules.near.1 -/
def firerules_near_1 : Fn := { nargs := 4, vars := [0, 1, 2, 3, 5], body := (.seq (.reg [{ o := .mv (.b false), d := some 4 }] []) (.seq (.reg [{ o := .ld (.v 1) 1 true }, { o := .mv (.v 0) }, { o := .ld (.v 2) 1 false }, { o := .ca N.swaps_Possible 0 [] [.l 2, .l 1, .l 0] }, { o := .fa (.v 3) 2 }, { o := .ld (.l 0) 1 false }, { o := .ca N.firerules_meets 0 [] [.l 2, .l 0] }, { o := .mv (.l 0), d := some 4 }] [(5, 0)]) .ret)), res := [(4, none)] }
/-- /swaps.Possible -/
def swaps_Possible : Fn := { nargs := 3, vars := [0, 1, 2, 3, 4, 5, 6], body := (.seq (.reg [{ o := .bx (.v 0) 1, d := some 3 }, { o := .bx (.v 1) 1, d := some 4 }, { o := .bx (.v 2) 1, d := some 5 }, { o := .mv (.c (.nil)), d := some 6 }] []) (.seq (.reg [{ o := .mf N.swaps_Possible_1 [.v 3, .v 4, .v 5] }, { o := .ca N.lists_Where 0 [] [.i 64, .l 0] }, { o := .mv (.l 0), d := some 6 }] []) .ret)), res := [(6, none)] }
/-- /ref01.Span -/
def ref01_Span : Fn := { nargs := 3, vars := [0, 1, 2, 3, 6], body := (.seq (.reg [{ o := .bx (.v 0) 2, d := some 3 }, { o := .mv (.b false), d := some 4 }] []) (.seq (.reg [{ o := .mv (.v 1) }, { o := .fa (.v 3) 0 }, { o := .ld (.l 0) 1 false }, { o := .bin .leq (.l 2) (.l 0) }, { o := .mv (.l 0) }, { o := .fa (.v 3) 0, g := some (0, true) }, { o := .ld (.l 0) 1 false, g := some (1, true) }, { o := .fa (.v 3) 1, g := some (2, true) }, { o := .ld (.l 0) 1 false, g := some (3, true) }, { o := .bin .leq (.l 2) (.l 0), g := some (4, true) }, { o := .pk (.l 5) (.l 0) (.b false) }, { o := .mv (.l 0) }, { o := .fa (.v 3) 1, g := some (0, true) }, { o := .ld (.l 0) 1 false, g := some (1, true) }, { o := .mv (.v 2), g := some (2, true) }, { o := .bin .leq (.l 1) (.l 0), g := some (3, true) }, { o := .pk (.l 4) (.l 0) (.b false) }, { o := .mv (.l 0), d := some 4 }] []) .ret)), res := [(4, none)] }
/-- /ref28.Span -/
def ref28_Span : Fn := { nargs := 1, vars := [0, 1, 2], body := (.seq (.reg [{ o := .bx (.v 0) 2, d := some 1 }, { o := .mv (.b false), d := some 2 }] []) (.seq (.reg [{ o := .fa (.v 1) 0 }, { o := .ld (.l 0) 1 false }, { o := .bin .geq (.l 0) (.i (-1125899906842624)) }, { o := .mv (.l 0) }, { o := .fa (.v 1) 1, g := some (0, true) }, { o := .ld (.l 0) 1 false, g := some (1, true) }, { o := .bin .leq (.l 0) (.i 1125899906842624), g := some (2, true) }, { o := .pk (.l 3) (.l 0) (.b false) }, { o := .mv (.l 0) }, { o := .fa (.v 1) 0, g := some (0, true) }, { o := .ld (.l 0) 1 false, g := some (1, true) }, { o := .fa (.v 1) 1, g := some (2, true) }, { o := .ld (.l 0) 1 false, g := some (3, true) }, { o := .bin .leq (.l 2) (.l 0), g := some (4, true) }, { o := .pk (.l 5) (.l 0) (.b false) }, { o := .mv (.l 0), d := some 2 }] []) .ret)), res := [(2, none)] }
/-- /ref25.inTime -/
def ref25_inTime : Fn := { nargs := 1, vars := [0, 2], body := (.seq (.reg [{ o := .mv (.b false), d := some 1 }] []) (.seq (.reg [{ o := .mv (.v 0) }, { o := .bin .geq (.l 0) (.i 0) }, { o := .mv (.l 0) }, { o := .mv (.v 0), g := some (0, true) }, { o := .bin .leq (.l 0) (.i 2147483648), g := some (1, true) }, { o := .pk (.l 2) (.l 0) (.b false) }, { o := .mv (.l 0), d := some 1 }] []) .ret)), res := [(1, none)] }
def ref25_never_l1b : C := (.seq (.ite [{ o := .mv (.v 3) }, { o := .mv (.v 0) }, { o := .bin .lss (.l 1) (.l 0) }] [] 0 .skip (.exit 0)) (.seq (.blk 1 (.reg [{ o := .mv (.v 2) }, { o := .bs [.i 1099511627776] 1 }, { o := .app (.l 1) (.l 0) true 1 }, { o := .mv (.l 0), d := some 2 }] [])) (.reg [{ o := .mv (.v 3) }, { o := .bin .add (.l 0) (.i 1) }, { o := .mv (.l 0), d := some 3 }] [])))
def ref25_never_l1 : C := .loop true [1] K.ref25_never_l1b
/-- /ref25.never -/
def ref25_never : Fn := { nargs := 1, vars := [0, 2, 3, 4], body := (.seq (.reg [{ o := .mv (.c (.nil)), d := some 1 }] []) (.seq (.reg [{ o := .nw 1, d := some 2 }] []) (.seq (.seq (.reg [{ o := .mv (.i 0), d := some 3 }] []) (.blk 0 K.ref25_never_l1)) (.seq (.reg [{ o := .mv (.v 2) }, { o := .mv (.l 0), d := some 1 }] []) .ret)))), res := [(1, none)] }
/-- /ref25.Close -/
def ref25_Close : Fn := { nargs := 3, vars := [0, 1, 2, 3, 6], body := (.seq (.reg [{ o := .bx (.v 0) 2, d := some 3 }, { o := .mv (.c (.nil)), d := some 4 }] []) (.seq (.reg [{ o := .ld (.v 3) 2 true }, { o := .mv (.v 1) }, { o := .mv (.v 2) }, { o := .ca N.ref25_close 0 [3] [.l 2, .l 1, .l 0, .c (.nil)] }, { o := .mv (.l 0), d := some 4 }] []) .ret)), res := [(4, none)] }
def ref26_Less_l1b : C := (.seq (.ite [{ o := .mv (.v 3) }, { o := .mv (.v 0) }, { o := .ln (.l 0) }, { o := .bin .lss (.l 2) (.l 0) }, { o := .mv (.l 0) }, { o := .mv (.v 3), g := some (0, true) }, { o := .mv (.v 1), g := some (1, true) }, { o := .ln (.l 0), g := some (2, true) }, { o := .bin .lss (.l 2) (.l 0), g := some (3, true) }, { o := .pk (.l 4) (.l 0) (.b false) }] [] 0 .skip (.exit 0)) (.seq (.blk 1 (.ite [{ o := .mv (.v 0) }, { o := .mv (.v 3) }, { o := .ia (.l 1) (.l 0) 1 }, { o := .ld (.l 0) 1 false }, { o := .mv (.v 1) }, { o := .mv (.v 3) }, { o := .ia (.l 1) (.l 0) 1 }, { o := .ld (.l 0) 1 false }, { o := .bin .neq (.l 4) (.l 0) }] [] 0 (.seq (.reg [{ o := .mv (.v 0) }, { o := .mv (.v 3) }, { o := .ia (.l 1) (.l 0) 1 }, { o := .ld (.l 0) 1 false }, { o := .mv (.v 1) }, { o := .mv (.v 3) }, { o := .ia (.l 1) (.l 0) 1 }, { o := .ld (.l 0) 1 false }, { o := .bin .lss (.l 4) (.l 0) }, { o := .mv (.l 0), d := some 2 }] []) .ret) .skip)) (.reg [{ o := .mv (.v 3) }, { o := .bin .add (.l 0) (.i 1) }, { o := .mv (.l 0), d := some 3 }] [])))
def ref26_Less_l1 : C := .loop true [2] K.ref26_Less_l1b
/-- /ref26.Less -/
def ref26_Less : Fn := { nargs := 2, vars := [0, 1, 4, 5], body := (.seq (.reg [{ o := .mv (.b false), d := some 2 }] []) (.seq (.seq (.reg [{ o := .mv (.i 0), d := some 3 }] []) (.blk 0 K.ref26_Less_l1)) (.seq (.reg [{ o := .mv (.v 0) }, { o := .ln (.l 0) }, { o := .mv (.v 1) }, { o := .ln (.l 0) }, { o := .bin .lss (.l 2) (.l 0) }, { o := .mv (.l 0), d := some 2 }] []) .ret))), res := [(2, none)] }
/-- /ref25.Valid -/
def ref25_Valid : Fn := { nargs := 2, vars := [0, 1, 2, 3, 4], body := (.seq (.reg [{ o := .bx (.v 0) 2, d := some 2 }, { o := .bx (.v 1) 2, d := some 3 }, { o := .mv (.b false), d := some 4 }] []) (.seq (.reg [{ o := .ld (.v 2) 2 true }, { o := .ca N.ref01_Check 0 [] [.l 0] }, { o := .bin .eql (.l 0) (.i 0) }, { o := .mv (.l 0) }, { o := .ld (.v 3) 2 true, g := some (0, true) }, { o := .fa (.v 2) 0, g := some (1, true) }, { o := .ld (.l 0) 1 false, g := some (2, true) }, { o := .ln (.l 0), g := some (3, true) }, { o := .ca N.ref25_Plain 0 [] [.l 3, .l 0], g := some (4, true) }, { o := .pk (.l 5) (.l 0) (.b false) }, { o := .mv (.l 0) }, { o := .ld (.v 2) 2 true, g := some (0, true) }, { o := .fa (.v 3) 1, g := some (1, true) }, { o := .ld (.l 0) 1 false, g := some (2, true) }, { o := .fa (.v 3) 0, g := some (3, true) }, { o := .ld (.l 0) 1 false, g := some (4, true) }, { o := .ca N.ref25_Close 0 [] [.l 4, .l 2, .l 0], g := some (5, true) }, { o := .fa (.v 3) 1, g := some (6, true) }, { o := .ld (.l 0) 1 false, g := some (7, true) }, { o := .ca N.ref23_SameInts 0 [] [.l 2, .l 0], g := some (8, true) }, { o := .pk (.l 9) (.l 0) (.b false) }, { o := .mv (.l 0), d := some 4 }] [(18, 9)]) .ret)), res := [(4, none)] }
/-- /ref25.Copy -/
def ref25_Copy : Fn := { nargs := 1, vars := [0, 1, 2], body := (.seq (.reg [{ o := .bx (.v 0) 2, d := some 1 }, { o := .al [.t (.int .i64 (0)), .nil] [], d := some 2 }] []) (.seq (.reg [{ o := .fa (.v 1) 0 }, { o := .ld (.l 0) 1 false }, { o := .fa (.v 1) 1 }, { o := .ld (.l 0) 1 false }, { o := .app (.c (.nil)) (.l 0) true 1 }, { o := .bd [.t (.int .i64 (0)), .nil] [(0, 1, .l 3), (1, 1, .l 0)] }, { o := .st (.v 2) (.l 0) 2 [] }] [(1, 5)]) .ret)), res := [(2, some (2, true))] }
def ref23_SameInts_l1b : C := (.seq (.ite [{ o := .mv (.v 3) }, { o := .mv (.v 0) }, { o := .ln (.l 0) }, { o := .bin .lss (.l 2) (.l 0) }] [] 0 .skip (.exit 0)) (.seq (.blk 1 (.ite [{ o := .mv (.v 0) }, { o := .mv (.v 3) }, { o := .ia (.l 1) (.l 0) 1 }, { o := .ld (.l 0) 1 false }, { o := .mv (.v 1) }, { o := .mv (.v 3) }, { o := .ia (.l 1) (.l 0) 1 }, { o := .ld (.l 0) 1 false }, { o := .bin .neq (.l 4) (.l 0) }] [] 0 (.seq (.reg [{ o := .mv (.b false), d := some 2 }] []) .ret) .skip)) (.reg [{ o := .mv (.v 3) }, { o := .bin .add (.l 0) (.i 1) }, { o := .mv (.l 0), d := some 3 }] [])))
def ref23_SameInts_l1 : C := .loop true [2] K.ref23_SameInts_l1b
/-- /ref23.SameInts -/
def ref23_SameInts : Fn := { nargs := 2, vars := [0, 1, 4, 5], body := (.seq (.reg [{ o := .mv (.b false), d := some 2 }] []) (.seq (.ite [{ o := .mv (.v 0) }, { o := .ln (.l 0) }, { o := .mv (.v 1) }, { o := .ln (.l 0) }, { o := .bin .neq (.l 2) (.l 0) }] [] 0 (.seq (.reg [{ o := .mv (.b false), d := some 2 }] []) .ret) .skip) (.seq (.seq (.reg [{ o := .mv (.i 0), d := some 3 }] []) (.blk 0 K.ref23_SameInts_l1)) (.seq (.reg [{ o := .mv (.b true), d := some 2 }] []) .ret)))), res := [(2, none)] }
def ref25_Join_l1b : C := (.seq (.ite [{ o := .mv (.v 7) }, { o := .fa (.v 2) 1 }, { o := .ld (.l 0) 1 false }, { o := .ln (.l 0) }, { o := .bin .lss (.l 3) (.l 0) }] [] 0 .skip (.exit 0)) (.seq (.blk 1 (.reg [{ o := .fa (.v 6) 1 }, { o := .ld (.l 0) 1 false }, { o := .fa (.v 2) 1 }, { o := .ld (.l 0) 1 false }, { o := .mv (.v 7) }, { o := .ia (.l 1) (.l 0) 1 }, { o := .ld (.l 0) 1 false }, { o := .fa (.v 3) 1 }, { o := .ld (.l 0) 1 false }, { o := .mv (.v 7) }, { o := .ia (.l 1) (.l 0) 1 }, { o := .ld (.l 0) 1 false }, { o := .mn [.l 5, .l 0] }, { o := .bs [.l 0] 1 }, { o := .app (.l 12) (.l 0) true 1 }, { o := .fa (.v 6) 1 }, { o := .st (.l 0) (.l 1) 1 [] }] [(1, 14)])) (.reg [{ o := .mv (.v 7) }, { o := .bin .add (.l 0) (.i 1) }, { o := .mv (.l 0), d := some 7 }] [])))
def ref25_Join_l1 : C := .loop true [0, 1, 5] K.ref25_Join_l1b
/-- /ref25.Join -/
def ref25_Join : Fn := { nargs := 2, vars := [0, 1, 2, 3, 4, 5, 6, 7], body := (.seq (.reg [{ o := .bx (.v 0) 2, d := some 2 }, { o := .bx (.v 1) 2, d := some 3 }, { o := .al [.t (.int .i64 (0)), .nil] [], d := some 4 }, { o := .mv (.i 0), d := some 5 }] []) (.seq (.ite [{ o := .fa (.v 2) 1 }, { o := .ld (.l 0) 1 false }, { o := .ln (.l 0) }, { o := .fa (.v 3) 1 }, { o := .ld (.l 0) 1 false }, { o := .ln (.l 0) }, { o := .bin .neq (.l 3) (.l 0) }] [] 0 (.seq (.reg [{ o := .bd [.t (.int .i64 (0)), .nil] [] }, { o := .st (.v 4) (.l 0) 2 [] }, { o := .mv (.i 6), d := some 5 }] []) .ret) .skip) (.seq (.reg [{ o := .fa (.v 2) 0 }, { o := .ld (.l 0) 1 false }, { o := .fa (.v 3) 0 }, { o := .ld (.l 0) 1 false }, { o := .mx [.l 2, .l 0] }, { o := .bd [.t (.int .i64 (0)), .nil] [(0, 1, .l 0)] }, { o := .al [.t (.int .i64 (0)), .nil] [(1, 1)], d := some 6 }, { o := .st (.l 0) (.l 1) 2 [(1, 1)] }] []) (.seq (.seq (.reg [{ o := .mv (.i 0), d := some 7 }] []) (.blk 0 K.ref25_Join_l1)) (.seq (.reg [{ o := .ld (.v 6) 2 true }, { o := .st (.v 4) (.l 0) 2 [] }, { o := .mv (.i 0), d := some 5 }] []) .ret))))), res := [(4, some (2, true)), (5, none)] }
/-- /ref25.asked -/
def ref25_asked : Fn := { nargs := 5, vars := [0, 1, 2, 3, 4, 5, 6, 10], body := (.seq (.reg [{ o := .bx (.v 0) 2, d := some 5 }, { o := .bx (.v 1) 2, d := some 6 }, { o := .mv (.i 0), d := some 7 }] []) (.seq (.ite [{ o := .ld (.v 5) 2 true }, { o := .ld (.v 6) 2 true }, { o := .ca N.ref25_Valid 0 [] [.l 1, .l 0] }, { o := .un .not (.l 0) }, { o := .mv (.l 0) }, { o := .mv (.v 2), g := some (0, false) }, { o := .ln (.l 0), g := some (1, false) }, { o := .bin .eql (.l 0) (.i 0), g := some (2, false) }, { o := .pk (.l 3) (.b true) (.l 0) }, { o := .mv (.l 0) }, { o := .mv (.v 2), g := some (0, false) }, { o := .fa (.v 5) 0, g := some (1, false) }, { o := .ld (.l 0) 1 false, g := some (2, false) }, { o := .ln (.l 0), g := some (3, false) }, { o := .ca N.ref23_Set 0 [] [.l 3, .l 0], g := some (4, false) }, { o := .un .not (.l 0), g := some (5, false) }, { o := .pk (.l 6) (.b true) (.l 0) }] [] 0 (.seq (.reg [{ o := .mv (.i 6), d := some 7 }] []) .ret) .skip) (.seq (.ite [{ o := .mv (.v 3) }, { o := .ca N.ref25_inTime 0 [] [.l 0] }, { o := .un .not (.l 0) }, { o := .mv (.l 0) }, { o := .mv (.v 4), g := some (0, false) }, { o := .ca N.ref25_inTime 0 [] [.l 0], g := some (1, false) }, { o := .un .not (.l 0), g := some (2, false) }, { o := .pk (.l 3) (.b true) (.l 0) }, { o := .mv (.l 0) }, { o := .mv (.v 3), g := some (0, false) }, { o := .mv (.v 4), g := some (1, false) }, { o := .bin .gtr (.l 1) (.l 0), g := some (2, false) }, { o := .pk (.l 3) (.b true) (.l 0) }] [] 0 (.seq (.reg [{ o := .mv (.i 8), d := some 7 }] []) .ret) .skip) (.seq (.reg [{ o := .mv (.i 0), d := some 7 }] []) .ret)))), res := [(7, none)] }
def ref25_close_l2b : C := (.seq (.ite [{ o := .mv (.v 8) }, { o := .fa (.v 4) 1 }, { o := .ld (.l 0) 1 false }, { o := .ln (.l 0) }, { o := .bin .lss (.l 3) (.l 0) }] [] 0 .skip (.exit 2)) (.seq (.blk 3 (.seq (.reg [{ o := .fa (.v 4) 1 }, { o := .ld (.l 0) 1 false }, { o := .mv (.v 8) }, { o := .ia (.l 1) (.l 0) 10 }, { o := .ld (.l 0) 10 true }, { o := .al [.t (.int .i64 (0)), .t (.int .i64 (0)), .t (.int .i64 (0)), .t (.int .i64 (0)), .t (.bool false), .t (.bool false), .t (.int .i64 (0)), .t (.int .i64 (0)), .t (.int .i64 (0)), .t (.int .i64 (0))] [], d := some 9 }, { o := .st (.l 0) (.l 1) 10 [] }] []) (.seq (.ite [{ o := .mv (.v 3) }, { o := .eqk (.sl) false (.l 0) (.c (.nil)) }, { o := .mv (.l 0) }, { o := .mv (.v 3), g := some (0, false) }, { o := .fa (.v 9) 1, g := some (1, false) }, { o := .ld (.l 0) 1 false, g := some (2, false) }, { o := .ca N.ref23_Has 0 [] [.l 2, .l 0], g := some (3, false) }, { o := .pk (.l 4) (.b true) (.l 0) }, { o := .mv (.l 0) }, { o := .mv (.v 6), g := some (0, true) }, { o := .fa (.v 9) 0, g := some (1, true) }, { o := .ld (.l 0) 1 false, g := some (2, true) }, { o := .fa (.v 9) 1, g := some (3, true) }, { o := .ld (.l 0) 1 false, g := some (4, true) }, { o := .ld (.v 4) 2 true, g := some (5, true) }, { o := .mv (.v 8), g := some (6, true) }, { o := .ca N.ref03_Time 0 [] [.l 1, .l 0, .b false], g := some (7, true) }, { o := .mv (.v 2), g := some (8, true) }, { o := .ca N.ref25_lower 0 [0] [.l 8, .l 6, .l 4, .l 1, .l 0], g := some (9, true) }, { o := .pk (.l 10) (.l 0) (.b false) }] [(11, 17), (13, 17)] 0 (.reg [{ o := .mv (.b true), d := some 7 }] []) .skip) (.ite [{ o := .mv (.v 3) }, { o := .eqk (.sl) false (.l 0) (.c (.nil)) }, { o := .mv (.l 0) }, { o := .mv (.v 3), g := some (0, false) }, { o := .fa (.v 9) 0, g := some (1, false) }, { o := .ld (.l 0) 1 false, g := some (2, false) }, { o := .ca N.ref23_Has 0 [] [.l 2, .l 0], g := some (3, false) }, { o := .pk (.l 4) (.b true) (.l 0) }, { o := .mv (.l 0) }, { o := .mv (.v 6), g := some (0, true) }, { o := .fa (.v 9) 1, g := some (1, true) }, { o := .ld (.l 0) 1 false, g := some (2, true) }, { o := .fa (.v 9) 0, g := some (3, true) }, { o := .ld (.l 0) 1 false, g := some (4, true) }, { o := .ld (.v 4) 2 true, g := some (5, true) }, { o := .mv (.v 8), g := some (6, true) }, { o := .ca N.ref03_Time 0 [] [.l 1, .l 0, .b true], g := some (7, true) }, { o := .mv (.v 2), g := some (8, true) }, { o := .ca N.ref25_lower 0 [0] [.l 8, .l 6, .l 4, .l 1, .l 0], g := some (9, true) }, { o := .pk (.l 10) (.l 0) (.b false) }] [(11, 17), (13, 17)] 0 (.reg [{ o := .mv (.b true), d := some 7 }] []) .skip)))) (.reg [{ o := .mv (.v 8) }, { o := .bin .add (.l 0) (.i 1) }, { o := .mv (.l 0), d := some 8 }] [])))
def ref25_close_l2 : C := .loop true [0, 1, 5, 9] K.ref25_close_l2b
def ref25_close_l1b : C := (.seq (.ite [{ o := .mv (.v 7) }] [] 0 .skip (.exit 0)) (.blk 1 (.seq (.reg [{ o := .mv (.b false), d := some 7 }] []) (.seq (.reg [{ o := .mv (.i 0), d := some 8 }] []) (.blk 2 K.ref25_close_l2)))))
def ref25_close_l1 : C := .loop true [0, 1, 5, 8, 9] K.ref25_close_l1b
/-- /ref25.close -/
def ref25_close : Fn := { nargs := 4, vars := [0, 1, 2, 3, 4, 8, 9, 10, 11, 12], body := (.seq (.reg [{ o := .bx (.v 0) 2, d := some 4 }, { o := .mv (.c (.nil)), d := some 5 }] []) (.seq (.reg [{ o := .mv (.v 1) }, { o := .app (.c (.nil)) (.l 0) true 1 }, { o := .mv (.l 0), d := some 6 }] []) (.seq (.seq (.reg [{ o := .mv (.b true), d := some 7 }] []) (.blk 0 K.ref25_close_l1)) (.seq (.reg [{ o := .mv (.v 6) }, { o := .mv (.l 0), d := some 5 }] []) .ret)))), res := [(5, none)] }
def slices_IndexFunc_int_int_l1b : C := (.its  [{ o := .bin .lss (.v 5) (.v 4) }] [] 0 .skip (.exit 0) (.seq (.blk 1 (.seq (.reg [{ o := .mv (.v 5) }, { o := .mv (.l 0), d := some 3 }] []) (.ite [{ o := .mv (.v 1) }, { o := .mv (.v 0) }, { o := .mv (.v 3) }, { o := .ia (.l 1) (.l 0) 1 }, { o := .ld (.l 0) 1 false }, { o := .cw (.l 4) 0 [] [.l 0] }] [] 0 (.seq (.reg [{ o := .mv (.v 3) }, { o := .mv (.l 0), d := some 2 }] []) .ret) .skip))) (.reg [{ o := .bin .add (.v 5) (.i 1) }, { o := .mv (.l 0), d := some 5 }] [])))
def slices_IndexFunc_int_int_l1 : C := .loop true [2, 3] K.slices_IndexFunc_int_int_l1b
/-- slices.IndexFunc[[]int,int] -/
def slices_IndexFunc_int_int : Fn := { nargs := 2, vars := [0, 1, 4, 5, 7, 8], body := (.seq (.reg [{ o := .mv (.i 0), d := some 2 }] []) (.seq (.seq (.reg [{ o := .mv (.v 0) }, { o := .ln (.l 0), d := some 4 }, { o := .mv (.i 0), d := some 5 }] []) (.blk 0 K.slices_IndexFunc_int_int_l1)) (.seq (.reg [{ o := .mv (.i (-1)), d := some 2 }] []) .ret))), res := [(2, none)] }
def slices_Index_int_int_l1b : C := (.its  [{ o := .bin .lss (.v 5) (.v 4) }] [] 0 .skip (.exit 0) (.seq (.blk 1 (.seq (.reg [{ o := .mv (.v 5) }, { o := .mv (.l 0), d := some 3 }] []) (.ite [{ o := .mv (.v 1) }, { o := .mv (.v 0) }, { o := .mv (.v 3) }, { o := .ia (.l 1) (.l 0) 1 }, { o := .ld (.l 0) 1 false }, { o := .bin .eql (.l 4) (.l 0) }] [] 0 (.seq (.reg [{ o := .mv (.v 3) }, { o := .mv (.l 0), d := some 2 }] []) .ret) .skip))) (.reg [{ o := .bin .add (.v 5) (.i 1) }, { o := .mv (.l 0), d := some 5 }] [])))
def slices_Index_int_int_l1 : C := .loop true [2, 3] K.slices_Index_int_int_l1b
/-- slices.Index[[]int,int] -/
def slices_Index_int_int : Fn := { nargs := 2, vars := [0, 1, 4, 5, 7, 8], body := (.seq (.reg [{ o := .mv (.i 0), d := some 2 }] []) (.seq (.seq (.reg [{ o := .mv (.v 0) }, { o := .ln (.l 0), d := some 4 }, { o := .mv (.i 0), d := some 5 }] []) (.blk 0 K.slices_Index_int_int_l1)) (.seq (.reg [{ o := .mv (.i (-1)), d := some 2 }] []) .ret))), res := [(2, none)] }
/-- /swaps.Possible.1 -/
def swaps_Possible_1 : Fn := { nargs := 4, vars := [0, 1, 2, 3, 4, 5], body := (.seq (.reg [{ o := .bx (.v 0) 1, d := some 4 }, { o := .mv (.b false), d := some 5 }] []) (.seq (.reg [{ o := .fa (.v 1) 0 }, { o := .ld (.l 0) 1 false }, { o := .mf N.swaps_Possible_1_1 [.v 2, .v 4, .v 3] }, { o := .ca N.slices_ContainsFunc_api_World_api_World 0 [] [.l 1, .l 0] }, { o := .mv (.l 0), d := some 5 }] []) .ret)), res := [(5, none)] }
/-- slices.ContainsFunc[[]/api.World,/api.World] -/
def slices_ContainsFunc_api_World_api_World : Fn := { nargs := 2, vars := [0, 1, 4], body := (.seq (.reg [{ o := .mv (.b false), d := some 2 }] []) (.seq (.reg [{ o := .mv (.v 0) }, { o := .mv (.v 1) }, { o := .ca N.slices_IndexFunc_api_World_api_World 0 [] [.l 1, .l 0] }, { o := .bin .geq (.l 0) (.i 0) }, { o := .mv (.l 0), d := some 2 }] []) .ret)), res := [(2, none)] }
/-- /swaps.Possible.1.1 -/
def swaps_Possible_1_1 : Fn := { nargs := 4, vars := [0, 1, 2, 3, 4, 5], body := (.seq (.reg [{ o := .bx (.v 0) 2, d := some 4 }, { o := .mv (.b false), d := some 5 }] []) (.seq (.reg [{ o := .ld (.v 1) 1 false }, { o := .fa (.v 4) 1 }, { o := .ld (.l 0) 1 false }, { o := .ln (.l 0) }, { o := .bin .sub (.l 0) (.i 1) }, { o := .ca N.lists_In 0 [] [.l 4, .i 0, .l 0] }, { o := .mv (.l 0) }, { o := .ld (.v 2) 1 false, g := some (0, true) }, { o := .fa (.v 4) 1, g := some (1, true) }, { o := .ld (.l 0) 1 false, g := some (2, true) }, { o := .ld (.v 1) 1 false, g := some (3, true) }, { o := .ia (.l 1) (.l 0) 2, g := some (4, true) }, { o := .fa (.l 0) 1, g := some (5, true) }, { o := .ld (.l 0) 1 false, g := some (6, true) }, { o := .ln (.l 0), g := some (7, true) }, { o := .bin .lss (.l 7) (.l 0), g := some (8, true) }, { o := .pk (.l 9) (.l 0) (.b false) }, { o := .mv (.l 0) }, { o := .fa (.v 4) 1, g := some (0, true) }, { o := .ld (.l 0) 1 false, g := some (1, true) }, { o := .ld (.v 1) 1 false, g := some (2, true) }, { o := .ia (.l 1) (.l 0) 2, g := some (3, true) }, { o := .fa (.l 0) 1, g := some (4, true) }, { o := .ld (.l 0) 1 false, g := some (5, true) }, { o := .ld (.v 2) 1 false, g := some (6, true) }, { o := .ia (.l 1) (.l 0) 1, g := some (7, true) }, { o := .ld (.l 0) 1 false, g := some (8, true) }, { o := .ld (.v 3) 1 false, g := some (9, true) }, { o := .bin .leq (.l 1) (.l 0), g := some (10, true) }, { o := .pk (.l 11) (.l 0) (.b false) }, { o := .mv (.l 0), d := some 5 }] []) .ret)), res := [(5, none)] }
/-- /lists.In -/
def lists_In : Fn := { nargs := 3, vars := [0, 1, 2, 6], body := (.seq (.reg [{ o := .mv (.b false), d := some 3 }] []) (.seq (.reg [{ o := .mv (.v 0) }, { o := .mv (.v 1) }, { o := .bin .geq (.l 1) (.l 0) }, { o := .mv (.l 0) }, { o := .mv (.v 0), g := some (0, true) }, { o := .mv (.v 2), g := some (1, true) }, { o := .bin .leq (.l 1) (.l 0), g := some (2, true) }, { o := .pk (.l 3) (.l 0) (.b false) }, { o := .mv (.l 0), d := some 3 }] []) .ret)), res := [(3, none)] }
def ref25_Plain_l1b : C := (.seq (.ite [{ o := .mv (.v 4) }, { o := .fa (.v 2) 1 }, { o := .ld (.l 0) 1 false }, { o := .ln (.l 0) }, { o := .bin .lss (.l 3) (.l 0) }] [] 0 .skip (.exit 0)) (.seq (.blk 1 (.ite [{ o := .fa (.v 2) 1 }, { o := .ld (.l 0) 1 false }, { o := .mv (.v 4) }, { o := .ia (.l 1) (.l 0) 1 }, { o := .ld (.l 0) 1 false }, { o := .bin .neq (.l 0) (.i 1099511627776) }, { o := .mv (.l 0) }, { o := .fa (.v 2) 1, g := some (0, true) }, { o := .ld (.l 0) 1 false, g := some (1, true) }, { o := .mv (.v 4), g := some (2, true) }, { o := .ia (.l 1) (.l 0) 1, g := some (3, true) }, { o := .ld (.l 0) 1 false, g := some (4, true) }, { o := .bin .lss (.l 0) (.i 0), g := some (5, true) }, { o := .mv (.l 0), g := some (6, true) }, { o := .fa (.v 2) 1, g := some (0, false) }, { o := .ld (.l 0) 1 false, g := some (1, false) }, { o := .mv (.v 4), g := some (2, false) }, { o := .ia (.l 1) (.l 0) 1, g := some (3, false) }, { o := .ld (.l 0) 1 false, g := some (4, false) }, { o := .bin .gtr (.l 0) (.i 2147483648), g := some (5, false) }, { o := .pk (.l 6) (.b true) (.l 0), g := some (13, true) }, { o := .pk (.l 14) (.l 0) (.b false) }] [] 0 (.seq (.reg [{ o := .mv (.b false), d := some 3 }] []) .ret) .skip)) (.reg [{ o := .mv (.v 4) }, { o := .bin .add (.l 0) (.i 1) }, { o := .mv (.l 0), d := some 4 }] [])))
def ref25_Plain_l1 : C := .loop true [0, 1, 3] K.ref25_Plain_l1b
/-- /ref25.Plain -/
def ref25_Plain : Fn := { nargs := 2, vars := [0, 1, 2, 4, 5], body := (.seq (.reg [{ o := .bx (.v 0) 2, d := some 2 }, { o := .mv (.b false), d := some 3 }] []) (.seq (.ite [{ o := .fa (.v 2) 1 }, { o := .ld (.l 0) 1 false }, { o := .ln (.l 0) }, { o := .mv (.v 1) }, { o := .bin .neq (.l 1) (.l 0) }, { o := .mv (.l 0) }, { o := .fa (.v 2) 0, g := some (0, false) }, { o := .ld (.l 0) 1 false, g := some (1, false) }, { o := .bin .lss (.l 0) (.i 0), g := some (2, false) }, { o := .pk (.l 3) (.b true) (.l 0) }, { o := .mv (.l 0) }, { o := .fa (.v 2) 0, g := some (0, false) }, { o := .ld (.l 0) 1 false, g := some (1, false) }, { o := .bin .gtr (.l 0) (.i 2147483648), g := some (2, false) }, { o := .pk (.l 3) (.b true) (.l 0) }] [] 0 (.seq (.reg [{ o := .mv (.b false), d := some 3 }] []) .ret) .skip) (.seq (.seq (.reg [{ o := .mv (.i 0), d := some 4 }] []) (.blk 0 K.ref25_Plain_l1)) (.seq (.reg [{ o := .mv (.b true), d := some 3 }] []) .ret)))), res := [(3, none)] }
/-- /ref25.lower -/
def ref25_lower : Fn := { nargs := 5, vars := [0, 1, 2, 3, 4, 10, 11], body := (.seq (.reg [{ o := .mv (.b false), d := some 5 }] []) (.seq (.ite [{ o := .mv (.v 3) }, { o := .bin .lss (.l 0) (.i 0) }, { o := .mv (.l 0) }, { o := .mv (.v 0), g := some (0, false) }, { o := .mv (.v 1), g := some (1, false) }, { o := .ia (.l 1) (.l 0) 1, g := some (2, false) }, { o := .ld (.l 0) 1 false, g := some (3, false) }, { o := .bin .geq (.l 0) (.i 1099511627776), g := some (4, false) }, { o := .pk (.l 5) (.b true) (.l 0) }] [] 0 (.seq (.reg [{ o := .mv (.b false), d := some 5 }] []) .ret) .skip) (.seq (.reg [{ o := .mv (.v 4) }, { o := .mv (.v 0) }, { o := .mv (.v 1) }, { o := .ia (.l 1) (.l 0) 1 }, { o := .ld (.l 0) 1 false }, { o := .mv (.v 3) }, { o := .bin .add (.l 1) (.l 0) }, { o := .mx [.l 6, .l 0] }, { o := .mv (.l 0), d := some 6 }] []) (.seq (.ite [{ o := .mv (.v 6) }, { o := .bin .gtr (.l 0) (.i 2147483648) }, { o := .mv (.l 0) }, { o := .mv (.v 6), g := some (0, false) }, { o := .mv (.v 0), g := some (1, false) }, { o := .mv (.v 2), g := some (2, false) }, { o := .ia (.l 1) (.l 0) 1, g := some (3, false) }, { o := .ld (.l 0) 1 false, g := some (4, false) }, { o := .bin .geq (.l 4) (.l 0), g := some (5, false) }, { o := .pk (.l 6) (.b true) (.l 0) }] [] 0 (.seq (.reg [{ o := .mv (.b false), d := some 5 }] []) .ret) .skip) (.seq (.reg [{ o := .mv (.v 0) }, { o := .mv (.v 2) }, { o := .mv (.v 6) }, { o := .ia (.l 2) (.l 1) 1 }, { o := .st (.l 0) (.l 1) 1 [] }] []) (.seq (.reg [{ o := .mv (.b true), d := some 5 }] []) .ret)))))), res := [(5, none)] }
/-- /ref03.Time -/
def ref03_Time : Fn := { nargs := 3, vars := [0, 1, 2, 3, 6], body := (.seq (.reg [{ o := .bx (.v 0) 2, d := some 3 }, { o := .mv (.i 0), d := some 4 }] []) (.seq (.reg [{ o := .ld (.v 3) 2 true }, { o := .mv (.v 1) }, { o := .mv (.v 2) }, { o := .ca N.ref03_walked 0 [] [.l 2, .l 1, .l 0, .i 6, .i 9, .i 12] }, { o := .mv (.l 0), d := some 4 }] []) .ret)), res := [(4, none)] }
def slices_IndexFunc_api_World_api_World_l1b : C := (.its  [{ o := .bin .lss (.v 5) (.v 4) }] [] 0 .skip (.exit 0) (.seq (.blk 1 (.seq (.reg [{ o := .mv (.v 5) }, { o := .mv (.l 0), d := some 3 }] []) (.ite [{ o := .mv (.v 1) }, { o := .mv (.v 0) }, { o := .mv (.v 3) }, { o := .ia (.l 1) (.l 0) 2 }, { o := .ld (.l 0) 2 true }, { o := .cw (.l 4) 0 [] [.l 0] }] [] 0 (.seq (.reg [{ o := .mv (.v 3) }, { o := .mv (.l 0), d := some 2 }] []) .ret) .skip))) (.reg [{ o := .bin .add (.v 5) (.i 1) }, { o := .mv (.l 0), d := some 5 }] [])))
def slices_IndexFunc_api_World_api_World_l1 : C := .loop true [2, 3] K.slices_IndexFunc_api_World_api_World_l1b
/-- slices.IndexFunc[[]/api.World,/api.World] -/
def slices_IndexFunc_api_World_api_World : Fn := { nargs := 2, vars := [0, 1, 4, 5, 7, 8], body := (.seq (.reg [{ o := .mv (.i 0), d := some 2 }] []) (.seq (.seq (.reg [{ o := .mv (.v 0) }, { o := .ln (.l 0), d := some 4 }, { o := .mv (.i 0), d := some 5 }] []) (.blk 0 K.slices_IndexFunc_api_World_api_World_l1)) (.seq (.reg [{ o := .mv (.i (-1)), d := some 2 }] []) .ret))), res := [(2, none)] }
/-- /ref03.walked -/
def ref03_walked : Fn := { nargs := 6, vars := [0, 1, 2, 3, 4, 5, 6, 12, 13, 14, 15, 16, 17], body := (.seq (.reg [{ o := .bx (.v 0) 2, d := some 6 }, { o := .mv (.i 0), d := some 7 }] []) (.seq (.ite [{ o := .ld (.v 6) 2 true }, { o := .ca N.ref01_Check 0 [] [.l 0] }, { o := .bin .neq (.l 0) (.i 0) }, { o := .mv (.l 0) }, { o := .mv (.v 1), g := some (0, false) }, { o := .bin .lss (.l 0) (.i 0), g := some (1, false) }, { o := .pk (.l 2) (.b true) (.l 0) }, { o := .mv (.l 0) }, { o := .mv (.v 1), g := some (0, false) }, { o := .fa (.v 6) 1, g := some (1, false) }, { o := .ld (.l 0) 1 false, g := some (2, false) }, { o := .ln (.l 0), g := some (3, false) }, { o := .bin .geq (.l 3) (.l 0), g := some (4, false) }, { o := .pk (.l 5) (.b true) (.l 0) }, { o := .mv (.l 0) }, { o := .fa (.v 6) 1, g := some (0, false) }, { o := .ld (.l 0) 1 false, g := some (1, false) }, { o := .mv (.v 1), g := some (2, false) }, { o := .ia (.l 1) (.l 0) 10, g := some (3, false) }, { o := .fa (.l 0) 5, g := some (4, false) }, { o := .ld (.l 0) 1 false, g := some (5, false) }, { o := .pk (.l 6) (.b true) (.l 0) }, { o := .mv (.l 0) }, { o := .fa (.v 6) 1, g := some (0, false) }, { o := .ld (.l 0) 1 false, g := some (1, false) }, { o := .mv (.v 1), g := some (2, false) }, { o := .ia (.l 1) (.l 0) 10, g := some (3, false) }, { o := .fa (.l 0) 4, g := some (4, false) }, { o := .ld (.l 0) 1 false, g := some (5, false) }, { o := .un .not (.l 0), g := some (6, false) }, { o := .pk (.l 7) (.b true) (.l 0) }] [] 0 (.seq (.reg [{ o := .mv (.i (-1)), d := some 7 }] []) .ret) .skip) (.seq (.reg [{ o := .fa (.v 6) 1 }, { o := .ld (.l 0) 1 false }, { o := .mv (.v 1) }, { o := .ia (.l 1) (.l 0) 10 }, { o := .ld (.l 0) 10 true }, { o := .al [.t (.int .i64 (0)), .t (.int .i64 (0)), .t (.int .i64 (0)), .t (.int .i64 (0)), .t (.bool false), .t (.bool false), .t (.int .i64 (0)), .t (.int .i64 (0)), .t (.int .i64 (0)), .t (.int .i64 (0))] [], d := some 8 }, { o := .st (.l 0) (.l 1) 10 [] }] []) (.seq (.reg [{ o := .ld (.v 8) 10 true }, { o := .mv (.v 2) }, { o := .ca N.ref03_ends 0 [] [.l 1, .l 0] }, { o := .mv (.l 0) }, { o := .ex (.l 0) 0 }, { o := .ex (.l 1) 1 }, { o := .mv (.l 1), d := some 9 }, { o := .mv (.l 1), d := some 10 }] []) (.seq (.reg [{ o := .fa (.v 6) 0 }, { o := .ld (.l 0) 1 false }, { o := .mv (.v 10) }, { o := .ia (.l 1) (.l 0) 2 }, { o := .fa (.l 0) 0 }, { o := .ld (.l 0) 1 false }, { o := .fa (.v 6) 0 }, { o := .ld (.l 0) 1 false }, { o := .mv (.v 9) }, { o := .ia (.l 1) (.l 0) 2 }, { o := .fa (.l 0) 0 }, { o := .ld (.l 0) 1 false }, { o := .bin .sub (.l 6) (.l 0) }, { o := .mv (.l 0), d := some 11 }] []) (.seq (.reg [{ o := .mv (.v 5) }, { o := .mv (.l 0), d := some 12 }] []) (.seq (.ite [{ o := .mv (.v 11) }, { o := .bin .mul (.i 10) (.l 0) }, { o := .fa (.v 8) 2 }, { o := .ld (.l 0) 1 false }, { o := .bin .gtr (.l 2) (.l 0) }] [] 0 (.reg [{ o := .mv (.v 3) }, { o := .mv (.l 0), d := some 12 }] []) .skip) (.seq (.ite [{ o := .mv (.v 11) }, { o := .bin .mul (.i (-10)) (.l 0) }, { o := .fa (.v 8) 2 }, { o := .ld (.l 0) 1 false }, { o := .bin .gtr (.l 2) (.l 0) }] [] 0 (.reg [{ o := .mv (.v 4) }, { o := .mv (.l 0), d := some 12 }] []) .skip) (.seq (.reg [{ o := .fa (.v 8) 2 }, { o := .ld (.l 0) 1 false }, { o := .bin .mul (.i 10) (.l 0) }, { o := .mv (.v 12) }, { o := .bin .add (.l 1) (.l 0) }, { o := .bin .sub (.l 0) (.i 1) }, { o := .mv (.v 12) }, { o := .bin .quo (.l 1) (.l 0) }, { o := .mv (.l 0), d := some 7 }] []) .ret))))))))), res := [(7, none)] }
/-- /ref03.ends -/
def ref03_ends : Fn := { nargs := 2, vars := [0, 1, 2, 4, 5], body := (.seq (.reg [{ o := .bx (.v 0) 10, d := some 2 }, { o := .mv (.i 0), d := some 3 }, { o := .mv (.i 0), d := some 4 }] []) (.seq (.ite [{ o := .mv (.v 1) }] [] 0 (.seq (.reg [{ o := .fa (.v 2) 1 }, { o := .ld (.l 0) 1 false }, { o := .fa (.v 2) 0 }, { o := .ld (.l 0) 1 false }, { o := .mv (.l 2), d := some 3 }, { o := .mv (.l 1), d := some 4 }] []) .ret) .skip) (.seq (.reg [{ o := .fa (.v 2) 0 }, { o := .ld (.l 0) 1 false }, { o := .fa (.v 2) 1 }, { o := .ld (.l 0) 1 false }, { o := .mv (.l 2), d := some 3 }, { o := .mv (.l 1), d := some 4 }] []) .ret))), res := [(3, none), (4, none)] }
end Go.Ev.K
namespace Go.Ev
class Has2 [Lib] : Prop where
  t_ref26_Copy : Lib.fs N.ref26_Copy = some K.ref26_Copy
  t_ref26_Valid : Lib.fs N.ref26_Valid = some K.ref26_Valid
  t_ref26_CopyWorld : Lib.fs N.ref26_CopyWorld = some K.ref26_CopyWorld
  t_ref26_meet : Lib.fs N.ref26_meet = some K.ref26_meet
  t_ref25_Raise : Lib.fs N.ref25_Raise = some K.ref25_Raise
  t_ref26_Tidy : Lib.fs N.ref26_Tidy = some K.ref26_Tidy
  t_ref26_borne : Lib.fs N.ref26_borne = some K.ref26_borne
  t_ref26_bearer : Lib.fs N.ref26_bearer = some K.ref26_bearer
  t_ref25_See : Lib.fs N.ref25_See = some K.ref25_See
  t_ref25_Absent : Lib.fs N.ref25_Absent = some K.ref25_Absent
  t_lists_Where : Lib.fs N.lists_Where = some K.lists_Where
  t_smoke_Filled_1 : Lib.fs N.smoke_Filled_1 = some K.smoke_Filled_1
  t_slices_ContainsFunc_int_int : Lib.fs N.slices_ContainsFunc_int_int = some K.slices_ContainsFunc_int_int
  t_firerules_meets_1 : Lib.fs N.firerules_meets_1 = some K.firerules_meets_1
  t_slices_Contains_int_int : Lib.fs N.slices_Contains_int_int = some K.slices_Contains_int_int
  t_firerules_near_1 : Lib.fs N.firerules_near_1 = some K.firerules_near_1
  t_swaps_Possible : Lib.fs N.swaps_Possible = some K.swaps_Possible
  t_ref01_Span : Lib.fs N.ref01_Span = some K.ref01_Span
  t_ref28_Span : Lib.fs N.ref28_Span = some K.ref28_Span
  t_ref25_inTime : Lib.fs N.ref25_inTime = some K.ref25_inTime
  t_ref25_never : Lib.fs N.ref25_never = some K.ref25_never
  t_ref25_Close : Lib.fs N.ref25_Close = some K.ref25_Close
  t_ref26_Less : Lib.fs N.ref26_Less = some K.ref26_Less
  t_ref25_Valid : Lib.fs N.ref25_Valid = some K.ref25_Valid
  t_ref25_Copy : Lib.fs N.ref25_Copy = some K.ref25_Copy
  t_ref23_SameInts : Lib.fs N.ref23_SameInts = some K.ref23_SameInts
  t_ref25_Join : Lib.fs N.ref25_Join = some K.ref25_Join
  t_ref25_asked : Lib.fs N.ref25_asked = some K.ref25_asked
  t_ref25_close : Lib.fs N.ref25_close = some K.ref25_close
  t_slices_IndexFunc_int_int : Lib.fs N.slices_IndexFunc_int_int = some K.slices_IndexFunc_int_int
  t_slices_Index_int_int : Lib.fs N.slices_Index_int_int = some K.slices_Index_int_int
  t_swaps_Possible_1 : Lib.fs N.swaps_Possible_1 = some K.swaps_Possible_1
  t_slices_ContainsFunc_api_World_api_World : Lib.fs N.slices_ContainsFunc_api_World_api_World = some K.slices_ContainsFunc_api_World_api_World
  t_swaps_Possible_1_1 : Lib.fs N.swaps_Possible_1_1 = some K.swaps_Possible_1_1
  t_lists_In : Lib.fs N.lists_In = some K.lists_In
  t_ref25_Plain : Lib.fs N.ref25_Plain = some K.ref25_Plain
  t_ref25_lower : Lib.fs N.ref25_lower = some K.ref25_lower
  t_ref03_Time : Lib.fs N.ref03_Time = some K.ref03_Time
  t_slices_IndexFunc_api_World_api_World : Lib.fs N.slices_IndexFunc_api_World_api_World = some K.slices_IndexFunc_api_World_api_World
  t_ref03_walked : Lib.fs N.ref03_walked = some K.ref03_walked
  t_ref03_ends : Lib.fs N.ref03_ends = some K.ref03_ends
namespace K
variable [Lib] [Has2]
theorem t_ref26_Copy : Lib.fs N.ref26_Copy = some K.ref26_Copy := Has2.t_ref26_Copy
theorem t_ref26_Valid : Lib.fs N.ref26_Valid = some K.ref26_Valid := Has2.t_ref26_Valid
theorem t_ref26_CopyWorld : Lib.fs N.ref26_CopyWorld = some K.ref26_CopyWorld := Has2.t_ref26_CopyWorld
theorem t_ref26_meet : Lib.fs N.ref26_meet = some K.ref26_meet := Has2.t_ref26_meet
theorem t_ref25_Raise : Lib.fs N.ref25_Raise = some K.ref25_Raise := Has2.t_ref25_Raise
theorem t_ref26_Tidy : Lib.fs N.ref26_Tidy = some K.ref26_Tidy := Has2.t_ref26_Tidy
theorem t_ref26_borne : Lib.fs N.ref26_borne = some K.ref26_borne := Has2.t_ref26_borne
theorem t_ref26_bearer : Lib.fs N.ref26_bearer = some K.ref26_bearer := Has2.t_ref26_bearer
theorem t_ref25_See : Lib.fs N.ref25_See = some K.ref25_See := Has2.t_ref25_See
theorem t_ref25_Absent : Lib.fs N.ref25_Absent = some K.ref25_Absent := Has2.t_ref25_Absent
theorem t_lists_Where : Lib.fs N.lists_Where = some K.lists_Where := Has2.t_lists_Where
theorem t_smoke_Filled_1 : Lib.fs N.smoke_Filled_1 = some K.smoke_Filled_1 := Has2.t_smoke_Filled_1
theorem t_slices_ContainsFunc_int_int : Lib.fs N.slices_ContainsFunc_int_int = some K.slices_ContainsFunc_int_int := Has2.t_slices_ContainsFunc_int_int
theorem t_firerules_meets_1 : Lib.fs N.firerules_meets_1 = some K.firerules_meets_1 := Has2.t_firerules_meets_1
theorem t_slices_Contains_int_int : Lib.fs N.slices_Contains_int_int = some K.slices_Contains_int_int := Has2.t_slices_Contains_int_int
theorem t_firerules_near_1 : Lib.fs N.firerules_near_1 = some K.firerules_near_1 := Has2.t_firerules_near_1
theorem t_swaps_Possible : Lib.fs N.swaps_Possible = some K.swaps_Possible := Has2.t_swaps_Possible
theorem t_ref01_Span : Lib.fs N.ref01_Span = some K.ref01_Span := Has2.t_ref01_Span
theorem t_ref28_Span : Lib.fs N.ref28_Span = some K.ref28_Span := Has2.t_ref28_Span
theorem t_ref25_inTime : Lib.fs N.ref25_inTime = some K.ref25_inTime := Has2.t_ref25_inTime
theorem t_ref25_never : Lib.fs N.ref25_never = some K.ref25_never := Has2.t_ref25_never
theorem t_ref25_Close : Lib.fs N.ref25_Close = some K.ref25_Close := Has2.t_ref25_Close
theorem t_ref26_Less : Lib.fs N.ref26_Less = some K.ref26_Less := Has2.t_ref26_Less
theorem t_ref25_Valid : Lib.fs N.ref25_Valid = some K.ref25_Valid := Has2.t_ref25_Valid
theorem t_ref25_Copy : Lib.fs N.ref25_Copy = some K.ref25_Copy := Has2.t_ref25_Copy
theorem t_ref23_SameInts : Lib.fs N.ref23_SameInts = some K.ref23_SameInts := Has2.t_ref23_SameInts
theorem t_ref25_Join : Lib.fs N.ref25_Join = some K.ref25_Join := Has2.t_ref25_Join
theorem t_ref25_asked : Lib.fs N.ref25_asked = some K.ref25_asked := Has2.t_ref25_asked
theorem t_ref25_close : Lib.fs N.ref25_close = some K.ref25_close := Has2.t_ref25_close
theorem t_slices_IndexFunc_int_int : Lib.fs N.slices_IndexFunc_int_int = some K.slices_IndexFunc_int_int := Has2.t_slices_IndexFunc_int_int
theorem t_slices_Index_int_int : Lib.fs N.slices_Index_int_int = some K.slices_Index_int_int := Has2.t_slices_Index_int_int
theorem t_swaps_Possible_1 : Lib.fs N.swaps_Possible_1 = some K.swaps_Possible_1 := Has2.t_swaps_Possible_1
theorem t_slices_ContainsFunc_api_World_api_World : Lib.fs N.slices_ContainsFunc_api_World_api_World = some K.slices_ContainsFunc_api_World_api_World := Has2.t_slices_ContainsFunc_api_World_api_World
theorem t_swaps_Possible_1_1 : Lib.fs N.swaps_Possible_1_1 = some K.swaps_Possible_1_1 := Has2.t_swaps_Possible_1_1
theorem t_lists_In : Lib.fs N.lists_In = some K.lists_In := Has2.t_lists_In
theorem t_ref25_Plain : Lib.fs N.ref25_Plain = some K.ref25_Plain := Has2.t_ref25_Plain
theorem t_ref25_lower : Lib.fs N.ref25_lower = some K.ref25_lower := Has2.t_ref25_lower
theorem t_ref03_Time : Lib.fs N.ref03_Time = some K.ref03_Time := Has2.t_ref03_Time
theorem t_slices_IndexFunc_api_World_api_World : Lib.fs N.slices_IndexFunc_api_World_api_World = some K.slices_IndexFunc_api_World_api_World := Has2.t_slices_IndexFunc_api_World_api_World
theorem t_ref03_walked : Lib.fs N.ref03_walked = some K.ref03_walked := Has2.t_ref03_walked
theorem t_ref03_ends : Lib.fs N.ref03_ends = some K.ref03_ends := Has2.t_ref03_ends
end K
end Go.Ev

/- The base of all specifications: calls, encodings of the program's data. -/
namespace Go.Ev
open Go

variable [Lib]

noncomputable def CALL : Oracle := callL Lib.fs

theorem CALL_of {raw f : Nat} {args : List D} {H : Heap} {fn : Fn} {r : D × Heap} (hf : Lib.fs f = some fn) (hn : fn.nargs = args.length)
    (h : (exS CALL fn.body ⟨initVs args fn.vars, H⟩).bind (endR fn.res H.length raw) = some r) : CALL raw f args H = some r := call_of hf hn h

/-- A loop that goes up, round by round. -/
theorem loop_up {gc : Bool} {dead : List Nat} {c : C} {vs : List D} {H : Heap} (s : Nat → St) (n : Nat) {e : Ex} {st : St}
    (h0 : (⟨dropV dead vs, H⟩ : St) = s 0) (h : ∀ j, j < n → roundC gc dead (s j).H.length (exS CALL c (s j)) = some (s (j + 1)))
    (he : exS CALL c (s n) = some (e, st)) (hn : e ≠ .normal) : exS CALL (.loop gc dead c) ⟨vs, H⟩ = some (e, st) := by
  show loopC gc dead (exS CALL c) ⟨dropV dead vs, H⟩ = _
  rw [h0]
  exact loopC_up s n h (loopC_exit he hn)

/-- A loop's start. -/
theorem loop_is {gc : Bool} {dead : List Nat} {c : C} {vs : List D} {H : Heap} {p : Ex × St} (h : loopC gc dead (exS CALL c) ⟨dropV dead vs, H⟩ = some p) : exS CALL (.loop gc dead c) ⟨vs, H⟩ = some p := h

/-- Types of data, not of the evaluator. -/
class Dat (α : Type) where
  dflt : α
instance : Dat Int := ⟨0⟩
instance : Dat Nat := ⟨0⟩
instance : Dat Bool := ⟨false⟩
instance {α : Type} : Dat (List α) := ⟨[]⟩

/-- An element of a list, by its number. -/
def nth {α : Type} [Dat α] (l : List α) (j : Nat) : α := l.getD j Dat.dflt

theorem nth_some {α : Type} [Dat α] {l : List α} {j : Nat} (h : j < l.length) : l[j]? = some (nth l j) := by simp [nth, h]
theorem map_nth {α β : Type} [Dat α] (f : α → β) {l : List α} {j : Nat} (h : j < l.length) : (l.map f)[j]? = some (f (nth l j)) := by rw [List.getElem?_map, nth_some h]; rfl
theorem map2_nth {α β γ : Type} [Dat α] (f : β → γ) (g : α → β) {l : List α} {j : Nat} (h : j < l.length) : ((l.map g).map f)[j]? = some (f (g (nth l j))) := by rw [List.getElem?_map, map_nth g h]; rfl
theorem nth_mem {α : Type} [Dat α] {l : List α} {j : Nat} (h : j < l.length) : nth l j ∈ l := List.mem_of_getElem? (nth_some h)
theorem nth_eq {α : Type} [Dat α] {l : List α} {j : Nat} {x : α} (h : l[j]? = some x) : nth l j = x := by simp [nth, h]
theorem take_nth {α : Type} [Dat α] {l : List α} {j : Nat} (h : j < l.length) : l.take (j + 1) = l.take j ++ [nth l j] := by
  rw [List.take_succ_eq_append_getElem h]; simp [nth, h]
/- conditions that are known -/
theorem ltI_t {a b : Int} (h : a < b) : (a < b) = True := by simp [h]
theorem ltI_f {a b : Int} (h : b ≤ a) : (a < b) = False := by simp [Int.not_lt.2 h]
theorem leI_t {a b : Int} (h : a ≤ b) : (a ≤ b) = True := by simp [h]
theorem leI_f {a b : Int} (h : b < a) : (a ≤ b) = False := by simp [Int.not_le.2 h]
theorem eqI_t {a b : Int} (h : a = b) : (a = b) = True := by simp [h]
theorem eqI_f {a b : Int} (h : a ≠ b) : (a = b) = False := by simp [h]
theorem ltN_t {a b : Nat} (h : a < b) : (a < b) = True := by simp [h]
theorem ltN_f {a b : Nat} (h : b ≤ a) : (a < b) = False := by simp [Nat.not_lt.2 h]

theorem leN_t {a b : Nat} (h : a ≤ b) : (a ≤ b) = True := by simp [h]
theorem leN_f {a b : Nat} (h : b < a) : (a ≤ b) = False := by simp [Nat.not_le.2 h]

theorem eqN_t {a b : Nat} (h : a = b) : (a = b) = True := by simp [h]
theorem eqN_f {a b : Nat} (h : a ≠ b) : (a = b) = False := by simp [h]

attribute [go_sem] eqN_t eqN_f ltI_t ltI_f leI_t leI_f eqI_t eqI_f ltN_t ltN_f leN_t leN_f wrap_id map_nth map2_nth idx_pos
@[go_sem] theorem q_cast_add (a b : Nat) : ((a + b : Nat) : Int) = (a : Int) + (b : Int) := (rfl)
@[go_sem] theorem q_cast_one : ((1 : Nat) : Int) = 1 := (rfl)
@[go_sem] theorem q_cast_zero : ((0 : Nat) : Int) = 0 := (rfl)
@[go_sem] theorem q_add_sub (a b : Int) : a + b - b = a := Int.add_sub_cancel a b
@[go_sem] theorem q_toNat_zero : (0 : Int).toNat = 0 := (rfl)
@[go_sem] theorem q_toNat_nat (n : Nat) : (n : Int).toNat = n := (rfl)
@[go_sem] theorem q_toNat_one (n : Nat) : ((n : Int) + 1).toNat = n + 1 := (rfl)
@[go_sem] theorem q_izero_add (a : Int) : 0 + a = a := Int.zero_add a
@[go_sem] theorem q_iadd_zero (a : Int) : a + 0 = a := Int.add_zero a
@[go_sem] theorem q_isub_zero (a : Int) : a - 0 = a := Int.sub_zero a

/- encodings -/
abbrev tI (n : Int) : T := .int .i64 n
abbrev tL (l : List Int) : T := .sl (l.map (.int .i64))

/-- Elements of a list that is written on. -/
@[go_sem] theorem mapO_frz_snoc (H : Heap) (n : Nat) (ts : List T) (x : T) : mapO (frz H n) (ts.map .t ++ [.t x]) = some (ts ++ [x]) := by
  have : ts.map D.t ++ [.t x] = (ts ++ [x]).map .t := by simp
  rw [this, mapO_frz_t]
@[go_sem] theorem q_map_append {α β : Type} (f : α → β) (a b : List α) : (a ++ b).map f = a.map f ++ b.map f := List.map_append

end Go.Ev

/- Closures over variables of frozen data; loops that look for the first. -/
namespace Go.Ev
open Go
variable [Lib] [Has1] [Has2]

/-- A loop that ends at the first round of a kind. -/
theorem loop_first {gc : Bool} {dead : List Nat} {c : C} {vs : List D} {H : Heap} (s : Nat → St) (n : Nat) (p : Nat → Bool) (e : Nat → Ex × St) (eN : Ex × St)
    (h0 : (⟨dropV dead vs, H⟩ : St) = s 0) (hs : ∀ j, j < n → p j = false → roundC gc dead (s j).H.length (exS CALL c (s j)) = some (s (j + 1)))
    (he : ∀ j, j < n → p j = true → exS CALL c (s j) = some (e j) ∧ (e j).1 ≠ .normal) (hN : exS CALL c (s n) = some eN) (hn : eN.1 ≠ .normal) :
    exS CALL (.loop gc dead c) ⟨vs, H⟩ = some (match (List.range n).find? p with | some j => e j | none => eN) := by
  show loopC gc dead (exS CALL c) ⟨dropV dead vs, H⟩ = _
  rw [h0]
  cases hf : (List.range n).find? p with
  | none =>
    refine loopC_up s n (fun j hj => hs j hj ?_) (loopC_exit hN hn)
    have := List.find?_eq_none.1 hf j (List.mem_range.2 hj)
    simpa using this
  | some k =>
    obtain ⟨h1, as, bs, h2, h3⟩ := List.find?_eq_some_iff_append.1 hf
    have hk : k < n := List.mem_range.1 (List.mem_of_find?_eq_some hf)
    have hlt : ∀ j, j < k → p j = false := by
      intro j hj
      have hlen : as.length = k := by
        have h4 : (List.range n)[as.length]? = some k := by rw [h2]; simp
        have h5 : as.length < n := by
          have := congrArg List.length h2; simp at this; omega
        rw [List.getElem?_range h5] at h4
        exact Option.some.inj h4
      have : j ∈ as := by
        have h6 : (List.range n)[j]? = some j := List.getElem?_range (by omega)
        rw [h2, List.getElem?_append_left (by omega)] at h6
        exact List.mem_of_getElem? h6
      simpa using h3 j this
    obtain ⟨k1, k2⟩ := he k hk h1
    exact loopC_up s k (fun j hj => hs j (by omega) (hlt j hj)) (loopC_exit k1 k2)

/-- The rounds of 'for again := true; again; {..}'. -/
def closeN {α : Type} (f : α → α × Bool) : Nat → α → α
  | 0, l => l
  | n + 1, l => if (f l).2 then closeN f n (f l).1 else (f l).1

theorem loop_again {α : Type} {gc : Bool} {dead : List Nat} {c : C} {vs : List D} {H : Heap} (S : α → Bool → St) (E : α → Ex × St) (f : α → α × Bool) (inv : α → Prop) (mes : α → Nat)
    (hinv : ∀ l, inv l → inv (f l).1 ∧ ((f l).2 = true → mes (f l).1 < mes l))
    (hs : ∀ l, inv l → roundC gc dead (S l true).H.length (exS CALL c (S l true)) = some (S (f l).1 (f l).2))
    (he : ∀ l, inv l → exS CALL c (S l false) = some (E l) ∧ (E l).1 ≠ .normal) (l : α) (hl : inv l) (h0 : (⟨dropV dead vs, H⟩ : St) = S l true) :
    exS CALL (.loop gc dead c) ⟨vs, H⟩ = some (E (closeN f (mes l + 1) l)) ∧ inv (closeN f (mes l + 1) l) := by
  have key : ∀ (n : Nat) (l : α), inv l → mes l < n → loopC gc dead (exS CALL c) (S l true) = some (E (closeN f n l)) ∧ inv (closeN f n l) := by
    intro n
    induction n with
    | zero => intro l _ h; omega
    | succ n ih =>
      intro l hl hm
      obtain ⟨h1, h2⟩ := hinv l hl
      have hr := hs l hl
      cases hf : (f l).2 with
      | true =>
        rw [hf] at hr
        obtain ⟨k1, k2⟩ := ih (f l).1 h1 (by have := h2 hf; omega)
        simp only [closeN, hf, if_true]
        exact ⟨loopC_step hr k1, k2⟩
      | false =>
        rw [hf] at hr
        obtain ⟨k1, k2⟩ := he (f l).1 h1
        simp only [closeN, hf, Bool.false_eq_true, if_false]
        exact ⟨loopC_step hr (loopC_exit k1 k2), h1⟩
  have := key (mes l + 1) l hl (Nat.lt_succ_self _)
  show loopC gc dead (exS CALL c) ⟨dropV dead vs, H⟩ = _ ∧ _
  rw [h0]; exact this

theorem find_any {n : Nat} {p : Nat → Bool} : ((List.range n).find? p).isSome = (List.range n).any p := by
  rw [List.isSome_find?]

def capsN (m : Nat) : List D := (List.range m).map fun i => .bp i 0
def boxesT (bs : List (List T)) : Heap := bs.map fun cs => .box (cs.map .t)

theorem boxesT_get {bs : List (List T)} {i : Nat} (h : i < bs.length) : (boxesT bs)[i]? = some (.box (bs[i].map .t)) := by simp [boxesT, h]
theorem boxesT_len (bs : List (List T)) : (boxesT bs).length = bs.length := by simp [boxesT]

theorem addNew_app : ∀ (l sel : List Nat), (sel ++ l).Nodup → addNew sel l = sel ++ l
  | [], sel, _ => by simp [addNew]
  | i :: r, sel, h => by
    have : sel.contains i = false := by
      rw [← Bool.not_eq_true, List.contains_iff_mem]
      intro hm
      have := List.nodup_append.1 h
      exact this.2.2 i hm i List.mem_cons_self rfl
    simp only [addNew, this, Bool.false_eq_true, if_false]
    rw [addNew_app r (sel ++ [i]) (by simpa using h)]
    simp

theorem idxOf_range' : ∀ (l : List Nat) (i k : Nat), l.Nodup → l[k]? = some i → idxOf l i = some k
  | [], i, k, _, h => by simp at h
  | a :: l, i, 0, _, h => by simp at h; simp [idxOf, h]
  | a :: l, i, k + 1, hn, h => by
    simp at h
    have hne : a ≠ i := fun e => (List.nodup_cons.1 hn).1 (e ▸ List.mem_of_getElem? h)
    simp only [idxOf, if_neg hne, idxOf_range' l i k (List.nodup_cons.1 hn).2 h, Option.map_some]

theorem idxOf_range {m i : Nat} (h : i < m) : idxOf (List.range m) i = some i := idxOf_range' _ _ _ List.nodup_range (List.getElem?_range h)

theorem mapO_id {α : Type} {f : α → Option α} : ∀ {l : List α}, (∀ x ∈ l, f x = some x) → mapO f l = some l
  | [], _ => rfl
  | a :: l, h => by
    simp only [mapO, h a List.mem_cons_self, Option.bind_some, mapO_id fun x hx => h x (List.mem_cons_of_mem _ hx), Option.map_some]

theorem renObj_pure (f : Nat → Option Nat) (cs : List T) : renObj f (.box (cs.map .t)) = some (.box (cs.map .t)) := by
  simp only [renObj_box, mapO_ren_t, Option.map_some]

theorem pick_get' {H : Heap} : ∀ {l : List Nat} {hs : Heap}, l.length = hs.length → (∀ (k i : Nat) (o : Obj), l[k]? = some i → hs[k]? = some o → H[i]? = some o) → pick H l = some hs
  | [], [], _, _ => rfl
  | [], _ :: _, h, _ => by simp at h
  | _ :: _, [], h, _ => by simp at h
  | i :: l, o :: hs, h, hg => by
    rw [pick_cons, hg 0 i o rfl rfl, Option.bind_some, pickC_eq, pick_get' (l := l) (hs := hs) (by simpa using h) fun k i o hk ho => hg (k + 1) i o (by simpa using hk) (by simpa using ho)]
    rfl

theorem putBack_self {H : Heap} : ∀ {l : List Nat} {os : Heap}, (∀ (k i : Nat) (o : Obj), l[k]? = some i → os[k]? = some o → H[i]? = some o) → putBack H l os = H
  | [], os, _ => by cases os <;> rfl
  | i :: l, [], _ => rfl
  | i :: l, o :: os, hg => by
    simp only [putBack]
    rw [set_self (hg 0 i o rfl rfl)]
    exact putBack_self fun k i o hk ho => hg (k + 1) i o (by simpa using hk) (by simpa using ho)

theorem opCa_over (call : Oracle) (bs : List (List T)) (E : Heap) (f raw : Nat) (args : List D) {r : D} (h : call raw f args (boxesT bs) = some (r, boxesT bs)) (hr : pureD r = true)
    (ha : ∀ H : Heap, argsD H [] 0 args = some args ∧ frozenArrs H [] 0 args = []) (hids : addNew [] (idsL 8 args) = List.range bs.length)
    (hren : mapO (ren (idxOf (List.range bs.length)) 8) args = some args) : opCa (boxesT bs ++ E) call f raw [] args = some (r, boxesT bs ++ E) := by
  generalize hH : boxesT bs ++ E = H
  have hget : ∀ i (hi : i < bs.length), H[i]? = some (.box (bs[i].map .t)) := fun i hi => by
    rw [← hH, List.getElem?_append_left (by rw [boxesT_len]; exact hi), boxesT_get hi]
  obtain ⟨ha, hfz⟩ := ha H
  have hno : idsOf H (List.range bs.length) = [] := by
    simp only [idsOf, List.flatMap_eq_nil_iff, List.mem_range]
    intro i hi
    rw [hget i hi]
    exact idsL_t 8 bs[i]
  have hsel : reach H 3 (List.range bs.length) = List.range bs.length := by
    simp only [reach, hno, addNew]
  have hget2 : ∀ (k i : Nat) (o : Obj), (List.range bs.length)[k]? = some i → (boxesT bs)[k]? = some o → H[i]? = some o := by
    intro k i o hk ho
    have hkl : k < bs.length := by have := (List.getElem?_eq_some_iff.1 hk).1; simpa using this
    rw [List.getElem?_range hkl] at hk
    cases hk
    rw [boxesT_get hkl] at ho
    rw [hget k hkl, ← ho]
  have hpick : pick H (List.range bs.length) = some (boxesT bs) := pick_get' (by simp [boxesT_len]) hget2
  have hro : ∀ f : Nat → Option Nat, mapO (renObj f) (boxesT bs) = some (boxesT bs) := fun f => mapO_id fun o ho => by
    simp only [boxesT, List.mem_map] at ho
    obtain ⟨cs, _, rfl⟩ := ho
    exact renObj_pure f cs
  have hput : putBack H (List.range bs.length) (boxesT bs) = H := putBack_self hget2
  rw [opCa_gen, callG_eq, ha, Option.bind_some, callA_eq, hids, hsel, callS_eq, hren, Option.bind_some, hfz, callR_eq]
  simp only [pins]
  rw [hpick, Option.bind_some, callP_eq, hro, Option.bind_some, callQ_eq, h, Option.bind_some]
  cases hb : bs with
  | nil =>
    subst hb
    have hrr := ren_pure (f := backTo [] H.length) hr
    simp only [depth] at hrr
    simp only [List.length_nil, List.range_zero, boxesT, List.map_nil]
    unfold callW
    split
    · rfl
    · rw [callB_eq, hrr, Option.bind_some, callZ_eq]
      simp [mapO, callY, putBack]
  | cons b bt =>
    rw [← hb]
    have hne : List.range bs.length = 0 :: (List.range' 1 bt.length) := by rw [hb]; simp [List.range_eq_range', List.range'_succ]
    have hrr := ren_pure (f := backTo (List.range bs.length) H.length) hr
    simp only [depth] at hrr
    have hw : callW H H (List.range bs.length) (r, boxesT bs) = callB H H.length (List.range bs.length) (r, boxesT bs) := by
      rw [hne]; rfl
    rw [hw, callB_eq, hrr, Option.bind_some, callZ_eq, hro, Option.bind_some, callY_eq, List.length_range, List.take_of_length_le (by rw [boxesT_len]; exact Nat.le_refl _), hput,
      List.drop_eq_nil_of_le (by rw [boxesT_len]; exact Nat.le_refl _), List.append_nil]

theorem argsD_T (H : Heap) (cs : List D) (hc : ∀ i, argsD H [] i cs = some cs ∧ frozenArrs H [] i cs = []) : ∀ (ts : List T) (i : Nat), argsD H [] i (ts.map .t ++ cs) = some (ts.map .t ++ cs) ∧ frozenArrs H [] i (ts.map .t ++ cs) = []
  | [], i => hc i
  | t :: ts, i => by
    obtain ⟨h1, h2⟩ := argsD_T H cs hc ts (i + 1)
    simp only [List.map_cons, List.cons_append, argsD_cons, frozenArrs_cons, memB, argK_f, argD_t, Option.bind_some, argC_eq, h1, h2, frK_f, arrs_tt]
    exact ⟨rfl, rfl⟩

theorem argsD_bps (H : Heap) : ∀ (l : List Nat) (i : Nat), argsD H [] i (l.map fun i => .bp i 0) = some (l.map fun i => .bp i 0) ∧ frozenArrs H [] i (l.map fun i => .bp i 0) = []
  | [], i => ⟨rfl, rfl⟩
  | a :: l, i => by
    obtain ⟨h1, h2⟩ := argsD_bps H l (i + 1)
    simp only [List.map_cons, argsD_cons, frozenArrs_cons, memB, argK_f, argD_bp, Option.bind_some, argC_eq, h1, h2, frK_f, arrs_bp]
    exact ⟨rfl, rfl⟩

theorem idsL_caps (n m : Nat) : idsL n (capsN m) = List.range m := by
  simp only [idsL, capsN, List.flatMap_map]
  have : ∀ l : List Nat, (l.flatMap fun a => ids n (.bp a 0)) = l := by
    intro l
    induction l with
    | nil => rfl
    | cons a l ih => rw [List.flatMap_cons, ih, ids_bp]; rfl
  exact this _

theorem ren_caps (n m : Nat) : mapO (ren (idxOf (List.range m)) n) (capsN m) = some (capsN m) := mapO_id fun d hd => by
  simp only [capsN, List.mem_map, List.mem_range] at hd
  obtain ⟨k, hk, rfl⟩ := hd
  rw [ren_bp, idxOf_range hk]; rfl

theorem mapO_app {α β : Type} {f : α → Option β} : ∀ {a b : List α} {x y : List β}, mapO f a = some x → mapO f b = some y → mapO f (a ++ b) = some (x ++ y)
  | [], b, x, y, h1, h2 => by simp [mapO] at h1; subst h1; exact h2
  | c :: a, b, x, y, h1, h2 => by
    simp only [mapO, Option.bind_eq_some_iff, Option.map_eq_some_iff] at h1
    obtain ⟨z, hz, r, hr, rfl⟩ := h1
    simp only [List.cons_append, mapO, hz, Option.bind_some, mapO_app hr h2, Option.map_some]

theorem opCa_clos (call : Oracle) (bs : List (List T)) (E : Heap) (f raw : Nat) (ts : List T) {r : D} (h : call raw f (ts.map .t ++ capsN bs.length) (boxesT bs) = some (r, boxesT bs)) (hr : pureD r = true) :
    opCa (boxesT bs ++ E) call f raw [] (ts.map .t ++ capsN bs.length) = some (r, boxesT bs ++ E) :=
  opCa_over call bs E f raw _ h hr (fun H => argsD_T H _ (argsD_bps H _) ts 0)
    (by rw [idsL_app, idsL_t, List.nil_append, idsL_caps, addNew_app _ _ (by simpa using List.nodup_range), List.nil_append])
    (mapO_app (mapO_ren_t _ _ _) (ren_caps _ _))

/-- A closure that is handed on, ahead of which stand frozen data. -/
theorem opCa_fn (call : Oracle) (bs : List (List T)) (E : Heap) (g f raw : Nat) (ts : List T) {r : D} (h : call raw f (ts.map .t ++ [.fn g (capsN bs.length)]) (boxesT bs) = some (r, boxesT bs)) (hr : pureD r = true) :
    opCa (boxesT bs ++ E) call f raw [] (ts.map .t ++ [.fn g (capsN bs.length)]) = some (r, boxesT bs ++ E) :=
  opCa_over call bs E f raw _ h hr (fun H => argsD_T H _ (fun i => ⟨rfl, rfl⟩) ts 0)
    (by rw [idsL_app, idsL_t, List.nil_append, idsL_cons, ids_fn, idsL_caps, idsL_nil, List.append_nil, addNew_app _ _ (by simpa using List.nodup_range), List.nil_append])
    (mapO_app (mapO_ren_t _ _ _) (by rw [mapO_cons, ren_fn, ren_caps]; rfl))

theorem clos_call {f : Nat} {bs : List (List T)} {x : T} {r : D} (E : Heap) (h : CALL 0 f (.t x :: capsN bs.length) (boxesT bs) = some (r, boxesT bs)) (hr : pureD r = true) :
    opCa (boxesT bs ++ E) CALL f 0 [] (.t x :: capsN bs.length) = some (r, boxesT bs ++ E) := opCa_clos CALL bs E f 0 [x] h hr
theorem clos_call0 {f : Nat} {bs : List (List T)} {x : T} {r : D} (h : CALL 0 f (.t x :: capsN bs.length) (boxesT bs) = some (r, boxesT bs)) (hr : pureD r = true) :
    opCa (boxesT bs) CALL f 0 [] (.t x :: capsN bs.length) = some (r, boxesT bs) := by
  have := clos_call [] h hr; rwa [List.append_nil] at this

theorem opCa_clos2 (call : Oracle) (bs : List (List T)) (g f raw : Nat) (x : T) {r : D} (h : call raw f [.t x, .fn g (capsN bs.length)] (boxesT bs) = some (r, boxesT bs)) (hr : pureD r = true) :
    opCa (boxesT bs) call f raw [] [.t x, .fn g (capsN bs.length)] = some (r, boxesT bs) := by
  have := opCa_fn call bs [] g f raw [x] h hr
  rwa [List.append_nil] at this

/- a heap of such variables, and one array behind them -/
section
variable (bs : List (List T)) (o o' : Obj)
@[go_sem] theorem boxesT_length : (boxesT bs).length = bs.length := boxesT_len bs
@[go_sem] theorem boxes_last : (boxesT bs ++ [o])[bs.length]? = some o := by
  rw [List.getElem?_append_right (by rw [boxesT_len]; exact Nat.le_refl _), boxesT_len]; simp
@[go_sem] theorem boxes_set : (boxesT bs ++ [o]).set bs.length o' = boxesT bs ++ [o'] := by
  rw [List.set_append_right _ _ (by rw [boxesT_len]; exact Nat.le_refl _), boxesT_len]; simp
@[go_sem] theorem boxes_take : (boxesT bs ++ [o]).take bs.length = boxesT bs := by
  rw [List.take_append_of_le_length (by rw [boxesT_len]; exact Nat.le_refl _), List.take_of_length_le (by rw [boxesT_len]; exact Nat.le_refl _)]
@[go_sem] theorem boxes_take1 : (boxesT bs ++ [o]).take (bs.length + 1) = boxesT bs ++ [o] := List.take_of_length_le (by simp [boxesT_len])
@[go_sem] theorem boxes_take0 : (boxesT bs).take bs.length = boxesT bs := List.take_of_length_le (by simp [boxesT_len])
@[go_sem] theorem heapOld_app (k : Nat) (a b : Heap) : heapOld k (a ++ b) = (heapOld k a && heapOld k b) := by
  rw [← heapOld_eq, ← heapOld_eq, ← heapOld_eq, List.all_append]
@[go_sem] theorem heapOld_boxes (k : Nat) : heapOld k (boxesT bs) = true := by
  induction bs with
  | nil => rfl
  | cons b r ih =>
    show (allOld k 8 (b.map .t) && heapOld k (boxesT r)) = true
    rw [allOld_t, ih]; rfl
@[go_sem] theorem ltB_succ (n : Nat) : ltB n (n + 1) = true := by rw [ltB_iff]; simp
@[go_sem] theorem ltB_self (n : Nat) : ltB n n = false := by rw [ltB_iff]; simp
theorem allOld_capsN (k n m : Nat) (h : m ≤ k) : allOld k n (capsN m) = true := by
  unfold allOld capsN
  rw [List.all_eq_true]
  intro d hd
  obtain ⟨i, hi, rfl⟩ := List.mem_map.1 hd
  rw [old_bp, ltB_iff]
  have := List.mem_range.1 hi
  simp; omega
@[go_sem] theorem allOld_caps (n m : Nat) : allOld m n (capsN m) = true := allOld_capsN _ _ _ (Nat.le_refl _)
@[go_sem] theorem allOld_caps1 (n m : Nat) : allOld (m + 1) n (capsN m) = true := allOld_capsN _ _ _ (Nat.le_succ _)
end

/-- The numbers for which a test holds. -/
def whereF (n : Nat) (p : Nat → Bool) : List Int := ((List.range n).filter p).map (fun (i : Nat) => (i : Int))
theorem whereF_succ (n : Nat) (p : Nat → Bool) : whereF (n + 1) p = if p n = true then whereF n p ++ [(n : Int)] else whereF n p := by
  unfold whereF
  rw [List.range_succ, List.filter_append, List.map_append]
  by_cases h : p n = true <;> simp [h]
theorem whereF_len (n : Nat) (p : Nat → Bool) : (whereF n p).length ≤ n := by
  unfold whereF
  rw [List.length_map]
  have := List.length_filter_le p (List.range n)
  simpa using this

theorem where_ok (n : Nat) (hn : n ≤ 1000000) (f : Nat) (bs : List (List T)) (p : Nat → Bool) (h : ∀ k, k < n → CALL 0 f (I k :: capsN bs.length) (boxesT bs) = some (B (p k), boxesT bs)) :
    CALL 0 N.lists_Where [I n, .fn f (capsN bs.length)] (boxesT bs) = some (.t (tL (whereF n p)), boxesT bs) := by
  refine CALL_of K.t_lists_Where rfl ?_
  have hlen := fun k => whereF_len k p
  have loop : exS CALL K.lists_Where_l1 ⟨[I n, .fn f (capsN bs.length), .nil, .ref bs.length 0 0, .und, I n, I 0], boxesT bs ++ [.arr 1 false 0 []]⟩ =
      some (.exit 0, ⟨[.und, .fn f (capsN bs.length), .und, .ref bs.length 0 (whereF n p).length, .und, I n, I n], boxesT bs ++ [.arr 1 false 0 (((whereF n p).map (T.int .i64)).map .t)]⟩) := by
    refine loop_up (fun j => ⟨[.und, .fn f (capsN bs.length), .und, .ref bs.length 0 (whereF j p).length, .und, I n, I j], boxesT bs ++ [.arr 1 false 0 (((whereF j p).map (T.int .i64)).map .t)]⟩) n rfl ?_ ?_ (by simp)
    · intro j hj
      have hc := clos_call [.arr 1 false 0 (((whereF j p).map (T.int .i64)).map .t)] (h j hj) rfl
      have := hlen j
      by_cases hp : p j = true
      · simp (disch := omega) only [go_sem, K.lists_Where_l1b, hc, hp, whereF_succ, ↓reduceIte]
      · simp (disch := omega) only [go_sem, K.lists_Where_l1b, hc, hp, whereF_succ, ↓reduceIte]
    · simp (disch := omega) only [go_sem, K.lists_Where_l1b, ↓reduceIte]
  simp (disch := omega) only [go_sem, K.lists_Where, ↓reduceIte, loop]

end Go.Ev

/- Slices of frozen lists; elements' sizes. -/
namespace Go.Ev
open Go
variable [Lib] [Has1] [Has2]

theorem cellsAre_map {α : Type} (sz : Nat) (f : α → T) (h : ∀ a, lenIs sz (f a).cells = true) : ∀ l : List α, cellsAre sz (l.map f) = true
  | [] => rfl
  | a :: l => by rw [List.map_cons, cellsAre_cons, h, cellsAre_map sz f h l]; rfl
@[go_sem] theorem cellsAre_int (k : IntKind) (l : List Int) : cellsAre 1 (l.map (.int k)) = true := cellsAre_map 1 _ (fun _ => rfl) l

theorem all_lenIs (sz : Nat) : ∀ ts : List T, (ts.all fun e => e.cells.length == sz) = cellsAre sz ts
  | [] => rfl
  | t :: ts => by
    rw [List.all_cons, cellsAre_cons, all_lenIs sz ts]
    congr 1
    rw [Bool.eq_iff_iff, lenIs_iff]; simp

section
variable (H : Heap) (sz : Nat) (ts : List T) (i j : Int)
@[go_sem] theorem opSc_hi : opSc H sz (some (.t (.sl ts))) (some none) (some (some i)) = if 0 ≤ i then (if i ≤ ts.length then (if cellsAre sz ts = true then some (.t (.sl (ts.take i.toNat)), H) else none) else none) else none := by
  simp only [opSc, Option.bind_some, sliceD, bound, all_lenIs, idx]
  by_cases h1 : 0 ≤ i
  · rw [if_pos h1, if_pos h1, Option.bind_some]
    by_cases h2 : i ≤ ts.length
    · rw [if_pos h2]
      by_cases h3 : cellsAre sz ts = true
      · rw [if_pos h3, if_pos ⟨by omega, by omega, h3⟩]; rfl
      · rw [if_neg h3, if_neg fun h => h3 h.2.2]; rfl
    · rw [if_neg h2, if_neg fun h => h2 (by omega)]; rfl
  · rw [if_neg h1, if_neg h1]; rfl
@[go_sem] theorem opSc_lo : opSc H sz (some (.t (.sl ts))) (some (some i)) (some none) = if 0 ≤ i then (if i ≤ ts.length then (if cellsAre sz ts = true then some (.t (.sl (ts.drop i.toNat)), H) else none) else none) else none := by
  simp only [opSc, Option.bind_some, sliceD, bound, all_lenIs, idx]
  by_cases h1 : 0 ≤ i
  · rw [if_pos h1, if_pos h1, Option.bind_some]
    by_cases h2 : i ≤ ts.length
    · rw [if_pos h2]
      by_cases h3 : cellsAre sz ts = true
      · rw [if_pos h3, if_pos ⟨by omega, by omega, h3⟩, List.take_of_length_le (by simp)]; rfl
      · rw [if_neg h3, if_neg fun h => h3 h.2.2]; rfl
    · rw [if_neg h2, if_neg fun h => h2 (by omega)]; rfl
  · rw [if_neg h1, if_neg h1]; rfl
@[go_sem] theorem opSc_lohi : opSc H sz (some (.t (.sl ts))) (some (some i)) (some (some j)) = if 0 ≤ i then (if i ≤ j then (if j ≤ ts.length then (if cellsAre sz ts = true then some (.t (.sl ((ts.drop i.toNat).take (j.toNat - i.toNat))), H) else none) else none) else none) else none := by
  simp only [opSc, Option.bind_some, sliceD, bound, all_lenIs, idx]
  by_cases h1 : 0 ≤ i
  · rw [if_pos h1, if_pos h1, Option.bind_some]
    by_cases h0 : i ≤ j
    · rw [if_pos h0, if_pos (by omega : 0 ≤ j), Option.bind_some]
      by_cases h2 : j ≤ ts.length
      · rw [if_pos h2]
        by_cases h3 : cellsAre sz ts = true
        · rw [if_pos h3, if_pos ⟨by omega, by omega, h3⟩]; rfl
        · rw [if_neg h3, if_neg fun h => h3 h.2.2]; rfl
      · rw [if_neg h2, if_neg fun h => h2 (by omega)]; rfl
    · rw [if_neg h0]
      by_cases h2 : 0 ≤ j
      · rw [if_pos h2, Option.bind_some, if_neg fun h => h0 (by omega)]; rfl
      · rw [if_neg h2]; rfl
  · rw [if_neg h1, if_neg h1]; rfl
end

/- one element that has live parts -/
def bsK (H : Heap) (l : List Nat) : Option T → Option (D × Heap)
  | some t => some (.t (.sl [t]), pins H l)
  | none => none
@[go_sem] theorem bsK_some (H : Heap) (l : List Nat) (t : T) : bsK H l (some t) = some (.t (.sl [t]), pins H l) := (rfl)
@[go_sem] theorem opBs_agg (H : Heap) (sz : Nat) (cs : List D) : opBs H sz [.agg cs] = if lenIs sz cs = true then bsK H (arrs H 8 (.agg cs)) (frz H 8 (.agg cs)) else none := by
  simp only [opBs, List.all_cons, List.all_nil, Bool.and_true, D.cells]
  by_cases h : lenIs sz cs = true
  · rw [if_pos h, if_pos (by simpa using lenIs_iff.1 h)]
    simp only [mapO, depth, List.flatMap_cons, List.flatMap_nil, List.append_nil]
    cases frz H 8 (.agg cs) <;> rfl
  · rw [if_neg h, if_neg (by intro e; exact h (lenIs_iff.2 (by simpa using e)))]
@[go_sem] theorem opBs_ref (H : Heap) (id ep n : Nat) : opBs H 1 [.ref id ep n] = bsK H (arrs H 8 (.ref id ep n)) (frz H 8 (.ref id ep n)) := by
  simp only [opBs, List.all_cons, List.all_nil, Bool.and_true, D.cells, List.length_cons, List.length_nil, beq_self_eq_true, if_true, mapO, depth, List.flatMap_cons, List.flatMap_nil, List.append_nil]
  cases frz H 8 (.ref id ep n) <;> rfl

/- results with new objects, of a call that is handed none -/
def backR (H : Heap) (r : D) (os : Heap) : D × Heap := (r, H ++ os)
@[go_sem] theorem backR_eq (H : Heap) (r : D) (os : Heap) : backR H r os = (r, H ++ os) := (rfl)
def backQ (H : Heap) (os : Heap) (r : D) : Option (D × Heap) := (mapO (renObj (backTo [] H.length)) os).map (backR H r)
@[go_sem] theorem backQ_eq (H : Heap) (os : Heap) (r : D) : backQ H os r = (mapO (renObj (backTo [] H.length)) os).map (backR H r) := (rfl)
@[go_sem] theorem backP_new (H : Heap) (r : D) (o : Obj) (os : Heap) : backP H (r, o :: os) = (ren (backTo [] H.length) 8 r).bind (backQ H (o :: os)) := by
  simp only [backP, List.isEmpty_cons, Bool.and_false, Bool.false_eq_true, if_false]
  rfl

end Go.Ev

/- More about operations, and searches. -/
namespace Go.Ev
open Go
variable [Lib] [Has1] [Has2]

@[go_sem] theorem opBs_3n (H : Heap) (a b : List T) : opBs H 1 [.t (.sl a), .t (.sl b), .nil] = some (.t (.sl [.sl a, .sl b, .sl []]), H) := by
  simp only [opBs, List.all_cons, List.all_nil, D.cells, T.cells, List.map_cons, List.map_nil, List.length_cons, List.length_nil, mapO, frz, depth, arrs, List.flatMap_cons, List.flatMap_nil, pins]
  rfl
/- equality of numbers side by side -/
def eqAnd (c : Bool) : Option Bool → Option Bool
  | some d => some (c && d)
  | none => none
@[go_sem] theorem eqAnd_some (c d : Bool) : eqAnd c (some d) = some (c && d) := (rfl)
@[go_sem] theorem eqInts_nil : eqInts [] [] = some true := (rfl)
@[go_sem] theorem eqInts_cons (k : IntKind) (a b : Int) (xs ys : List T) : eqInts (.int k a :: xs) (.int k b :: ys) = eqAnd (decide (a = b)) (eqInts xs ys) := by
  simp only [eqInts, if_true, beqI]
  cases eqInts xs ys <;> rfl
def eqOut (H : Heap) (neg : Bool) : Option Bool → Option (D × Heap)
  | some r => some (.t (.bool (bif neg then !r else r)), H)
  | none => none
@[go_sem] theorem eqOut_true (H : Heap) (r : Bool) : eqOut H true (some r) = some (.t (.bool (!r)), H) := (rfl)
@[go_sem] theorem eqOut_false (H : Heap) (r : Bool) : eqOut H false (some r) = some (.t (.bool r), H) := (rfl)
@[go_sem] theorem opEqk_intsG (H : Heap) (n : Nat) (neg : Bool) (xs ys : List T) : opEqk H (.ints n) neg (some (.t (.agg xs))) (some (.t (.agg ys))) = if xs.length = n then eqOut H neg (eqInts xs ys) else none := by
  simp only [opEqk, Option.bind_some, eqkD, eqD]
  by_cases h : xs.length = n
  · simp only [if_pos h]
    cases eqInts xs ys with
    | none => rfl
    | some r => cases neg <;> rfl
  · simp only [if_neg h]; rfl

@[go_sem] theorem q_cast_two : ((2 : Nat) : Int) = 2 := (rfl)
@[go_sem] theorem q_cast_three : ((3 : Nat) : Int) = 3 := (rfl)

/- A search: the first round that leaves, or the end. -/
def firstN (n : Nat) (p : Nat → Bool) : Nat := ((List.range n).find? p).getD 0
theorem loop_srch {gc : Bool} {dead : List Nat} {c : C} {vs : List D} {H : Heap} (s : Nat → St) (n : Nat) (p : Nat → Bool) (e : Nat → Ex × St) (eN : Ex × St)
    (h0 : (⟨dropV dead vs, H⟩ : St) = s 0)
    (hs : ∀ j, j < n → p j = false → roundC gc dead (s j).H.length (exS CALL c (s j)) = some (s (j + 1)))
    (he : ∀ j, j < n → p j = true → exS CALL c (s j) = some (e j) ∧ (e j).1 ≠ .normal)
    (hN : exS CALL c (s n) = some eN) (hn : eN.1 ≠ .normal) :
    exS CALL (.loop gc dead c) ⟨vs, H⟩ = some (if (List.range n).any p = true then e (firstN n p) else eN) := by
  rw [loop_first s n p e eN h0 hs he hN hn, ← find_any]
  unfold firstN
  cases hf : (List.range n).find? p with
  | none => simp
  | some k => simp
theorem any_rng {α : Type} [Dat α] (l : List α) (p : α → Bool) : ((List.range l.length).any fun j => p (nth l j)) = l.any p := by
  rw [Bool.eq_iff_iff, List.any_eq_true, List.any_eq_true]
  constructor
  · rintro ⟨j, hj, hp⟩
    exact ⟨_, nth_mem (List.mem_range.1 hj), hp⟩
  · rintro ⟨x, hx, hp⟩
    obtain ⟨j, hj, rfl⟩ := List.getElem_of_mem hx
    exact ⟨j, List.mem_range.2 hj, by rw [nth_eq (List.getElem?_eq_getElem hj)]; exact hp⟩
theorem all_rng (n : Nat) (p : Nat → Bool) : (List.range n).all p = !((List.range n).any fun j => !p j) := by
  rw [List.all_eq_not_any_not]
end Go.Ev

/- More laws of the laid-out evaluator: slices of live arrays; appending live elements; heaps that are not known cell by cell. -/
namespace Go.Ev
open Go

section
variable (H : Heap) (sz id ep n lo hi : Nat) (i j : Int) (fz : Bool)

def scO (r : D) : Option Obj → Option (D × Heap)
  | some (.arr sz' _ ep' es) => if ep = ep' ∧ n = es.length then (if sz' = sz then some (r, H) else none) else none
  | _ => none
@[go_sem] theorem scO_arr (r : D) (sz' : Nat) (pin : Bool) (es : List D) : scO H sz ep n r (some (.arr sz' pin ep es)) = if n = es.length then (if sz' = sz then some (r, H) else none) else none := by simp [scO]
theorem scR {l h : Nat} : ((arrAt H id ep n).bind fun a => if l ≤ h ∧ h ≤ n ∧ a.1 = sz then some (D.sub id ep n l h) else none).map (fun d => (d, H)) = if l ≤ h then (if h ≤ n then scO H sz ep n (.sub id ep n l h) H[id]? else none) else none := by
  simp only [arrAt]
  generalize H[id]? = o
  by_cases h1 : l ≤ h
  · by_cases h2 : h ≤ n
    · rw [if_pos h1, if_pos h2]
      rcases o with _ | (_ | ⟨sz', pin, ep', es⟩)
      · rfl
      · rfl
      · simp only [scO]
        by_cases h3 : ep = ep' ∧ n = es.length
        · rw [if_pos h3, if_pos h3, Option.bind_some]
          by_cases h4 : sz' = sz
          · rw [if_pos h4, if_pos ⟨h1, h2, h4⟩]; rfl
          · rw [if_neg h4, if_neg fun h => h4 h.2.2]; rfl
        · rw [if_neg h3, if_neg h3]; rfl
    · rw [if_pos h1, if_neg h2]
      rcases o with _ | (_ | ⟨sz', pin, ep', es⟩)
      · rfl
      · rfl
      · by_cases h3 : ep = ep' ∧ n = es.length
        · simp only [if_pos h3, Option.bind_some]; rw [if_neg fun h => h2 h.2.1]; rfl
        · simp only [if_neg h3]; rfl
  · rw [if_neg h1]
    rcases o with _ | (_ | ⟨sz', pin, ep', es⟩)
    · rfl
    · rfl
    · by_cases h3 : ep = ep' ∧ n = es.length
      · simp only [if_pos h3, Option.bind_some]; rw [if_neg fun h => h1 h.1]; rfl
      · simp only [if_neg h3]; rfl
@[go_sem] theorem opSc_ref_hi : opSc H sz (some (.ref id ep n)) (some none) (some (some i)) = if 0 ≤ i then (if i ≤ n then scO H sz ep n (.sub id ep n 0 i.toNat) H[id]? else none) else none := by
  simp only [opSc, Option.bind_some, sliceD, bound, idx]
  by_cases h1 : 0 ≤ i
  · rw [if_pos h1, if_pos h1, Option.bind_some, scR, if_pos (Nat.zero_le _)]
    by_cases h2 : i ≤ n
    · rw [if_pos h2, if_pos (by omega)]
    · rw [if_neg h2, if_neg (by omega)]
  · rw [if_neg h1, if_neg h1]; rfl
@[go_sem] theorem opSc_ref_lo : opSc H sz (some (.ref id ep n)) (some (some i)) (some none) = if 0 ≤ i then (if i ≤ n then scO H sz ep n (.sub id ep n i.toNat n) H[id]? else none) else none := by
  simp only [opSc, Option.bind_some, sliceD, bound, idx]
  by_cases h1 : 0 ≤ i
  · rw [if_pos h1, if_pos h1, Option.bind_some, scR]
    by_cases h2 : i ≤ n
    · rw [if_pos h2, if_pos (by omega), if_pos (by omega)]
    · rw [if_neg h2, if_neg (by omega)]
  · rw [if_neg h1, if_neg h1]; rfl
@[go_sem] theorem opSc_ref_lohi : opSc H sz (some (.ref id ep n)) (some (some i)) (some (some j)) = if 0 ≤ i then (if i ≤ j then (if j ≤ n then scO H sz ep n (.sub id ep n i.toNat j.toNat) H[id]? else none) else none) else none := by
  simp only [opSc, Option.bind_some, sliceD, bound, idx]
  by_cases h1 : 0 ≤ i
  · rw [if_pos h1, if_pos h1, Option.bind_some]
    by_cases h0 : i ≤ j
    · rw [if_pos h0, if_pos (by omega), Option.bind_some, scR, if_pos (by omega)]
      by_cases h2 : j ≤ n
      · rw [if_pos h2, if_pos (by omega)]
      · rw [if_neg h2, if_neg (by omega)]
    · rw [if_neg h0]
      by_cases h2 : 0 ≤ j
      · rw [if_pos h2, Option.bind_some, scR, if_neg (by omega)]
      · rw [if_neg h2]; rfl
  · rw [if_neg h1, if_neg h1]; rfl
@[go_sem] theorem opSc_nil_hi : opSc H sz (some .nil) (some none) (some (some i)) = if i = 0 then some (.nil, H) else none := by
  simp only [opSc, Option.bind_some, sliceD, bound, idx]
  by_cases h1 : 0 ≤ i
  · rw [if_pos h1, Option.bind_some]
    by_cases h2 : i = 0
    · rw [if_pos h2, if_pos (by omega)]; rfl
    · rw [if_neg h2, if_neg (by omega)]; rfl
  · rw [if_neg h1, if_neg (by omega)]; rfl
@[go_sem] theorem opSc_nil_lo : opSc H sz (some .nil) (some (some i)) (some none) = if i = 0 then some (.nil, H) else none := by
  simp only [opSc, Option.bind_some, sliceD, bound, idx]
  by_cases h1 : 0 ≤ i
  · rw [if_pos h1, Option.bind_some]
    by_cases h2 : i = 0
    · rw [if_pos h2, if_pos (by omega)]; rfl
    · rw [if_neg h2, if_neg (by omega)]; rfl
  · rw [if_neg h1, if_neg (by omega)]; rfl

/- appending elements that stay live -/
def appD (x : D) (ys : List D) : Option (D × Heap) := if headSize sz ys = true then (match x with
    | .nil => if ys.length ≤ 4294967296 then some (.ref H.length 0 ys.length, H ++ [.arr sz false 0 ys]) else none
    | .ref id ep n => appRef H sz id ep n ys H[id]?
    | _ => none) else none
@[go_sem] theorem appD_nil (ys : List D) : appD H sz .nil ys = if headSize sz ys = true then (if ys.length ≤ 4294967296 then some (.ref H.length 0 ys.length, H ++ [.arr sz false 0 ys]) else none) else none := (rfl)
@[go_sem] theorem appD_ref (ys : List D) : appD H sz (.ref id ep n) ys = if headSize sz ys = true then appRef H sz id ep n ys H[id]? else none := (rfl)
@[go_sem] theorem headSize_nil : headSize sz [] = true := (rfl)
@[go_sem] theorem headSize_cons (d : D) (r : List D) : headSize sz (d :: r) = lenIs sz d.cells := by
  rw [Bool.eq_iff_iff, lenIs_iff]; simp [headSize]

def elsO (x : D) : Option Obj → Option (D × Heap)
  | some (.arr _ _ ep' es) => if ep = ep' ∧ n = es.length then appD H sz x ((es.drop lo).take (hi - lo)) else none
  | _ => none
def elsR (x : D) : Option Obj → Option (D × Heap)
  | some (.arr _ _ ep' es) => if ep = ep' ∧ n = es.length then appD H sz x es else none
  | _ => none
@[go_sem] theorem elsO_arr (x : D) (sz' : Nat) (pin : Bool) (es : List D) : elsO H sz ep n lo hi x (some (.arr sz' pin ep es)) = if n = es.length then appD H sz x ((es.drop lo).take (hi - lo)) else none := by simp [elsO]
@[go_sem] theorem elsR_arr (x : D) (sz' : Nat) (pin : Bool) (es : List D) : elsR H sz ep n x (some (.arr sz' pin ep es)) = if n = es.length then appD H sz x es else none := by simp [elsR]

theorem appD_is (x : D) (ys : List D) : (if headSize sz ys = true then (match x with
    | .nil => if ys.length ≤ lim then some (D.ref H.length 0 ys.length, H ++ [.arr sz false 0 ys]) else none
    | .ref id ep n => (arrAt H id ep n).bind fun a => if a.1 = sz ∧ n + ys.length ≤ lim then some (.ref id ep (n + ys.length), H.set id (.arr sz a.2.1 ep (a.2.2 ++ ys))) else none
    | _ => none) else none) = appD H sz x ys := by
  unfold appD
  split
  · cases x with
    | ref id ep n =>
      simp only [arrAt]
      generalize H[id]? = o
      rcases o with _ | (_ | ⟨sz', pin, ep', es⟩)
      · rfl
      · rfl
      · simp only [appRef]
        by_cases h1 : ep = ep' ∧ n = es.length
        · rw [if_pos h1, Option.bind_some]
          by_cases h2 : sz' = sz ∧ n + ys.length ≤ lim
          · rw [if_pos h2, if_pos ⟨h1.1, h1.2, h2⟩]
          · rw [if_neg h2, if_neg fun h => h2 h.2.2]
        · rw [if_neg h1, if_neg fun h => h1 ⟨h.1, h.2.1⟩]; rfl
    | _ => rfl
  · rfl

theorem opApp_live (x y : D) (ys : List D) (h : elems H y = some ys) : opApp H sz false (some x) (some y) = appD H sz x ys := by
  simp only [opApp, Option.bind_some, appendD, h, Bool.false_eq_true, if_false]
  exact appD_is H sz x ys
@[go_sem] theorem opApp_live_nil (x : D) : opApp H sz false (some x) (some .nil) = appD H sz x [] := opApp_live H sz x .nil [] rfl
@[go_sem] theorem opApp_live_ref (x : D) : opApp H sz false (some x) (some (.ref id ep n)) = elsR H sz ep n x H[id]? := by
  cases he : elems H (.ref id ep n) with
  | some ys =>
    rw [opApp_live H sz x _ ys he]
    simp only [elems, arrAt] at he
    generalize H[id]? = o at he
    rcases o with _ | (_ | ⟨sz', pin, ep', es⟩)
    · cases he
    · cases he
    · simp only [elsR]
      by_cases h1 : ep = ep' ∧ n = es.length
      · simp only [if_pos h1] at he ⊢; cases he; rfl
      · simp only [if_neg h1] at he; cases he
  | none =>
    have : opApp H sz false (some x) (some (.ref id ep n)) = none := by simp only [opApp, Option.bind_some, appendD, he]; rfl
    rw [this]
    simp only [elems, arrAt] at he
    generalize H[id]? = o at he
    rcases o with _ | (_ | ⟨sz', pin, ep', es⟩)
    · rfl
    · rfl
    · simp only [elsR]
      by_cases h1 : ep = ep' ∧ n = es.length
      · simp only [if_pos h1] at he; cases he
      · simp only [if_neg h1]
@[go_sem] theorem opApp_live_sub (x : D) : opApp H sz false (some x) (some (.sub id ep n lo hi)) = elsO H sz ep n lo hi x H[id]? := by
  cases he : elems H (.sub id ep n lo hi) with
  | some ys =>
    rw [opApp_live H sz x _ ys he]
    simp only [elems, arrAt] at he
    generalize H[id]? = o at he
    rcases o with _ | (_ | ⟨sz', pin, ep', es⟩)
    · cases he
    · cases he
    · simp only [elsO]
      by_cases h1 : ep = ep' ∧ n = es.length
      · simp only [if_pos h1] at he ⊢; cases he; rfl
      · simp only [if_neg h1] at he; cases he
  | none =>
    have : opApp H sz false (some x) (some (.sub id ep n lo hi)) = none := by simp only [opApp, Option.bind_some, appendD, he]; rfl
    rw [this]
    simp only [elems, arrAt] at he
    generalize H[id]? = o at he
    rcases o with _ | (_ | ⟨sz', pin, ep', es⟩)
    · rfl
    · rfl
    · simp only [elsO]
      by_cases h1 : ep = ep' ∧ n = es.length
      · simp only [if_pos h1] at he; cases he
      · simp only [if_neg h1]

def opBsr (ds : List D) : Option (D × Heap) := if ds.all (fun d => d.cells.length == sz && d.solid) then some (.ref H.length 0 ds.length, H ++ [.arr sz false 0 ds]) else none
@[go_sem] theorem ev_bsr (call : Oracle) (get : X → Option D) (xs : List X) : evO call get H (.bsr xs sz) = (mapO get xs).bind (opBsr H sz) := (rfl)
@[go_sem] theorem opBsr_nil : opBsr H sz [] = some (.ref H.length 0 0, H ++ [.arr sz false 0 []]) := (rfl)
@[go_sem] theorem opBsr_agg (cs : List D) : opBsr H sz [.agg cs] = if lenIs sz cs = true then some (.ref H.length 0 1, H ++ [.arr sz false 0 [.agg cs]]) else none := by
  simp only [opBsr, List.all_cons, List.all_nil, Bool.and_true, D.cells, D.solid]
  by_cases h : lenIs sz cs = true
  · rw [if_pos h, if_pos (by simpa using lenIs_iff.1 h)]; rfl
  · rw [if_neg h, if_neg (by intro e; exact h (lenIs_iff.2 (by simpa using e)))]
end

@[go_sem] theorem q_toNat_one' : (1 : Int).toNat = 1 := (rfl)
@[go_sem] theorem q_toNat_two : (2 : Int).toNat = 2 := (rfl)
@[go_sem] theorem q_toNat_three : (3 : Int).toNat = 3 := (rfl)

/- heaps that are not known cell by cell -/
section
variable {H t : Heap} {i j k : Nat} {o o' : Obj}
theorem hp_set_get (h : i < H.length) : (H.set i o)[i]? = some o := by simp [h]
theorem hp_set_ne (h : i ≠ j) : (H.set i o)[j]? = H[j]? := List.getElem?_set_ne h
theorem hp_lt (h : H[i]? = some o) : i < H.length := (List.getElem?_eq_some_iff.1 h).1
end

end Go.Ev

/- MADE BY PROGRAM (lib.py): the numbers of functions. -/
namespace Go.Ev.N
def law34_FiringRaw : Nat := 78
def law34_FiringMade : Nat := 79
def law34_FiringNeeds : Nat := 80
def law34_awake : Nat := 81
def made_Dice_Ints : Nat := 82
def law34_scene : Nat := 83
def law34_agree : Nat := 84
def law34_ready : Nat := 85
def firing_Arm : Nat := 86
def firing_Agree : Nat := 87
def firing_Fire : Nat := 88
def firing_Abort : Nat := 89
def firing_Valid : Nat := 90
def firing_Due : Nat := 91
def ref32_Border : Nat := 92
def ref32_Seal : Nat := 93
def made_Last : Nat := 94
def ref34_Arm : Nat := 95
def ref34_Agree : Nat := 96
def ref34_Fire : Nat := 97
def ref34_Abort : Nat := 98
def ref34_Valid : Nat := 99
def firing_Safe : Nat := 100
def ref34_Safe : Nat := 101
def ref34_Due : Nat := 102
def firing_request_check : Nat := 103
def firing_timely : Nat := 104
def lists_Rising : Nat := 105
def ref32_Barred : Nat := 106
def ref32_seal : Nat := 107
def ref34_step : Nat := 108
def ref34_blast : Nat := 109
def keys_Valid : Nat := 110
def area_Clear : Nat := 111
def ref33_Valid : Nat := 112
def ref32_Clear : Nat := 113
def ref31_Copy : Nat := 114
def keys_Valid_1 : Nat := 115
def keys_roads : Nat := 116
def keys_boxed : Nat := 117
def area_Clear_1 : Nat := 118
def keys_boxed_1 : Nat := 119
def ref26_Copy_v1 : Nat := 120
def ref26_Copy_v2 : Nat := 121
def ref26_CopyWorld_v2 : Nat := 122
end Go.Ev.N

/- MADE BY PROGRAM (lib.py): the numbers of functions. -/
namespace Go.Ev.N
def law27_HeadsMore : Nat := 123
def law27_HeadsSplit : Nat := 124
def law27_HeadsAll : Nat := 125
def law27_HeadsTrue : Nat := 126
def law27_awake : Nat := 127
def heads_Count : Nat := 128
def ref27_Count : Nat := 129
def heads_Sure : Nat := 130
def ref27_Sure : Nat := 131
def heads_Maybe : Nat := 132
def ref27_Maybe : Nat := 133
def heads_Missing : Nat := 134
def ref27_Missing : Nat := 135
def heads_look : Nat := 136
def ref27_state : Nat := 137
def heads_persons : Nat := 138
def heads_Sure_1 : Nat := 139
def heads_Sure_1_1 : Nat := 140
def ref27_people : Nat := 141
def heads_Maybe_1 : Nat := 142
def heads_Maybe_1_1 : Nat := 143
def heads_Missing_1 : Nat := 144
def places_Possible : Nat := 145
def heads_look_1 : Nat := 146
def heads_look_2 : Nat := 147
def places_Possible_1 : Nat := 148
end Go.Ev.N

/- MADE BY PROGRAM (lib.py): the numbers of functions. -/
namespace Go.Ev.N
def law28_SmokeSources : Nat := 149
def law28_SmokeRuns : Nat := 150
def law28_SmokeMade : Nat := 151
def law28_SmokeGrows : Nat := 152
def law28_awake : Nat := 153
def smoke_Start : Nat := 154
def smoke_Travel : Nat := 155
def smoke_Change : Nat := 156
def law28_agree : Nat := 157
def smoke_Free : Nat := 158
def smoke_given : Nat := 159
def slices_Repeat_int_int : Nat := 160
def smoke_times_spread : Nat := 161
def smoke_Valid : Nat := 162
def ref28_Same : Nat := 163
def ref28_Filled : Nat := 164
def ref28_Free : Nat := 165
def smoke_Free_1 : Nat := 166
def plan_Valid : Nat := 167
def slices_ContainsFunc_api_Span_api_Span : Nat := 168
def smoke_given_1 : Nat := 169
def math_bits_Mul : Nat := 170
def smoke_times_reach : Nat := 171
def smoke_Valid_1 : Nat := 172
def plan_Check : Nat := 173
def slices_IndexFunc_api_Span_api_Span : Nat := 174
def math_bits_Mul32 : Nat := 175
def math_bits_Mul64 : Nat := 176
def plan_spanIn : Nat := 177
end Go.Ev.N

/- MADE BY PROGRAM (lib.py): the compact code of functions. -/
namespace Go.Ev.K
open Go.Ev
def law28_SmokeSources_l1b : C := (.seq (.ite [{ o := .mv (.v 14) }, { o := .fa (.v 12) 1 }, { o := .ld (.l 0) 1 false }, { o := .ln (.l 0) }, { o := .bin .lss (.l 3) (.l 0) }] [] 0 .skip (.exit 0)) (.seq (.blk 1 (.ite [{ o := .fa (.v 12) 1 }, { o := .ld (.l 0) 1 false }, { o := .mv (.v 14) }, { o := .ia (.l 1) (.l 0) 1 }, { o := .ld (.l 0) 1 false }, { o := .fa (.v 8) 1 }, { o := .ld (.l 0) 1 false }, { o := .mv (.v 14) }, { o := .ia (.l 1) (.l 0) 1 }, { o := .ld (.l 0) 1 false }, { o := .fa (.v 10) 1 }, { o := .ld (.l 0) 1 false }, { o := .mv (.v 14) }, { o := .ia (.l 1) (.l 0) 1 }, { o := .ld (.l 0) 1 false }, { o := .mn [.l 5, .l 0] }, { o := .bin .neq (.l 11) (.l 0) }] [] 0 (.seq (.reg [{ o := .mv (.b false), d := some 1 }] []) .ret) .skip)) (.reg [{ o := .mv (.v 14) }, { o := .bin .add (.l 0) (.i 1) }, { o := .mv (.l 0), d := some 14 }] [])))
def law28_SmokeSources_l1 : C := .loop true [0, 1, 2, 3, 4, 5, 6, 7, 9, 11, 13] K.law28_SmokeSources_l1b
/-- /law28.SmokeSources -/
def law28_SmokeSources : Fn := { nargs := 1, vars := [0, 2, 3, 4, 5, 6, 7, 8, 9, 10, 11, 12, 13, 14, 15], body := (.seq (.reg [{ o := .mv (.b false), d := some 1 }] []) (.seq (.ite [{ o := .mv (.v 0) }, { o := .ca N.made_Light 0 [] [.l 0] }, { o := .un .not (.l 0) }] [] 0 (.seq (.reg [{ o := .ca N.law28_awake 0 [] [] }, { o := .mv (.l 0), d := some 1 }] []) .ret) .skip) (.seq (.reg [{ o := .mv (.v 0) }, { o := .ca N.made_Roll 0 [] [.l 0] }, { o := .mv (.l 0), d := some 2 }] []) (.seq (.reg [{ o := .mv (.v 2) }, { o := .ca N.made_Dice_Mine 0 [] [.l 0] }, { o := .al [.nil, .nil] [], d := some 3 }, { o := .st (.l 0) (.l 1) 2 [] }] []) (.seq (.reg [{ o := .mv (.v 2) }, { o := .ld (.v 3) 2 true }, { o := .ca N.made_Dice_Flows 0 [] [.l 1, .l 0] }, { o := .mv (.l 0), d := some 4 }] []) (.seq (.reg [{ o := .mv (.v 2) }, { o := .fa (.v 3) 0 }, { o := .ld (.l 0) 1 false }, { o := .ln (.l 0) }, { o := .ca N.made_Dice_Next 0 [] [.l 3, .l 0] }, { o := .mv (.v 2) }, { o := .fa (.v 3) 0 }, { o := .ld (.l 0) 1 false }, { o := .ln (.l 0) }, { o := .ca N.made_Dice_Next 0 [] [.l 3, .l 0] }, { o := .mv (.l 5), d := some 5 }, { o := .mv (.l 1), d := some 6 }] [(7, 0)]) (.seq (.reg [{ o := .mv (.v 5) }, { o := .mv (.v 6) }, { o := .mn [.l 1, .l 0] }, { o := .mv (.v 5) }, { o := .mv (.v 6) }, { o := .mx [.l 1, .l 0] }, { o := .bs [.l 3, .l 0] 1 }, { o := .mv (.l 0), d := some 7 }] []) (.seq (.ite [{ o := .mv (.v 5) }, { o := .mv (.v 6) }, { o := .bin .eql (.l 1) (.l 0) }] [] 0 (.reg [{ o := .mv (.v 5) }, { o := .bs [.l 0] 1 }, { o := .mv (.l 0), d := some 7 }] []) .skip) (.seq (.reg [{ o := .ld (.v 3) 2 true }, { o := .mv (.v 4) }, { o := .mv (.v 5) }, { o := .bs [.l 0] 1 }, { o := .ca N.smoke_Start 0 [] [.l 3, .l 2, .l 0, .i 30] }, { o := .mv (.l 0) }, { o := .ex (.l 0) 0 }, { o := .ex (.l 1) 1 }, { o := .al [.t (.int .i64 (0)), .nil] [], d := some 8 }, { o := .st (.l 0) (.l 2) 2 [] }, { o := .mv (.l 2), d := some 9 }] []) (.seq (.reg [{ o := .ld (.v 3) 2 true }, { o := .mv (.v 4) }, { o := .mv (.v 6) }, { o := .bs [.l 0] 1 }, { o := .ca N.smoke_Start 0 [] [.l 3, .l 2, .l 0, .i 30] }, { o := .mv (.l 0) }, { o := .ex (.l 0) 0 }, { o := .ex (.l 1) 1 }, { o := .al [.t (.int .i64 (0)), .nil] [], d := some 10 }, { o := .st (.l 0) (.l 2) 2 [] }, { o := .mv (.l 2), d := some 11 }] []) (.seq (.reg [{ o := .ld (.v 3) 2 true }, { o := .mv (.v 4) }, { o := .mv (.v 7) }, { o := .ca N.smoke_Start 0 [] [.l 2, .l 1, .l 0, .i 30] }, { o := .mv (.l 0) }, { o := .ex (.l 0) 0 }, { o := .ex (.l 1) 1 }, { o := .al [.t (.int .i64 (0)), .nil] [], d := some 12 }, { o := .st (.l 0) (.l 2) 2 [] }, { o := .mv (.l 2), d := some 13 }] []) (.seq (.ite [{ o := .mv (.v 9) }, { o := .bin .neq (.l 0) (.i 0) }, { o := .mv (.l 0) }, { o := .mv (.v 11), g := some (0, false) }, { o := .bin .neq (.l 0) (.i 0), g := some (1, false) }, { o := .pk (.l 2) (.b true) (.l 0) }, { o := .mv (.l 0) }, { o := .mv (.v 13), g := some (0, false) }, { o := .bin .neq (.l 0) (.i 0), g := some (1, false) }, { o := .pk (.l 2) (.b true) (.l 0) }, { o := .mv (.l 0) }, { o := .fa (.v 8) 1, g := some (0, false) }, { o := .ld (.l 0) 1 false, g := some (1, false) }, { o := .ln (.l 0), g := some (2, false) }, { o := .fa (.v 3) 0, g := some (3, false) }, { o := .ld (.l 0) 1 false, g := some (4, false) }, { o := .ln (.l 0), g := some (5, false) }, { o := .bin .neq (.l 3) (.l 0), g := some (6, false) }, { o := .pk (.l 7) (.b true) (.l 0) }, { o := .mv (.l 0) }, { o := .fa (.v 10) 1, g := some (0, false) }, { o := .ld (.l 0) 1 false, g := some (1, false) }, { o := .ln (.l 0), g := some (2, false) }, { o := .fa (.v 3) 0, g := some (3, false) }, { o := .ld (.l 0) 1 false, g := some (4, false) }, { o := .ln (.l 0), g := some (5, false) }, { o := .bin .neq (.l 3) (.l 0), g := some (6, false) }, { o := .pk (.l 7) (.b true) (.l 0) }, { o := .mv (.l 0) }, { o := .fa (.v 12) 1, g := some (0, false) }, { o := .ld (.l 0) 1 false, g := some (1, false) }, { o := .ln (.l 0), g := some (2, false) }, { o := .fa (.v 3) 0, g := some (3, false) }, { o := .ld (.l 0) 1 false, g := some (4, false) }, { o := .ln (.l 0), g := some (5, false) }, { o := .bin .neq (.l 3) (.l 0), g := some (6, false) }, { o := .pk (.l 7) (.b true) (.l 0) }] [] 0 (.seq (.reg [{ o := .mv (.b false), d := some 1 }] []) .ret) .skip) (.seq (.seq (.reg [{ o := .mv (.i 0), d := some 14 }] []) (.blk 0 K.law28_SmokeSources_l1)) (.seq (.reg [{ o := .ca N.law28_awake 0 [] [] }, { o := .mv (.l 0), d := some 1 }] []) .ret)))))))))))))), res := [(1, none)] }
def law28_SmokeRuns_l1b : C := (.seq (.ite [{ o := .mv (.v 9) }, { o := .bin .gtr (.l 0) (.i 0) }, { o := .mv (.l 0) }, { o := .mv (.v 7), g := some (0, true) }, { o := .bin .eql (.l 0) (.i 0), g := some (1, true) }, { o := .pk (.l 2) (.l 0) (.b false) }] [] 0 .skip (.exit 0)) (.seq (.blk 1 (.seq (.ite [{ o := .ld (.v 6) 2 true }, { o := .mv (.v 8) }, { o := .ca N.smoke_Filled 0 [] [.l 1, .l 0] }, { o := .mv (.v 5) }, { o := .ca N.ref23_Has 0 [] [.l 1, .l 0] }, { o := .un .not (.l 0) }] [] 0 (.seq (.reg [{ o := .mv (.b false), d := some 1 }] []) .ret) .skip) (.seq (.reg [{ o := .mv (.v 2) }, { o := .fa (.v 3) 1 }, { o := .ld (.l 0) 1 false }, { o := .ln (.l 0) }, { o := .ca N.made_Dice_Next 0 [] [.l 3, .l 0] }, { o := .mv (.v 2) }, { o := .ca N.made_Dice_One 0 [] [.l 0, .i 2] }, { o := .mv (.l 2), d := some 10 }, { o := .mv (.l 1), d := some 11 }] []) (.seq (.reg [{ o := .fa (.v 3) 1 }, { o := .ld (.l 0) 1 false }, { o := .mv (.v 10) }, { o := .ia (.l 1) (.l 0) 10 }, { o := .fa (.l 0) 0 }, { o := .ld (.l 0) 1 false }, { o := .fa (.v 3) 1 }, { o := .ld (.l 0) 1 false }, { o := .mv (.v 10) }, { o := .ia (.l 1) (.l 0) 10 }, { o := .fa (.l 0) 1 }, { o := .ld (.l 0) 1 false }, { o := .mv (.l 6), d := some 12 }, { o := .mv (.l 1), d := some 13 }] []) (.seq (.ite [{ o := .mv (.v 11) }] [] 0 (.reg [{ o := .mv (.v 13) }, { o := .mv (.v 12) }, { o := .mv (.l 1), d := some 12 }, { o := .mv (.l 1), d := some 13 }] []) .skip) (.seq (.reg [{ o := .ld (.v 3) 2 true }, { o := .mv (.v 10) }, { o := .mv (.v 4) }, { o := .mv (.v 10) }, { o := .ia (.l 1) (.l 0) 2 }, { o := .ld (.l 0) 2 true }, { o := .mv (.v 11) }, { o := .ca N.smoke_Travel 0 [] [.l 6, .l 5, .l 1, .l 0] }, { o := .mv (.l 0), d := some 14 }] []) (.seq (.ite [{ o := .mv (.v 12) }, { o := .mv (.v 5) }, { o := .bin .neq (.l 1) (.l 0) }, { o := .mv (.l 0) }, { o := .mv (.v 14), g := some (0, false) }, { o := .bin .lss (.l 0) (.i 0), g := some (1, false) }, { o := .pk (.l 2) (.b true) (.l 0) }] [] 0 (.seq (.reg [{ o := .mv (.v 8) }, { o := .mv (.v 2) }, { o := .ca N.made_Dice_Next 0 [] [.l 0, .i 30] }, { o := .bin .add (.l 2) (.l 0) }, { o := .mv (.l 0), d := some 8 }] []) (.exit 1)) .skip) (.seq (.ite [{ o := .mv (.v 2) }, { o := .ca N.made_Dice_One 0 [] [.l 0, .i 3] }] [] 0 (.seq (.reg [{ o := .mv (.v 8) }, { o := .mv (.v 2) }, { o := .mv (.v 14) }, { o := .bin .add (.l 0) (.i 1) }, { o := .ca N.made_Dice_Next 0 [] [.l 2, .l 0] }, { o := .bin .add (.l 4) (.l 0) }, { o := .mv (.l 0), d := some 8 }] []) (.seq (.reg [{ o := .mv (.v 2) }, { o := .ld (.v 3) 2 true }, { o := .ca N.made_Dice_Flows 0 [] [.l 1, .l 0] }, { o := .mv (.l 0), d := some 15 }] []) (.seq (.reg [{ o := .ld (.v 3) 2 true }, { o := .mv (.v 4) }, { o := .ld (.v 3) 2 true }, { o := .mv (.v 15) }, { o := .ld (.v 6) 2 true }, { o := .mv (.v 8) }, { o := .ca N.smoke_Change 0 [] [.l 5, .l 4, .l 3, .l 2, .l 1, .l 0] }, { o := .mv (.l 0) }, { o := .ex (.l 0) 0 }, { o := .ex (.l 1) 1 }, { o := .st (.v 6) (.l 1) 2 [] }, { o := .mv (.l 1), d := some 7 }] []) (.seq (.reg [{ o := .mv (.v 15) }, { o := .mv (.v 13) }, { o := .mv (.l 1), d := some 4 }, { o := .mv (.l 1), d := some 5 }] []) (.exit 1))))) .skip) (.reg [{ o := .mv (.v 8) }, { o := .mv (.v 14) }, { o := .bin .add (.l 1) (.l 0) }, { o := .mv (.v 2) }, { o := .ca N.made_Dice_Next 0 [] [.l 0, .i 20] }, { o := .bin .add (.l 2) (.l 0) }, { o := .mv (.v 13) }, { o := .mv (.l 1), d := some 8 }, { o := .mv (.l 1), d := some 5 }] []))))))))) (.reg [{ o := .mv (.v 9) }, { o := .bin .sub (.l 0) (.i 1) }, { o := .mv (.l 0), d := some 9 }] [])))
def law28_SmokeRuns_l1 : C := .loop true [0, 1, 10, 11, 12, 13, 14, 15] K.law28_SmokeRuns_l1b
/-- /law28.SmokeRuns -/
def law28_SmokeRuns : Fn := { nargs := 1, vars := [0, 2, 3, 4, 5, 6, 7, 8, 9, 10, 11, 12, 13, 14, 15, 16], body := (.seq (.reg [{ o := .mv (.b false), d := some 1 }] []) (.seq (.ite [{ o := .mv (.v 0) }, { o := .ca N.made_Light 0 [] [.l 0] }, { o := .un .not (.l 0) }] [] 0 (.seq (.reg [{ o := .ca N.law28_awake 0 [] [] }, { o := .mv (.l 0), d := some 1 }] []) .ret) .skip) (.seq (.reg [{ o := .mv (.v 0) }, { o := .ca N.made_Roll 0 [] [.l 0] }, { o := .mv (.l 0), d := some 2 }] []) (.seq (.reg [{ o := .mv (.v 2) }, { o := .ca N.made_Dice_Mine 0 [] [.l 0] }, { o := .al [.nil, .nil] [], d := some 3 }, { o := .st (.l 0) (.l 1) 2 [] }] []) (.seq (.reg [{ o := .mv (.v 2) }, { o := .ld (.v 3) 2 true }, { o := .ca N.made_Dice_Flows 0 [] [.l 1, .l 0] }, { o := .mv (.l 0), d := some 4 }] []) (.seq (.reg [{ o := .mv (.v 2) }, { o := .fa (.v 3) 0 }, { o := .ld (.l 0) 1 false }, { o := .ln (.l 0) }, { o := .ca N.made_Dice_Next 0 [] [.l 3, .l 0] }, { o := .mv (.l 0), d := some 5 }] []) (.seq (.reg [{ o := .ld (.v 3) 2 true }, { o := .mv (.v 4) }, { o := .mv (.v 5) }, { o := .bs [.l 0] 1 }, { o := .ca N.smoke_Start 0 [] [.l 3, .l 2, .l 0, .i 0] }, { o := .mv (.l 0) }, { o := .ex (.l 0) 0 }, { o := .ex (.l 1) 1 }, { o := .al [.t (.int .i64 (0)), .nil] [], d := some 6 }, { o := .st (.l 0) (.l 2) 2 [] }, { o := .mv (.l 2), d := some 7 }] []) (.seq (.reg [{ o := .mv (.i 0), d := some 8 }] []) (.seq (.seq (.reg [{ o := .mv (.v 2) }, { o := .ca N.made_Dice_Next 0 [] [.l 0, .i 25] }, { o := .mv (.l 0), d := some 9 }] []) (.blk 0 K.law28_SmokeRuns_l1)) (.seq (.reg [{ o := .ca N.law28_awake 0 [] [] }, { o := .mv (.l 0) }, { o := .mv (.v 7), g := some (0, true) }, { o := .bin .eql (.l 0) (.i 0), g := some (1, true) }, { o := .pk (.l 2) (.l 0) (.b false) }, { o := .mv (.l 0) }, { o := .ld (.v 6) 2 true, g := some (0, true) }, { o := .mv (.v 8), g := some (1, true) }, { o := .ca N.smoke_Filled 0 [] [.l 1, .l 0], g := some (2, true) }, { o := .mv (.v 5), g := some (3, true) }, { o := .ca N.ref23_Has 0 [] [.l 1, .l 0], g := some (4, true) }, { o := .pk (.l 5) (.l 0) (.b false) }, { o := .mv (.l 0), d := some 1 }] []) .ret)))))))))), res := [(1, none)] }
def law28_SmokeMade_l2b : C := (.its  [{ o := .bin .lss (.v 17) (.v 16) }] [] 0 .skip (.exit 2) (.seq (.blk 3 (.seq (.reg [{ o := .ia (.v 15) (.v 17) 1 }, { o := .ld (.l 0) 1 false }, { o := .mv (.l 0), d := some 12 }] []) (.seq (.reg [{ o := .mv (.v 7) }, { o := .mv (.v 11) }, { o := .mv (.v 7) }, { o := .ln (.l 0) }, { o := .ca N.made_Mod 0 [] [.l 2, .l 0] }, { o := .ia (.l 4) (.l 0) 2 }, { o := .ld (.l 0) 2 true }, { o := .al [.t (.int .i64 (0)), .t (.int .i64 (0))] [], d := some 13 }, { o := .st (.l 0) (.l 1) 2 [] }] []) (.seq (.ite [{ o := .ld (.v 6) 2 true }, { o := .mv (.v 11) }, { o := .ld (.v 13) 2 true }, { o := .mv (.v 12) }, { o := .ca N.smoke_Travel 0 [] [.l 3, .l 2, .l 1, .l 0] }, { o := .ld (.v 6) 2 true }, { o := .mv (.v 11) }, { o := .ld (.v 13) 2 true }, { o := .mv (.v 12) }, { o := .ca N.ref28_Travel 0 [] [.l 3, .l 2, .l 1, .l 0] }, { o := .bin .neq (.l 5) (.l 0) }] [(5, 0), (7, 0)] 0 (.seq (.reg [{ o := .mv (.b false), d := some 4 }] []) .ret) .skip) (.ite [{ o := .ld (.v 3) 2 true }, { o := .ca N.ref28_Span 0 [] [.l 0] }, { o := .mv (.l 0) }, { o := .ld (.v 6) 2 true, g := some (0, true) }, { o := .mv (.v 1), g := some (1, true) }, { o := .ld (.v 3) 2 true, g := some (2, true) }, { o := .mv (.v 12), g := some (3, true) }, { o := .ca N.smoke_Travel 0 [] [.l 3, .l 2, .l 1, .l 0], g := some (4, true) }, { o := .ld (.v 6) 2 true, g := some (5, true) }, { o := .mv (.v 1), g := some (6, true) }, { o := .ld (.v 3) 2 true, g := some (7, true) }, { o := .mv (.v 12), g := some (8, true) }, { o := .ca N.ref28_Travel 0 [] [.l 3, .l 2, .l 1, .l 0], g := some (9, true) }, { o := .bin .neq (.l 5) (.l 0), g := some (10, true) }, { o := .mv (.l 0), g := some (11, true) }, { o := .ld (.v 6) 2 true, g := some (0, false) }, { o := .mv (.v 11), g := some (1, false) }, { o := .ld (.v 3) 2 true, g := some (2, false) }, { o := .mv (.v 12), g := some (3, false) }, { o := .ca N.smoke_Travel 0 [] [.l 3, .l 2, .l 1, .l 0], g := some (4, false) }, { o := .ld (.v 6) 2 true, g := some (5, false) }, { o := .mv (.v 11), g := some (6, false) }, { o := .ld (.v 3) 2 true, g := some (7, false) }, { o := .mv (.v 12), g := some (8, false) }, { o := .ca N.ref28_Travel 0 [] [.l 3, .l 2, .l 1, .l 0], g := some (9, false) }, { o := .bin .neq (.l 5) (.l 0), g := some (10, false) }, { o := .pk (.l 11) (.b true) (.l 0), g := some (23, true) }, { o := .pk (.l 24) (.l 0) (.b false) }] [(8, 2), (10, 2), (20, 13), (22, 13)] 0 (.seq (.reg [{ o := .mv (.b false), d := some 4 }] []) .ret) .skip))))) (.reg [{ o := .bin .add (.v 17) (.i 1) }, { o := .mv (.l 0), d := some 17 }] [])))
def law28_SmokeMade_l2 : C := .loop true [0, 2, 4, 12, 13, 14] K.law28_SmokeMade_l2b
def law28_SmokeMade_l1b : C := (.seq (.ite [{ o := .mv (.v 11) }, { o := .fa (.v 6) 1 }, { o := .ld (.l 0) 1 false }, { o := .ln (.l 0) }, { o := .bin .leq (.l 3) (.l 0) }] [] 0 .skip (.exit 0)) (.seq (.blk 1 (.seq (.reg [{ o := .bs [.b false, .b true] 1, d := some 15 }, { o := .ln (.l 0), d := some 16 }, { o := .mv (.i 0), d := some 17 }] []) (.blk 2 K.law28_SmokeMade_l2))) (.reg [{ o := .mv (.v 11) }, { o := .bin .add (.l 0) (.i 1) }, { o := .mv (.l 0), d := some 11 }] [])))
def law28_SmokeMade_l1 : C := .loop true [0, 2, 4, 12, 13, 14, 15, 16, 17] K.law28_SmokeMade_l1b
/-- /law28.SmokeMade -/
def law28_SmokeMade : Fn := { nargs := 3, vars := [0, 1, 2, 5, 6, 7, 8, 9, 10, 11, 12, 13, 15, 16, 17, 59, 60, 61], body := (.seq (.reg [{ o := .bx (.v 2) 2, d := some 3 }, { o := .mv (.b false), d := some 4 }] []) (.seq (.ite [{ o := .mv (.v 0) }, { o := .ca N.made_Light 0 [] [.l 0] }, { o := .un .not (.l 0) }] [] 0 (.seq (.reg [{ o := .ca N.law28_awake 0 [] [] }, { o := .mv (.l 0), d := some 4 }] []) .ret) .skip) (.seq (.reg [{ o := .mv (.v 0) }, { o := .ca N.made_Roll 0 [] [.l 0] }, { o := .mv (.l 0), d := some 5 }] []) (.seq (.reg [{ o := .mv (.v 5) }, { o := .ca N.made_Dice_Mine 0 [] [.l 0] }, { o := .al [.nil, .nil] [], d := some 6 }, { o := .st (.l 0) (.l 1) 2 [] }] []) (.seq (.reg [{ o := .mv (.v 5) }, { o := .ld (.v 6) 2 true }, { o := .ca N.made_Dice_Flows 0 [] [.l 1, .l 0] }, { o := .mv (.v 5) }, { o := .ld (.v 6) 2 true }, { o := .ca N.made_Dice_Flows 0 [] [.l 1, .l 0] }, { o := .mv (.l 3), d := some 7 }, { o := .mv (.l 1), d := some 8 }] [(4, 0)]) (.seq (.reg [{ o := .mv (.v 5) }, { o := .ld (.v 6) 2 true }, { o := .mv (.v 7) }, { o := .ca N.made_Dice_Spread 0 [] [.l 2, .l 1, .l 0] }, { o := .al [.t (.int .i64 (0)), .nil] [], d := some 9 }, { o := .st (.l 0) (.l 1) 2 [] }] []) (.seq (.reg [{ o := .ld (.v 6) 2 true }, { o := .al [.nil, .nil] [], d := some 10 }, { o := .st (.l 0) (.l 1) 2 [] }] []) (.seq (.reg [{ o := .fa (.v 6) 1 }, { o := .ld (.l 0) 1 false }, { o := .app (.c (.nil)) (.l 0) true 10 }, { o := .fa (.v 10) 1 }, { o := .st (.l 0) (.l 1) 1 [] }] []) (.seq (.reg [{ o := .fa (.v 10) 1 }, { o := .ld (.l 0) 1 false }, { o := .mv (.v 5) }, { o := .fa (.v 10) 1 }, { o := .ld (.l 0) 1 false }, { o := .ln (.l 0) }, { o := .ca N.made_Dice_Next 0 [] [.l 3, .l 0] }, { o := .mv (.v 5) }, { o := .ca N.made_Dice_One 0 [] [.l 0, .i 2] }, { o := .ia (.l 7) (.l 2) 10 }, { o := .fa (.l 0) 5 }, { o := .st (.l 0) (.l 2) 1 [] }] [(1, 7), (1, 9)]) (.seq (.seq (.reg [{ o := .mv (.i (-1)), d := some 11 }] []) (.blk 0 K.law28_SmokeMade_l1)) (.seq (.reg [{ o := .mv (.v 8) }, { o := .app (.c (.nil)) (.l 0) true 2 }, { o := .mv (.l 0), d := some 14 }] []) (.seq (.reg [{ o := .mv (.v 14) }, { o := .mv (.v 5) }, { o := .mv (.v 14) }, { o := .ln (.l 0) }, { o := .ca N.made_Dice_Next 0 [] [.l 2, .l 0] }, { o := .ld (.v 3) 2 true }, { o := .ia (.l 5) (.l 1) 2 }, { o := .st (.l 0) (.l 1) 2 [] }] [(5, 0)]) (.seq (.reg [{ o := .ca N.law28_awake 0 [] [] }, { o := .mv (.l 0) }, { o := .ld (.v 6) 2 true, g := some (0, true) }, { o := .mv (.v 7), g := some (1, true) }, { o := .ld (.v 10) 2 true, g := some (2, true) }, { o := .mv (.v 8), g := some (3, true) }, { o := .ld (.v 9) 2 true, g := some (4, true) }, { o := .mv (.v 5), g := some (5, true) }, { o := .fa (.v 6) 0, g := some (6, true) }, { o := .ld (.l 0) 1 false, g := some (7, true) }, { o := .ln (.l 0), g := some (8, true) }, { o := .ca N.made_Dice_Some 0 [] [.l 3, .l 0], g := some (9, true) }, { o := .fa (.v 9) 0, g := some (10, true) }, { o := .ld (.l 0) 1 false, g := some (11, true) }, { o := .mv (.v 5), g := some (12, true) }, { o := .bs [.i 0, .i 30, .i 200, .i (-1)] 1, g := some (13, true) }, { o := .ca N.made_Dice_Of 0 [] [.l 1, .l 0], g := some (14, true) }, { o := .bin .add (.l 3) (.l 0), g := some (15, true) }, { o := .ca N.law28_agree 0 [] [.l 15, .l 14, .l 13, .l 12, .l 11, .l 6, .l 0], g := some (16, true) }, { o := .pk (.l 17) (.l 0) (.b false) }, { o := .mv (.l 0) }, { o := .ld (.v 6) 2 true, g := some (0, true) }, { o := .mv (.v 14), g := some (1, true) }, { o := .ld (.v 10) 2 true, g := some (2, true) }, { o := .mv (.v 14), g := some (3, true) }, { o := .ld (.v 9) 2 true, g := some (4, true) }, { o := .bs [.i 0] 1, g := some (5, true) }, { o := .fa (.v 9) 0, g := some (6, true) }, { o := .ld (.l 0) 1 false, g := some (7, true) }, { o := .bin .add (.l 0) (.i 9), g := some (8, true) }, { o := .ca N.law28_agree 0 [] [.l 8, .l 7, .l 6, .l 5, .l 4, .l 3, .l 0], g := some (9, true) }, { o := .pk (.l 10) (.l 0) (.b false) }, { o := .mv (.l 0), d := some 4 }] [(2, 12), (2, 17), (4, 12), (4, 17), (6, 12), (6, 17), (13, 1), (13, 17), (15, 1), (21, 27), (23, 27), (25, 27), (28, 19)]) .ret))))))))))))), res := [(4, none)] }
def law28_SmokeGrows_l1b : C := (.seq (.ite [{ o := .mv (.v 15) }, { o := .fa (.v 6) 1 }, { o := .ld (.l 0) 1 false }, { o := .ln (.l 0) }, { o := .bin .lss (.l 3) (.l 0) }] [] 0 .skip (.exit 0)) (.seq (.blk 1 (.ite [{ o := .fa (.v 13) 1 }, { o := .ld (.l 0) 1 false }, { o := .mv (.v 15) }, { o := .ia (.l 1) (.l 0) 1 }, { o := .ld (.l 0) 1 false }, { o := .fa (.v 6) 1 }, { o := .ld (.l 0) 1 false }, { o := .mv (.v 15) }, { o := .ia (.l 1) (.l 0) 1 }, { o := .ld (.l 0) 1 false }, { o := .bin .gtr (.l 5) (.l 0) }] [] 0 (.seq (.reg [{ o := .mv (.b false), d := some 1 }] []) .ret) .skip)) (.reg [{ o := .mv (.v 15) }, { o := .bin .add (.l 0) (.i 1) }, { o := .mv (.l 0), d := some 15 }] [])))
def law28_SmokeGrows_l1 : C := .loop true [0, 1, 2, 4, 5, 7, 10, 11, 12, 14, 16, 17] K.law28_SmokeGrows_l1b
def law28_SmokeGrows_l2b : C := (.seq (.ite [{ o := .mv (.v 17) }, { o := .mv (.v 16) }, { o := .ln (.l 0) }, { o := .bin .lss (.l 2) (.l 0) }] [] 0 .skip (.exit 2)) (.seq (.blk 3 (.ite [{ o := .ld (.v 9) 2 true }, { o := .mv (.v 8) }, { o := .ca N.smoke_Filled 0 [] [.l 1, .l 0] }, { o := .mv (.v 16) }, { o := .mv (.v 17) }, { o := .ia (.l 1) (.l 0) 1 }, { o := .ld (.l 0) 1 false }, { o := .ca N.ref23_Has 0 [] [.l 4, .l 0] }, { o := .un .not (.l 0) }, { o := .mv (.l 0) }, { o := .ld (.v 9) 2 true, g := some (0, false) }, { o := .mv (.v 8), g := some (1, false) }, { o := .bin .add (.l 0) (.i 50), g := some (2, false) }, { o := .ca N.smoke_Free 0 [] [.l 2, .l 0], g := some (3, false) }, { o := .mv (.v 16), g := some (4, false) }, { o := .mv (.v 17), g := some (5, false) }, { o := .ia (.l 1) (.l 0) 1, g := some (6, false) }, { o := .ld (.l 0) 1 false, g := some (7, false) }, { o := .ca N.ref23_Has 0 [] [.l 4, .l 0], g := some (8, false) }, { o := .pk (.l 9) (.b true) (.l 0) }] [(5, 0), (6, 0), (16, 8), (17, 8)] 0 (.seq (.reg [{ o := .mv (.b false), d := some 1 }] []) .ret) .skip)) (.reg [{ o := .mv (.v 17) }, { o := .bin .add (.l 0) (.i 1) }, { o := .mv (.l 0), d := some 17 }] [])))
def law28_SmokeGrows_l2 : C := .loop true [0, 1, 2, 4, 5, 7, 10, 11, 12, 13, 14, 15] K.law28_SmokeGrows_l2b
/-- /law28.SmokeGrows -/
def law28_SmokeGrows : Fn := { nargs := 1, vars := [0, 2, 3, 4, 5, 6, 7, 8, 9, 10, 11, 12, 13, 14, 15, 16, 17, 18], body := (.seq (.reg [{ o := .mv (.b false), d := some 1 }] []) (.seq (.ite [{ o := .mv (.v 0) }, { o := .ca N.made_Light 0 [] [.l 0] }, { o := .un .not (.l 0) }] [] 0 (.seq (.reg [{ o := .ca N.law28_awake 0 [] [] }, { o := .mv (.l 0), d := some 1 }] []) .ret) .skip) (.seq (.reg [{ o := .mv (.v 0) }, { o := .ca N.made_Roll 0 [] [.l 0] }, { o := .mv (.l 0), d := some 2 }] []) (.seq (.reg [{ o := .mv (.v 2) }, { o := .ca N.made_Dice_Mine 0 [] [.l 0] }, { o := .al [.nil, .nil] [], d := some 3 }, { o := .st (.l 0) (.l 1) 2 [] }] []) (.seq (.reg [{ o := .mv (.v 2) }, { o := .ld (.v 3) 2 true }, { o := .ca N.made_Dice_Flows 0 [] [.l 1, .l 0] }, { o := .mv (.l 0), d := some 4 }] []) (.seq (.reg [{ o := .mv (.v 2) }, { o := .fa (.v 3) 0 }, { o := .ld (.l 0) 1 false }, { o := .ln (.l 0) }, { o := .ca N.made_Dice_Next 0 [] [.l 3, .l 0] }, { o := .bs [.l 0] 1 }, { o := .mv (.l 0), d := some 5 }] []) (.seq (.reg [{ o := .ld (.v 3) 2 true }, { o := .mv (.v 4) }, { o := .mv (.v 5) }, { o := .ca N.smoke_Start 0 [] [.l 2, .l 1, .l 0, .i 100] }, { o := .mv (.l 0) }, { o := .ex (.l 0) 0 }, { o := .ex (.l 1) 1 }, { o := .al [.t (.int .i64 (0)), .nil] [], d := some 6 }, { o := .st (.l 0) (.l 2) 2 [] }, { o := .mv (.l 2), d := some 7 }] []) (.seq (.reg [{ o := .mv (.v 2) }, { o := .ca N.made_Dice_Next 0 [] [.l 0, .i 200] }, { o := .bin .add (.i 100) (.l 0) }, { o := .mv (.l 0), d := some 8 }] []) (.seq (.reg [{ o := .al [.t (.int .i64 (0)), .nil] [], d := some 9 }, { o := .ld (.v 3) 2 true }, { o := .mv (.v 4) }, { o := .ld (.v 3) 2 true }, { o := .mv (.v 2) }, { o := .ld (.v 3) 2 true }, { o := .ca N.made_Dice_Flows 0 [] [.l 1, .l 0] }, { o := .ld (.v 6) 2 true }, { o := .mv (.v 8) }, { o := .ca N.smoke_Change 0 [] [.l 7, .l 6, .l 5, .l 2, .l 1, .l 0] }, { o := .mv (.l 0) }, { o := .ex (.l 0) 0 }, { o := .ex (.l 1) 1 }, { o := .st (.l 12) (.l 1) 2 [] }, { o := .mv (.l 1), d := some 10 }] [(0, 7), (0, 10), (1, 7), (3, 7), (7, 1)]) (.seq (.reg [{ o := .mv (.v 4) }, { o := .app (.c (.nil)) (.l 0) true 2 }, { o := .mv (.l 0), d := some 11 }] []) (.seq (.reg [{ o := .mv (.v 2) }, { o := .mv (.v 11) }, { o := .ln (.l 0) }, { o := .ca N.made_Dice_Next 0 [] [.l 2, .l 0] }, { o := .mv (.l 0), d := some 12 }] []) (.seq (.reg [{ o := .mv (.v 11) }, { o := .mv (.v 12) }, { o := .mv (.v 11) }, { o := .mv (.v 12) }, { o := .mv (.v 11) }, { o := .mv (.v 12) }, { o := .ia (.l 1) (.l 0) 2 }, { o := .fa (.l 0) 0 }, { o := .ld (.l 0) 1 false }, { o := .mv (.v 2) }, { o := .ca N.made_Dice_Next 0 [] [.l 0, .i 3000] }, { o := .bin .sub (.l 2) (.l 0) }, { o := .mx [.i (-1125899906842624), .l 0] }, { o := .mv (.v 11) }, { o := .mv (.v 12) }, { o := .ia (.l 1) (.l 0) 2 }, { o := .fa (.l 0) 1 }, { o := .ld (.l 0) 1 false }, { o := .mv (.v 2) }, { o := .ca N.made_Dice_Next 0 [] [.l 0, .i 3000] }, { o := .bin .add (.l 2) (.l 0) }, { o := .mn [.i 1125899906842624, .l 0] }, { o := .ia (.l 21) (.l 20) 2 }, { o := .fa (.l 0) 0 }, { o := .st (.l 0) (.l 11) 1 [] }, { o := .ia (.l 22) (.l 21) 2 }, { o := .fa (.l 0) 1 }, { o := .st (.l 0) (.l 5) 1 [] }] [(6, 11), (6, 20), (8, 11), (8, 20), (15, 0), (15, 20), (17, 0), (17, 20)]) (.seq (.reg [{ o := .ld (.v 3) 2 true }, { o := .mv (.v 11) }, { o := .mv (.v 5) }, { o := .ca N.smoke_Start 0 [] [.l 2, .l 1, .l 0, .i 100] }, { o := .mv (.l 0) }, { o := .ex (.l 0) 0 }, { o := .ex (.l 1) 1 }, { o := .al [.t (.int .i64 (0)), .nil] [], d := some 13 }, { o := .st (.l 0) (.l 2) 2 [] }, { o := .mv (.l 2), d := some 14 }] []) (.seq (.ite [{ o := .mv (.v 7) }, { o := .bin .neq (.l 0) (.i 0) }, { o := .mv (.l 0) }, { o := .mv (.v 10), g := some (0, false) }, { o := .bin .neq (.l 0) (.i 0), g := some (1, false) }, { o := .pk (.l 2) (.b true) (.l 0) }, { o := .mv (.l 0) }, { o := .mv (.v 14), g := some (0, false) }, { o := .bin .neq (.l 0) (.i 0), g := some (1, false) }, { o := .pk (.l 2) (.b true) (.l 0) }, { o := .mv (.l 0) }, { o := .fa (.v 6) 1, g := some (0, false) }, { o := .ld (.l 0) 1 false, g := some (1, false) }, { o := .ln (.l 0), g := some (2, false) }, { o := .fa (.v 3) 0, g := some (3, false) }, { o := .ld (.l 0) 1 false, g := some (4, false) }, { o := .ln (.l 0), g := some (5, false) }, { o := .bin .neq (.l 3) (.l 0), g := some (6, false) }, { o := .pk (.l 7) (.b true) (.l 0) }, { o := .mv (.l 0) }, { o := .fa (.v 13) 1, g := some (0, false) }, { o := .ld (.l 0) 1 false, g := some (1, false) }, { o := .ln (.l 0), g := some (2, false) }, { o := .fa (.v 6) 1, g := some (3, false) }, { o := .ld (.l 0) 1 false, g := some (4, false) }, { o := .ln (.l 0), g := some (5, false) }, { o := .bin .neq (.l 3) (.l 0), g := some (6, false) }, { o := .pk (.l 7) (.b true) (.l 0) }] [] 0 (.seq (.reg [{ o := .mv (.b false), d := some 1 }] []) .ret) .skip) (.seq (.seq (.reg [{ o := .mv (.i 0), d := some 15 }] []) (.blk 0 K.law28_SmokeGrows_l1)) (.seq (.reg [{ o := .ld (.v 6) 2 true }, { o := .mv (.v 8) }, { o := .ca N.smoke_Filled 0 [] [.l 1, .l 0] }, { o := .mv (.l 0), d := some 16 }] []) (.seq (.seq (.reg [{ o := .mv (.i 0), d := some 17 }] []) (.blk 2 K.law28_SmokeGrows_l2)) (.seq (.reg [{ o := .ca N.law28_awake 0 [] [] }, { o := .mv (.l 0) }, { o := .ld (.v 6) 2 true, g := some (0, true) }, { o := .mv (.v 8), g := some (1, true) }, { o := .ca N.smoke_Filled 0 [] [.l 1, .l 0], g := some (2, true) }, { o := .ln (.l 0), g := some (3, true) }, { o := .ld (.v 6) 2 true, g := some (4, true) }, { o := .mv (.v 8), g := some (5, true) }, { o := .ca N.smoke_Free 0 [] [.l 1, .l 0], g := some (6, true) }, { o := .ln (.l 0), g := some (7, true) }, { o := .bin .add (.l 4) (.l 0), g := some (8, true) }, { o := .fa (.v 3) 0, g := some (9, true) }, { o := .ld (.l 0) 1 false, g := some (10, true) }, { o := .ln (.l 0), g := some (11, true) }, { o := .bin .eql (.l 3) (.l 0), g := some (12, true) }, { o := .pk (.l 13) (.l 0) (.b false) }, { o := .mv (.l 0), d := some 1 }] [(6, 1), (12, 1), (12, 5)]) .ret)))))))))))))))))), res := [(1, none)] }
/-- /law28.awake -/
def law28_awake : Fn := { nargs := 0, vars := [0, 1, 2, 3, 4], body := (.seq (.reg [{ o := .mv (.b false), d := some 0 }] []) (.seq (.reg [{ o := .bd [.t (.int .i64 (0)), .t (.bool false)] [(1, 1, .b true)] }, { o := .bd [.t (.int .i64 (0)), .t (.bool false)] [] }, { o := .bs [.l 1, .l 0] 2 }, { o := .bd [.t (.int .i64 (0)), .t (.int .i64 (0))] [(0, 1, .i 1), (1, 1, .i 1)] }, { o := .bd [.t (.int .i64 (0)), .t (.int .i64 (0)), .t (.int .i64 (0)), .t (.int .i64 (0)), .t (.bool false), .t (.bool false), .t (.int .i64 (0)), .t (.int .i64 (0)), .t (.int .i64 (0)), .t (.int .i64 (0))] [(1, 1, .i 1), (2, 1, .i 100), (3, 1, .i 10), (4, 1, .b true), (6, 2, .l 0)] }, { o := .bs [.l 0] 10 }, { o := .bd [.nil, .nil] [(0, 1, .l 3), (1, 1, .l 0)] }, { o := .al [.nil, .nil] [], d := some 1 }, { o := .st (.l 0) (.l 1) 2 [] }] []) (.seq (.reg [{ o := .bd [.t (.int .i64 (0)), .t (.int .i64 (0))] [(0, 1, .i 5000), (1, 1, .i 5000)] }, { o := .bs [.l 0] 2 }, { o := .mv (.l 0), d := some 2 }] []) (.seq (.reg [{ o := .ld (.v 1) 2 true }, { o := .mv (.v 2) }, { o := .bs [.i 0] 1 }, { o := .ca N.smoke_Start 0 [] [.l 2, .l 1, .l 0, .i 50] }, { o := .mv (.l 0) }, { o := .ex (.l 0) 0 }, { o := .ex (.l 1) 1 }, { o := .al [.t (.int .i64 (0)), .nil] [], d := some 3 }, { o := .st (.l 0) (.l 2) 2 [] }, { o := .mv (.l 2), d := some 4 }] []) (.seq (.reg [{ o := .ld (.v 1) 2 true }, { o := .mv (.v 2) }, { o := .ia (.l 0) (.i 0) 2 }, { o := .ld (.l 0) 2 true }, { o := .ca N.smoke_Travel 0 [] [.l 3, .i 0, .l 0, .b false] }, { o := .bin .eql (.l 0) (.i 100) }, { o := .mv (.l 0) }, { o := .ld (.v 1) 2 true, g := some (0, true) }, { o := .mv (.v 2), g := some (1, true) }, { o := .ia (.l 0) (.i 0) 2, g := some (2, true) }, { o := .ld (.l 0) 2 true, g := some (3, true) }, { o := .ca N.smoke_Travel 0 [] [.l 3, .i 0, .l 0, .b true], g := some (4, true) }, { o := .bin .eql (.l 0) (.i (-1)), g := some (5, true) }, { o := .pk (.l 6) (.l 0) (.b false) }, { o := .mv (.l 0) }, { o := .ld (.v 1) 2 true, g := some (0, true) }, { o := .bd [.t (.int .i64 (0)), .t (.int .i64 (0))] [(0, 1, .i 4999), (1, 1, .i 5000)], g := some (1, true) }, { o := .ca N.smoke_Travel 0 [] [.l 1, .i 0, .l 0, .b true], g := some (2, true) }, { o := .bin .eql (.l 0) (.i 100), g := some (3, true) }, { o := .pk (.l 4) (.l 0) (.b false) }, { o := .mv (.l 0) }, { o := .mv (.v 4), g := some (0, true) }, { o := .bin .eql (.l 0) (.i 0), g := some (1, true) }, { o := .pk (.l 2) (.l 0) (.b false) }, { o := .mv (.l 0) }, { o := .fa (.v 3) 1, g := some (0, true) }, { o := .ld (.l 0) 1 false, g := some (1, true) }, { o := .ln (.l 0), g := some (2, true) }, { o := .bin .eql (.l 0) (.i 2), g := some (3, true) }, { o := .pk (.l 4) (.l 0) (.b false) }, { o := .mv (.l 0) }, { o := .fa (.v 3) 1, g := some (0, true) }, { o := .ld (.l 0) 1 false, g := some (1, true) }, { o := .ia (.l 0) (.i 1) 1, g := some (2, true) }, { o := .ld (.l 0) 1 false, g := some (3, true) }, { o := .bin .eql (.l 0) (.i 150), g := some (4, true) }, { o := .pk (.l 5) (.l 0) (.b false) }, { o := .mv (.l 0) }, { o := .ld (.v 3) 2 true, g := some (0, true) }, { o := .ca N.smoke_Filled 0 [] [.l 0, .i 149], g := some (1, true) }, { o := .ln (.l 0), g := some (2, true) }, { o := .bin .eql (.l 0) (.i 1), g := some (3, true) }, { o := .pk (.l 4) (.l 0) (.b false) }, { o := .mv (.l 0), d := some 0 }] []) .ret))))), res := [(0, none)] }
def smoke_Start_l1b : C := (.its  [{ o := .bin .lss (.v 11) (.v 10) }] [] 0 .skip (.exit 1) (.seq (.blk 2 (.seq (.reg [{ o := .ia (.v 9) (.v 11) 1 }, { o := .ld (.l 0) 1 false }, { o := .mv (.l 0), d := some 8 }] []) (.reg [{ o := .mv (.v 7) }, { o := .mv (.v 8) }, { o := .mv (.v 3) }, { o := .ia (.l 2) (.l 1) 1 }, { o := .st (.l 0) (.l 1) 1 [] }] []))) (.reg [{ o := .bin .add (.v 11) (.i 1) }, { o := .mv (.l 0), d := some 11 }] [])))
def smoke_Start_l1 : C := .loop true [0, 2, 6, 8] K.smoke_Start_l1b
/-- /smoke.Start -/
def smoke_Start : Fn := { nargs := 4, vars := [0, 1, 2, 3, 4, 8, 9, 10, 12, 38, 39, 40], body := (.seq (.reg [{ o := .bx (.v 0) 2, d := some 4 }, { o := .al [.t (.int .i64 (0)), .nil] [], d := some 5 }, { o := .mv (.i 0), d := some 6 }] []) (.seq (.blk 0 (.ite [{ o := .ld (.v 4) 2 true }, { o := .mv (.v 1) }, { o := .ca N.smoke_given 0 [] [.l 1, .l 0] }, { o := .un .not (.l 0) }, { o := .mv (.l 0) }] [] 0 (.seq (.reg [{ o := .bd [.t (.int .i64 (0)), .nil] [] }, { o := .st (.v 5) (.l 0) 2 [] }, { o := .mv (.i 6), d := some 6 }] []) .ret) (.ite [{ o := .mv (.v 2) }, { o := .fa (.v 4) 0 }, { o := .ld (.l 0) 1 false }, { o := .ln (.l 0) }, { o := .bin .sub (.l 0) (.i 1) }, { o := .ca N.lists_Rising 0 [] [.l 4, .i 0, .l 0] }, { o := .un .not (.l 0) }, { o := .mv (.l 0) }] [] 0 (.seq (.reg [{ o := .bd [.t (.int .i64 (0)), .nil] [] }, { o := .st (.v 5) (.l 0) 2 [] }, { o := .mv (.i 3), d := some 6 }] []) .ret) (.ite [{ o := .mv (.v 3) }, { o := .ca N.lists_In 0 [] [.l 0, .i 0, .i 2147483648] }, { o := .un .not (.l 0) }, { o := .mv (.l 0) }] [] 0 (.seq (.reg [{ o := .bd [.t (.int .i64 (0)), .nil] [] }, { o := .st (.v 5) (.l 0) 2 [] }, { o := .mv (.i 8), d := some 6 }] []) .ret) .skip)))) (.seq (.reg [{ o := .bs [.i 1099511627776] 1 }, { o := .fa (.v 4) 0 }, { o := .ld (.l 0) 1 false }, { o := .ln (.l 0) }, { o := .ca N.slices_Repeat_int_int 1 [] [.l 3, .l 0] }, { o := .mv (.l 0), d := some 7 }] []) (.seq (.seq (.reg [{ o := .mv (.v 2), d := some 9 }, { o := .ln (.l 0), d := some 10 }, { o := .mv (.i 0), d := some 11 }] []) (.blk 1 K.smoke_Start_l1)) (.seq (.reg [{ o := .ld (.v 4) 2 true }, { o := .mv (.v 1) }, { o := .mv (.v 7) }, { o := .bd [.nil, .nil, .nil, .nil] [(0, 2, .l 2), (2, 1, .l 1), (3, 1, .l 0)] }, { o := .ca N.smoke_times_spread 0 [0] [.l 0] }] []) (.seq (.reg [{ o := .mv (.v 3) }, { o := .mv (.v 7) }, { o := .bd [.t (.int .i64 (0)), .nil] [(0, 1, .l 1), (1, 1, .l 0)] }, { o := .st (.v 5) (.l 0) 2 [] }, { o := .mv (.i 0), d := some 6 }] []) .ret)))))), res := [(5, some (2, true)), (6, none)] }
/-- /smoke.Travel -/
def smoke_Travel : Fn := { nargs := 4, vars := [0, 1, 2, 3, 4, 6, 8, 9, 10, 11, 12], body := (.seq (.reg [{ o := .bx (.v 0) 2, d := some 4 }, { o := .bx (.v 2) 2, d := some 5 }, { o := .mv (.i 0), d := some 6 }] []) (.seq (.ite [{ o := .mv (.v 1) }, { o := .bin .lss (.l 0) (.i 0) }, { o := .mv (.l 0) }, { o := .mv (.v 1), g := some (0, false) }, { o := .fa (.v 4) 1, g := some (1, false) }, { o := .ld (.l 0) 1 false, g := some (2, false) }, { o := .ln (.l 0), g := some (3, false) }, { o := .bin .geq (.l 3) (.l 0), g := some (4, false) }, { o := .pk (.l 5) (.b true) (.l 0) }, { o := .mv (.l 0) }, { o := .fa (.v 4) 1, g := some (0, false) }, { o := .ld (.l 0) 1 false, g := some (1, false) }, { o := .mv (.v 1), g := some (2, false) }, { o := .ia (.l 1) (.l 0) 10, g := some (3, false) }, { o := .fa (.l 0) 5, g := some (4, false) }, { o := .ld (.l 0) 1 false, g := some (5, false) }, { o := .pk (.l 6) (.b true) (.l 0) }] [] 0 (.seq (.reg [{ o := .mv (.i (-1)), d := some 6 }] []) .ret) .skip) (.seq (.reg [{ o := .fa (.v 4) 1 }, { o := .ld (.l 0) 1 false }, { o := .mv (.v 1) }, { o := .ia (.l 1) (.l 0) 10 }, { o := .ld (.l 0) 10 true }, { o := .al [.t (.int .i64 (0)), .t (.int .i64 (0)), .t (.int .i64 (0)), .t (.int .i64 (0)), .t (.bool false), .t (.bool false), .t (.int .i64 (0)), .t (.int .i64 (0)), .t (.int .i64 (0)), .t (.int .i64 (0))] [], d := some 7 }, { o := .st (.l 0) (.l 1) 10 [] }] []) (.seq (.reg [{ o := .ld (.v 5) 2 true }, { o := .al [.t (.int .i64 (0)), .t (.int .i64 (0))] [], d := some 8 }, { o := .st (.l 0) (.l 1) 2 [] }] []) (.seq (.ite [{ o := .mv (.v 3) }] [] 0 (.reg [{ o := .fa (.v 5) 1 }, { o := .ld (.l 0) 1 false }, { o := .un .neg (.l 0) }, { o := .fa (.v 5) 0 }, { o := .ld (.l 0) 1 false }, { o := .un .neg (.l 0) }, { o := .bd [.t (.int .i64 (0)), .t (.int .i64 (0))] [(0, 1, .l 3), (1, 1, .l 0)] }, { o := .st (.v 8) (.l 0) 2 [] }] []) .skip) (.seq (.reg [{ o := .mv (.i (-1)), d := some 9 }] []) (.seq (.ite [{ o := .fa (.v 8) 1 }, { o := .ld (.l 0) 1 false }, { o := .fa (.v 7) 3 }, { o := .ld (.l 0) 1 false }, { o := .bin .mul (.i (-500)) (.l 0) }, { o := .bin .gtr (.l 3) (.l 0) }] [] 0 (.reg [{ o := .fa (.v 7) 2 }, { o := .ld (.l 0) 1 false }, { o := .mv (.l 0), d := some 9 }] []) .skip) (.seq (.ite [{ o := .fa (.v 8) 1 }, { o := .ld (.l 0) 1 false }, { o := .bin .gtr (.l 0) (.i 0) }] [] 0 (.seq (.reg [{ o := .fa (.v 7) 2 }, { o := .ld (.l 0) 1 false }, { o := .fa (.v 7) 3 }, { o := .ld (.l 0) 1 false }, { o := .bin .mul (.l 2) (.l 0) }, { o := .bin .mul (.l 0) (.i 1000) }, { o := .fa (.v 8) 1 }, { o := .ld (.l 0) 1 false }, { o := .bin .quo (.l 2) (.l 0) }, { o := .mv (.l 0), d := some 10 }] []) (.ite [{ o := .mv (.v 9) }, { o := .bin .lss (.l 0) (.i 0) }, { o := .mv (.l 0) }, { o := .mv (.v 10), g := some (0, false) }, { o := .mv (.v 9), g := some (1, false) }, { o := .bin .lss (.l 1) (.l 0), g := some (2, false) }, { o := .pk (.l 3) (.b true) (.l 0) }] [] 0 (.reg [{ o := .mv (.v 10) }, { o := .mv (.l 0), d := some 9 }] []) .skip)) .skip) (.seq (.reg [{ o := .mv (.v 9) }, { o := .mv (.l 0), d := some 6 }] []) .ret))))))))), res := [(6, none)] }
def smoke_Change_l1b : C := (.its  [{ o := .bin .lss (.v 18) (.v 17) }] [] 0 .skip (.exit 0) (.seq (.blk 1 (.seq (.reg [{ o := .mv (.v 18) }, { o := .ia (.v 16) (.v 18) 1 }, { o := .ld (.l 0) 1 false }, { o := .mv (.l 2), d := some 12 }, { o := .mv (.l 1), d := some 13 }] []) (.reg [{ o := .mv (.v 11) }, { o := .mv (.v 12) }, { o := .mv (.v 13) }, { o := .mv (.v 5) }, { o := .mx [.l 1, .l 0] }, { o := .ia (.l 4) (.l 3) 1 }, { o := .st (.l 0) (.l 1) 1 [] }] []))) (.reg [{ o := .bin .add (.v 18) (.i 1) }, { o := .mv (.l 0), d := some 18 }] [])))
def smoke_Change_l1 : C := .loop true [0, 2, 4, 10, 12, 13, 14, 15, 19, 20, 21] K.smoke_Change_l1b
def smoke_Change_l2b : C := (.its  [{ o := .bin .lss (.v 21) (.v 20) }] [] 0 .skip (.exit 2) (.seq (.blk 3 (.seq (.reg [{ o := .mv (.v 21) }, { o := .ia (.v 19) (.v 21) 10 }, { o := .ld (.l 0) 10 true }, { o := .al [.t (.int .i64 (0)), .t (.int .i64 (0)), .t (.int .i64 (0)), .t (.int .i64 (0)), .t (.bool false), .t (.bool false), .t (.int .i64 (0)), .t (.int .i64 (0)), .t (.int .i64 (0)), .t (.int .i64 (0))] [], d := some 15 }, { o := .mv (.l 3), d := some 14 }, { o := .st (.l 1) (.l 2) 10 [] }] []) (.seq (.ite [{ o := .fa (.v 8) 1 }, { o := .ld (.l 0) 1 false }, { o := .fa (.v 15) 0 }, { o := .ld (.l 0) 1 false }, { o := .ia (.l 2) (.l 0) 1 }, { o := .ld (.l 0) 1 false }, { o := .mv (.v 5) }, { o := .bin .leq (.l 1) (.l 0) }, { o := .mv (.l 0) }, { o := .ld (.v 6) 2 true, g := some (0, true) }, { o := .mv (.v 14), g := some (1, true) }, { o := .mv (.v 1), g := some (2, true) }, { o := .mv (.v 14), g := some (3, true) }, { o := .ia (.l 1) (.l 0) 2, g := some (4, true) }, { o := .ld (.l 0) 2 true, g := some (5, true) }, { o := .ca N.smoke_Travel 0 [] [.l 5, .l 4, .l 0, .b false], g := some (6, true) }, { o := .bin .geq (.l 0) (.i 0), g := some (7, true) }, { o := .pk (.l 8) (.l 0) (.b false) }] [] 0 (.reg [{ o := .mv (.v 11) }, { o := .fa (.v 15) 1 }, { o := .ld (.l 0) 1 false }, { o := .mv (.v 5) }, { o := .ia (.l 3) (.l 1) 1 }, { o := .st (.l 0) (.l 1) 1 [] }] []) .skip) (.ite [{ o := .fa (.v 8) 1 }, { o := .ld (.l 0) 1 false }, { o := .fa (.v 15) 1 }, { o := .ld (.l 0) 1 false }, { o := .ia (.l 2) (.l 0) 1 }, { o := .ld (.l 0) 1 false }, { o := .mv (.v 5) }, { o := .bin .leq (.l 1) (.l 0) }, { o := .mv (.l 0) }, { o := .ld (.v 6) 2 true, g := some (0, true) }, { o := .mv (.v 14), g := some (1, true) }, { o := .mv (.v 1), g := some (2, true) }, { o := .mv (.v 14), g := some (3, true) }, { o := .ia (.l 1) (.l 0) 2, g := some (4, true) }, { o := .ld (.l 0) 2 true, g := some (5, true) }, { o := .ca N.smoke_Travel 0 [] [.l 5, .l 4, .l 0, .b true], g := some (6, true) }, { o := .bin .geq (.l 0) (.i 0), g := some (7, true) }, { o := .pk (.l 8) (.l 0) (.b false) }] [] 0 (.reg [{ o := .mv (.v 11) }, { o := .fa (.v 15) 0 }, { o := .ld (.l 0) 1 false }, { o := .mv (.v 5) }, { o := .ia (.l 3) (.l 1) 1 }, { o := .st (.l 0) (.l 1) 1 [] }] []) .skip)))) (.reg [{ o := .bin .add (.v 21) (.i 1) }, { o := .mv (.l 0), d := some 21 }] [])))
def smoke_Change_l2 : C := .loop true [0, 2, 4, 10, 12, 13, 14, 15, 16, 17, 18] K.smoke_Change_l2b
/-- /smoke.Change -/
def smoke_Change : Fn := { nargs := 6, vars := [0, 1, 2, 3, 4, 5, 6, 8, 10, 12, 13, 14, 15, 16, 17, 18, 59, 60, 61, 74, 75, 76], body := (.seq (.reg [{ o := .bx (.v 0) 2, d := some 6 }, { o := .bx (.v 2) 2, d := some 7 }, { o := .bx (.v 4) 2, d := some 8 }, { o := .al [.t (.int .i64 (0)), .nil] [], d := some 9 }, { o := .mv (.i 0), d := some 10 }] []) (.seq (.ite [{ o := .ld (.v 6) 2 true }, { o := .mv (.v 1) }, { o := .ca N.smoke_given 0 [] [.l 1, .l 0] }, { o := .un .not (.l 0) }, { o := .mv (.l 0) }, { o := .ld (.v 6) 2 true, g := some (0, false) }, { o := .ld (.v 8) 2 true, g := some (1, false) }, { o := .ca N.smoke_Valid 0 [] [.l 1, .l 0], g := some (2, false) }, { o := .un .not (.l 0), g := some (3, false) }, { o := .pk (.l 4) (.b true) (.l 0) }, { o := .mv (.l 0) }, { o := .ld (.v 7) 2 true, g := some (0, false) }, { o := .mv (.v 3), g := some (1, false) }, { o := .ca N.smoke_given 0 [] [.l 1, .l 0], g := some (2, false) }, { o := .un .not (.l 0), g := some (3, false) }, { o := .pk (.l 4) (.b true) (.l 0) }, { o := .mv (.l 0) }, { o := .fa (.v 7) 0, g := some (0, false) }, { o := .ld (.l 0) 1 false, g := some (1, false) }, { o := .ln (.l 0), g := some (2, false) }, { o := .fa (.v 6) 0, g := some (3, false) }, { o := .ld (.l 0) 1 false, g := some (4, false) }, { o := .ln (.l 0), g := some (5, false) }, { o := .bin .neq (.l 3) (.l 0), g := some (6, false) }, { o := .pk (.l 7) (.b true) (.l 0) }] [] 0 (.seq (.reg [{ o := .ld (.v 8) 2 true }, { o := .st (.v 9) (.l 0) 2 [] }, { o := .mv (.i 6), d := some 10 }] []) .ret) .skip) (.seq (.ite [{ o := .mv (.v 5) }, { o := .fa (.v 8) 0 }, { o := .ld (.l 0) 1 false }, { o := .bin .lss (.l 2) (.l 0) }, { o := .mv (.l 0) }, { o := .mv (.v 5), g := some (0, false) }, { o := .bin .gtr (.l 0) (.i 2147483648), g := some (1, false) }, { o := .pk (.l 2) (.b true) (.l 0) }] [] 0 (.seq (.reg [{ o := .ld (.v 8) 2 true }, { o := .st (.v 9) (.l 0) 2 [] }, { o := .mv (.i 8), d := some 10 }] []) .ret) .skip) (.seq (.reg [{ o := .fa (.v 8) 1 }, { o := .ld (.l 0) 1 false }, { o := .ln (.l 0) }, { o := .mk (.l 0) (.t (.int .i64 (0))) 1 }, { o := .mv (.l 0), d := some 11 }] []) (.seq (.seq (.reg [{ o := .fa (.v 8) 1 }, { o := .ld (.l 0) 1 false, d := some 16 }, { o := .ln (.l 0), d := some 17 }, { o := .mv (.i 0), d := some 18 }] []) (.blk 0 K.smoke_Change_l1)) (.seq (.seq (.reg [{ o := .fa (.v 6) 1 }, { o := .ld (.l 0) 1 false, d := some 19 }, { o := .ln (.l 0), d := some 20 }, { o := .mv (.i 0), d := some 21 }] []) (.blk 2 K.smoke_Change_l2)) (.seq (.reg [{ o := .ld (.v 7) 2 true }, { o := .mv (.v 3) }, { o := .mv (.v 11) }, { o := .bd [.nil, .nil, .nil, .nil] [(0, 2, .l 2), (2, 1, .l 1), (3, 1, .l 0)] }, { o := .ca N.smoke_times_spread 0 [0] [.l 0] }] []) (.seq (.reg [{ o := .mv (.v 5) }, { o := .mv (.v 11) }, { o := .bd [.t (.int .i64 (0)), .nil] [(0, 1, .l 1), (1, 1, .l 0)] }, { o := .st (.v 9) (.l 0) 2 [] }, { o := .mv (.i 0), d := some 10 }] []) .ret)))))))), res := [(9, some (2, true)), (10, none)] }
/-- /law28.agree -/
def law28_agree : Fn := { nargs := 7, vars := [0, 1, 2, 3, 4, 5, 6, 7, 9, 11, 14, 15, 16, 17, 18, 19, 20, 21, 22], body := (.seq (.reg [{ o := .bx (.v 0) 2, d := some 7 }, { o := .bx (.v 2) 2, d := some 8 }, { o := .bx (.v 4) 2, d := some 9 }, { o := .mv (.b false), d := some 10 }] []) (.seq (.reg [{ o := .ld (.v 7) 2 true }, { o := .mv (.v 1) }, { o := .mv (.v 5) }, { o := .mv (.v 6) }, { o := .ca N.smoke_Start 0 [] [.l 3, .l 2, .l 1, .l 0] }, { o := .mv (.l 0) }, { o := .ex (.l 0) 0 }, { o := .ex (.l 1) 1 }, { o := .al [.t (.int .i64 (0)), .nil] [], d := some 11 }, { o := .st (.l 0) (.l 2) 2 [] }, { o := .mv (.l 2), d := some 12 }] []) (.seq (.reg [{ o := .ld (.v 7) 2 true }, { o := .mv (.v 1) }, { o := .mv (.v 5) }, { o := .mv (.v 6) }, { o := .ca N.ref28_Start 0 [] [.l 3, .l 2, .l 1, .l 0] }, { o := .mv (.l 0) }, { o := .ex (.l 0) 0 }, { o := .ex (.l 1) 1 }, { o := .al [.t (.int .i64 (0)), .nil] [], d := some 13 }, { o := .st (.l 0) (.l 2) 2 [] }, { o := .mv (.l 2), d := some 14 }] []) (.seq (.reg [{ o := .ld (.v 7) 2 true }, { o := .mv (.v 1) }, { o := .ld (.v 8) 2 true }, { o := .mv (.v 3) }, { o := .ld (.v 9) 2 true }, { o := .mv (.v 6) }, { o := .ca N.smoke_Change 0 [] [.l 5, .l 4, .l 3, .l 2, .l 1, .l 0] }, { o := .mv (.l 0) }, { o := .ex (.l 0) 0 }, { o := .ex (.l 1) 1 }, { o := .al [.t (.int .i64 (0)), .nil] [], d := some 15 }, { o := .st (.l 0) (.l 2) 2 [] }, { o := .mv (.l 2), d := some 16 }] []) (.seq (.reg [{ o := .ld (.v 7) 2 true }, { o := .mv (.v 1) }, { o := .ld (.v 8) 2 true }, { o := .mv (.v 3) }, { o := .ld (.v 9) 2 true }, { o := .mv (.v 6) }, { o := .ca N.ref28_Change 0 [] [.l 5, .l 4, .l 3, .l 2, .l 1, .l 0] }, { o := .mv (.l 0) }, { o := .ex (.l 0) 0 }, { o := .ex (.l 1) 1 }, { o := .al [.t (.int .i64 (0)), .nil] [], d := some 17 }, { o := .st (.l 0) (.l 2) 2 [] }, { o := .mv (.l 2), d := some 18 }] []) (.seq (.reg [{ o := .ld (.v 7) 2 true }, { o := .ld (.v 9) 2 true }, { o := .ca N.smoke_Valid 0 [] [.l 1, .l 0] }, { o := .ld (.v 7) 2 true }, { o := .ld (.v 9) 2 true }, { o := .ca N.ref28_Valid 0 [] [.l 1, .l 0] }, { o := .eqk (.bool) false (.l 3) (.l 0) }, { o := .mv (.l 0) }, { o := .mv (.v 12), g := some (0, true) }, { o := .mv (.v 14), g := some (1, true) }, { o := .bin .eql (.l 1) (.l 0), g := some (2, true) }, { o := .pk (.l 3) (.l 0) (.b false) }, { o := .mv (.l 0) }, { o := .ld (.v 11) 2 true, g := some (0, true) }, { o := .ld (.v 13) 2 true, g := some (1, true) }, { o := .ca N.ref28_Same 0 [] [.l 1, .l 0], g := some (2, true) }, { o := .pk (.l 3) (.l 0) (.b false) }, { o := .mv (.l 0) }, { o := .mv (.v 16), g := some (0, true) }, { o := .mv (.v 18), g := some (1, true) }, { o := .bin .eql (.l 1) (.l 0), g := some (2, true) }, { o := .pk (.l 3) (.l 0) (.b false) }, { o := .mv (.l 0) }, { o := .ld (.v 15) 2 true, g := some (0, true) }, { o := .ld (.v 17) 2 true, g := some (1, true) }, { o := .ca N.ref28_Same 0 [] [.l 1, .l 0], g := some (2, true) }, { o := .pk (.l 3) (.l 0) (.b false) }, { o := .mv (.l 0) }, { o := .ld (.v 9) 2 true, g := some (0, true) }, { o := .mv (.v 6), g := some (1, true) }, { o := .ca N.smoke_Filled 0 [] [.l 1, .l 0], g := some (2, true) }, { o := .ld (.v 9) 2 true, g := some (3, true) }, { o := .mv (.v 6), g := some (4, true) }, { o := .ca N.ref28_Filled 0 [] [.l 1, .l 0], g := some (5, true) }, { o := .ca N.ref23_SameInts 0 [] [.l 3, .l 0], g := some (6, true) }, { o := .pk (.l 7) (.l 0) (.b false) }, { o := .mv (.l 0) }, { o := .ld (.v 9) 2 true, g := some (0, true) }, { o := .mv (.v 6), g := some (1, true) }, { o := .ca N.smoke_Free 0 [] [.l 1, .l 0], g := some (2, true) }, { o := .ld (.v 9) 2 true, g := some (3, true) }, { o := .mv (.v 6), g := some (4, true) }, { o := .ca N.ref28_Free 0 [] [.l 1, .l 0], g := some (5, true) }, { o := .ca N.ref23_SameInts 0 [] [.l 3, .l 0], g := some (6, true) }, { o := .pk (.l 7) (.l 0) (.b false) }, { o := .mv (.l 0), d := some 10 }] [(3, 0), (4, 0), (31, 26), (40, 35)]) .ret)))))), res := [(10, none)] }
/-- /smoke.Free -/
def smoke_Free : Fn := { nargs := 2, vars := [0, 1, 2, 3, 4], body := (.seq (.reg [{ o := .bx (.v 0) 2, d := some 2 }, { o := .bx (.v 1) 1, d := some 3 }, { o := .mv (.c (.nil)), d := some 4 }] []) (.seq (.reg [{ o := .fa (.v 2) 1 }, { o := .ld (.l 0) 1 false }, { o := .ln (.l 0) }, { o := .mf N.smoke_Free_1 [.v 2, .v 3] }, { o := .ca N.lists_Where 0 [] [.l 1, .l 0] }, { o := .mv (.l 0), d := some 4 }] []) .ret)), res := [(4, none)] }
/-- /smoke.given -/
def smoke_given : Fn := { nargs := 2, vars := [0, 1, 2, 4], body := (.seq (.reg [{ o := .bx (.v 0) 2, d := some 2 }, { o := .mv (.b false), d := some 3 }] []) (.seq (.reg [{ o := .ld (.v 2) 2 true }, { o := .ca N.plan_Valid 0 [] [.l 0] }, { o := .mv (.l 0) }, { o := .mv (.v 1), g := some (0, true) }, { o := .ln (.l 0), g := some (1, true) }, { o := .fa (.v 2) 1, g := some (2, true) }, { o := .ld (.l 0) 1 false, g := some (3, true) }, { o := .ln (.l 0), g := some (4, true) }, { o := .bin .eql (.l 3) (.l 0), g := some (5, true) }, { o := .pk (.l 6) (.l 0) (.b false) }, { o := .mv (.l 0) }, { o := .mv (.v 1), g := some (0, true) }, { o := .ca N.slices_ContainsFunc_api_Span_api_Span 0 [] [.l 0, .c (.fn N.smoke_given_1 [])], g := some (1, true) }, { o := .un .not (.l 0), g := some (2, true) }, { o := .pk (.l 3) (.l 0) (.b false) }, { o := .mv (.l 0), d := some 3 }] []) .ret)), res := [(3, none)] }
def slices_Repeat_int_int_l1b : C := (.seq (.ite [{ o := .mv (.v 6) }, { o := .mv (.v 5) }, { o := .ln (.l 0) }, { o := .bin .lss (.l 2) (.l 0) }] [] 0 .skip (.exit 0)) (.blk 1 (.reg [{ o := .mv (.v 6) }, { o := .mv (.v 5) }, { o := .mv (.v 6) }, { o := .sc (.l 1) (some (.l 0)) none 1 }, { o := .mv (.v 5) }, { o := .mv (.v 6) }, { o := .sc (.l 1) none (some (.l 0)) 1 }, { o := .cp (.l 3) (.l 0) 1 }, { o := .bin .add (.l 7) (.l 0) }, { o := .mv (.l 0), d := some 6 }] [])))
def slices_Repeat_int_int_l1 : C := .loop true [0, 1, 2, 3, 4] K.slices_Repeat_int_int_l1b
/-- slices.Repeat[[]int,int] -/
def slices_Repeat_int_int : Fn := { nargs := 2, vars := [0, 1, 4, 5, 6, 7, 8], body := (.seq (.reg [{ o := .mv (.c (.nil)), d := some 2 }] []) (.seq (.ite [{ o := .mv (.v 1) }, { o := .bin .lss (.l 0) (.i 0) }] [] 0 .fail .skip) (.seq (.reg [{ o := .mv (.v 0) }, { o := .ln (.l 0) }, { o := .cv .u64 (.l 0) }, { o := .mv (.v 1) }, { o := .cv .u64 (.l 0) }, { o := .ca N.math_bits_Mul 0 [] [.l 2, .l 0] }, { o := .mv (.l 0) }, { o := .ex (.l 0) 0 }, { o := .ex (.l 1) 1 }, { o := .mv (.l 1), d := some 3 }, { o := .mv (.l 1), d := some 4 }] []) (.seq (.ite [{ o := .mv (.v 3) }, { o := .bin .gtr (.l 0) (.c (.t (.int .u64 (0)))) }, { o := .mv (.l 0) }, { o := .mv (.v 4), g := some (0, false) }, { o := .bin .gtr (.l 0) (.c (.t (.int .u64 (9223372036854775807)))), g := some (1, false) }, { o := .pk (.l 2) (.b true) (.l 0) }] [] 0 .fail .skip) (.seq (.reg [{ o := .mv (.v 4) }, { o := .cv .i64 (.l 0) }, { o := .mk (.l 0) (.t (.int .i64 (0))) 1 }, { o := .mv (.l 0), d := some 5 }] []) (.seq (.reg [{ o := .mv (.v 5) }, { o := .mv (.v 0) }, { o := .cp (.l 1) (.l 0) 1 }, { o := .mv (.l 0), d := some 6 }] []) (.seq (.blk 0 K.slices_Repeat_int_int_l1) (.seq (.reg [{ o := .mv (.v 5) }, { o := .mv (.l 0), d := some 2 }] []) .ret)))))))), res := [(2, none)] }
def smoke_times_spread_l2b : C := (.its  [{ o := .bin .lss (.v 9) (.v 8) }] [] 0 .skip (.exit 2) (.seq (.blk 3 (.seq (.reg [{ o := .mv (.v 9) }, { o := .ia (.v 7) (.v 9) 10 }, { o := .ld (.l 0) 10 true }, { o := .al [.t (.int .i64 (0)), .t (.int .i64 (0)), .t (.int .i64 (0)), .t (.int .i64 (0)), .t (.bool false), .t (.bool false), .t (.int .i64 (0)), .t (.int .i64 (0)), .t (.int .i64 (0)), .t (.int .i64 (0))] [], d := some 4 }, { o := .mv (.l 3), d := some 3 }, { o := .st (.l 1) (.l 2) 10 [] }] []) (.seq (.reg [{ o := .ld (.v 1) 4 true }, { o := .mv (.v 3) }, { o := .fa (.v 4) 0 }, { o := .ld (.l 0) 1 false }, { o := .fa (.v 4) 1 }, { o := .ld (.l 0) 1 false }, { o := .ca N.smoke_times_reach 0 [0] [.l 5, .l 4, .l 2, .l 0, .b false] }, { o := .mv (.l 0), d := some 5 }] []) (.seq (.reg [{ o := .ld (.v 1) 4 true }, { o := .mv (.v 3) }, { o := .fa (.v 4) 1 }, { o := .ld (.l 0) 1 false }, { o := .fa (.v 4) 0 }, { o := .ld (.l 0) 1 false }, { o := .ca N.smoke_times_reach 0 [0] [.l 5, .l 4, .l 2, .l 0, .b true] }, { o := .mv (.l 0), d := some 6 }] []) (.reg [{ o := .mv (.v 2) }, { o := .mv (.l 0) }, { o := .mv (.v 5), g := some (0, false) }, { o := .pk (.l 1) (.b true) (.l 0) }, { o := .mv (.l 0) }, { o := .mv (.v 6), g := some (0, false) }, { o := .pk (.l 1) (.b true) (.l 0) }, { o := .mv (.l 0), d := some 2 }] []))))) (.reg [{ o := .bin .add (.v 9) (.i 1) }, { o := .mv (.l 0), d := some 9 }] [])))
def smoke_times_spread_l2 : C := .loop true [0, 3, 4, 5, 6] K.smoke_times_spread_l2b
def smoke_times_spread_l1b : C := (.seq (.ite [{ o := .mv (.v 2) }] [] 0 .skip (.exit 0)) (.blk 1 (.seq (.reg [{ o := .mv (.b false), d := some 2 }] []) (.seq (.reg [{ o := .fa (.v 1) 0 }, { o := .fa (.l 0) 1 }, { o := .ld (.l 0) 1 false, d := some 7 }, { o := .ln (.l 0), d := some 8 }, { o := .mv (.i 0), d := some 9 }] []) (.blk 2 K.smoke_times_spread_l2)))))
def smoke_times_spread_l1 : C := .loop true [0, 3, 4, 5, 6, 7, 8, 9] K.smoke_times_spread_l1b
/-- (/smoke.times).spread -/
def smoke_times_spread : Fn := { nargs := 1, vars := [0, 1, 2, 3, 4, 5, 6, 10, 11, 12], body := (.seq (.reg [{ o := .bx (.v 0) 4, d := some 1 }] []) (.seq (.reg [{ o := .mv (.b true), d := some 2 }] []) (.blk 0 K.smoke_times_spread_l1))), res := [] }
/-- /smoke.Valid -/
def smoke_Valid : Fn := { nargs := 2, vars := [0, 1, 2, 3, 4], body := (.seq (.reg [{ o := .bx (.v 0) 2, d := some 2 }, { o := .bx (.v 1) 2, d := some 3 }, { o := .mv (.b false), d := some 4 }] []) (.seq (.reg [{ o := .ld (.v 2) 2 true }, { o := .ca N.plan_Valid 0 [] [.l 0] }, { o := .mv (.l 0) }, { o := .fa (.v 3) 1, g := some (0, true) }, { o := .ld (.l 0) 1 false, g := some (1, true) }, { o := .ln (.l 0), g := some (2, true) }, { o := .fa (.v 2) 0, g := some (3, true) }, { o := .ld (.l 0) 1 false, g := some (4, true) }, { o := .ln (.l 0), g := some (5, true) }, { o := .bin .eql (.l 3) (.l 0), g := some (6, true) }, { o := .pk (.l 7) (.l 0) (.b false) }, { o := .mv (.l 0) }, { o := .fa (.v 3) 0, g := some (0, true) }, { o := .ld (.l 0) 1 false, g := some (1, true) }, { o := .ca N.lists_In 0 [] [.l 0, .i 0, .i 2147483648], g := some (2, true) }, { o := .pk (.l 3) (.l 0) (.b false) }, { o := .mv (.l 0) }, { o := .fa (.v 3) 1, g := some (0, true) }, { o := .ld (.l 0) 1 false, g := some (1, true) }, { o := .mf N.smoke_Valid_1 [.v 3], g := some (2, true) }, { o := .ca N.slices_ContainsFunc_int_int 0 [] [.l 1, .l 0], g := some (3, true) }, { o := .un .not (.l 0), g := some (4, true) }, { o := .pk (.l 5) (.l 0) (.b false) }, { o := .mv (.l 0), d := some 4 }] []) .ret)), res := [(4, none)] }
/-- /ref28.Same -/
def ref28_Same : Fn := { nargs := 2, vars := [0, 1, 2, 3, 4], body := (.seq (.reg [{ o := .bx (.v 0) 2, d := some 2 }, { o := .bx (.v 1) 2, d := some 3 }, { o := .mv (.b false), d := some 4 }] []) (.seq (.reg [{ o := .fa (.v 2) 0 }, { o := .ld (.l 0) 1 false }, { o := .fa (.v 3) 0 }, { o := .ld (.l 0) 1 false }, { o := .bin .eql (.l 2) (.l 0) }, { o := .mv (.l 0) }, { o := .fa (.v 2) 1, g := some (0, true) }, { o := .ld (.l 0) 1 false, g := some (1, true) }, { o := .fa (.v 3) 1, g := some (2, true) }, { o := .ld (.l 0) 1 false, g := some (3, true) }, { o := .ca N.ref23_SameInts 0 [] [.l 2, .l 0], g := some (4, true) }, { o := .pk (.l 5) (.l 0) (.b false) }, { o := .mv (.l 0), d := some 4 }] []) .ret)), res := [(4, none)] }
def ref28_Filled_l1b : C := (.seq (.ite [{ o := .mv (.v 5) }, { o := .fa (.v 2) 1 }, { o := .ld (.l 0) 1 false }, { o := .ln (.l 0) }, { o := .bin .lss (.l 3) (.l 0) }] [] 0 .skip (.exit 0)) (.seq (.blk 1 (.ite [{ o := .fa (.v 2) 1 }, { o := .ld (.l 0) 1 false }, { o := .mv (.v 5) }, { o := .ia (.l 1) (.l 0) 1 }, { o := .ld (.l 0) 1 false }, { o := .mv (.v 1) }, { o := .bin .leq (.l 1) (.l 0) }] [] 0 (.reg [{ o := .mv (.v 4) }, { o := .mv (.v 5) }, { o := .bs [.l 0] 1 }, { o := .app (.l 2) (.l 0) true 1 }, { o := .mv (.l 0), d := some 4 }] []) .skip)) (.reg [{ o := .mv (.v 5) }, { o := .bin .add (.l 0) (.i 1) }, { o := .mv (.l 0), d := some 5 }] [])))
def ref28_Filled_l1 : C := .loop true [0, 3] K.ref28_Filled_l1b
/-- /ref28.Filled -/
def ref28_Filled : Fn := { nargs := 2, vars := [0, 1, 2, 4, 5, 6], body := (.seq (.reg [{ o := .bx (.v 0) 2, d := some 2 }, { o := .mv (.c (.nil)), d := some 3 }] []) (.seq (.reg [{ o := .nw 1, d := some 4 }] []) (.seq (.seq (.reg [{ o := .mv (.i 0), d := some 5 }] []) (.blk 0 K.ref28_Filled_l1)) (.seq (.reg [{ o := .mv (.v 4) }, { o := .mv (.l 0), d := some 3 }] []) .ret)))), res := [(3, none)] }
def ref28_Free_l1b : C := (.seq (.ite [{ o := .mv (.v 5) }, { o := .fa (.v 2) 1 }, { o := .ld (.l 0) 1 false }, { o := .ln (.l 0) }, { o := .bin .lss (.l 3) (.l 0) }] [] 0 .skip (.exit 0)) (.seq (.blk 1 (.ite [{ o := .fa (.v 2) 1 }, { o := .ld (.l 0) 1 false }, { o := .mv (.v 5) }, { o := .ia (.l 1) (.l 0) 1 }, { o := .ld (.l 0) 1 false }, { o := .mv (.v 1) }, { o := .bin .gtr (.l 1) (.l 0) }] [] 0 (.reg [{ o := .mv (.v 4) }, { o := .mv (.v 5) }, { o := .bs [.l 0] 1 }, { o := .app (.l 2) (.l 0) true 1 }, { o := .mv (.l 0), d := some 4 }] []) .skip)) (.reg [{ o := .mv (.v 5) }, { o := .bin .add (.l 0) (.i 1) }, { o := .mv (.l 0), d := some 5 }] [])))
def ref28_Free_l1 : C := .loop true [0, 3] K.ref28_Free_l1b
/-- /ref28.Free -/
def ref28_Free : Fn := { nargs := 2, vars := [0, 1, 2, 4, 5, 6], body := (.seq (.reg [{ o := .bx (.v 0) 2, d := some 2 }, { o := .mv (.c (.nil)), d := some 3 }] []) (.seq (.reg [{ o := .nw 1, d := some 4 }] []) (.seq (.seq (.reg [{ o := .mv (.i 0), d := some 5 }] []) (.blk 0 K.ref28_Free_l1)) (.seq (.reg [{ o := .mv (.v 4) }, { o := .mv (.l 0), d := some 3 }] []) .ret)))), res := [(3, none)] }
/-- /smoke.Free.1 -/
def smoke_Free_1 : Fn := { nargs := 3, vars := [0, 1, 2, 4], body := (.seq (.reg [{ o := .mv (.b false), d := some 3 }] []) (.seq (.reg [{ o := .fa (.v 1) 1 }, { o := .ld (.l 0) 1 false }, { o := .mv (.v 0) }, { o := .ia (.l 1) (.l 0) 1 }, { o := .ld (.l 0) 1 false }, { o := .ld (.v 2) 1 false }, { o := .bin .gtr (.l 1) (.l 0) }, { o := .mv (.l 0), d := some 3 }] []) .ret)), res := [(3, none)] }
/-- /plan.Valid -/
def plan_Valid : Fn := { nargs := 1, vars := [0, 1, 2], body := (.seq (.reg [{ o := .bx (.v 0) 2, d := some 1 }, { o := .mv (.b false), d := some 2 }] []) (.seq (.reg [{ o := .ld (.v 1) 2 true }, { o := .ca N.plan_Check 0 [] [.l 0] }, { o := .bin .eql (.l 0) (.i 0) }, { o := .mv (.l 0), d := some 2 }] []) .ret)), res := [(2, none)] }
/-- slices.ContainsFunc[[]/api.Span,/api.Span] -/
def slices_ContainsFunc_api_Span_api_Span : Fn := { nargs := 2, vars := [0, 1, 4], body := (.seq (.reg [{ o := .mv (.b false), d := some 2 }] []) (.seq (.reg [{ o := .mv (.v 0) }, { o := .mv (.v 1) }, { o := .ca N.slices_IndexFunc_api_Span_api_Span 0 [] [.l 1, .l 0] }, { o := .bin .geq (.l 0) (.i 0) }, { o := .mv (.l 0), d := some 2 }] []) .ret)), res := [(2, none)] }
/-- /smoke.given.1 -/
def smoke_given_1 : Fn := { nargs := 1, vars := [0, 1, 2], body := (.seq (.reg [{ o := .bx (.v 0) 2, d := some 1 }, { o := .mv (.b false), d := some 2 }] []) (.seq (.reg [{ o := .fa (.v 1) 0 }, { o := .ld (.l 0) 1 false }, { o := .bin .lss (.l 0) (.i (-1125899906842624)) }, { o := .mv (.l 0) }, { o := .fa (.v 1) 1, g := some (0, false) }, { o := .ld (.l 0) 1 false, g := some (1, false) }, { o := .bin .gtr (.l 0) (.i 1125899906842624), g := some (2, false) }, { o := .pk (.l 3) (.b true) (.l 0) }, { o := .mv (.l 0) }, { o := .fa (.v 1) 0, g := some (0, false) }, { o := .ld (.l 0) 1 false, g := some (1, false) }, { o := .fa (.v 1) 1, g := some (2, false) }, { o := .ld (.l 0) 1 false, g := some (3, false) }, { o := .bin .gtr (.l 2) (.l 0), g := some (4, false) }, { o := .pk (.l 5) (.b true) (.l 0) }, { o := .mv (.l 0), d := some 2 }] []) .ret)), res := [(2, none)] }
/-- math/bits.Mul -/
def math_bits_Mul : Fn := { nargs := 2, vars := [0, 1, 4, 5, 8, 9], body := (.seq (.reg [{ o := .mv (.c (.t (.int .u64 (0)))), d := some 2 }, { o := .mv (.c (.t (.int .u64 (0)))), d := some 3 }] []) (.seq (.cnd false .skip) (.seq (.reg [{ o := .mv (.v 0) }, { o := .mv (.v 1) }, { o := .ca N.math_bits_Mul64 0 [] [.l 1, .l 0] }, { o := .mv (.l 0) }, { o := .ex (.l 0) 0 }, { o := .ex (.l 1) 1 }, { o := .mv (.l 1), d := some 4 }, { o := .mv (.l 1), d := some 5 }] []) (.seq (.reg [{ o := .mv (.v 4) }, { o := .mv (.v 5) }, { o := .mv (.l 1), d := some 2 }, { o := .mv (.l 1), d := some 3 }] []) .ret)))), res := [(2, none), (3, none)] }
/-- (/smoke.times).reach -/
def smoke_times_reach : Fn := { nargs := 5, vars := [0, 1, 2, 3, 4, 5, 10, 11], body := (.seq (.reg [{ o := .bx (.v 0) 4, d := some 5 }, { o := .mv (.b false), d := some 6 }] []) (.seq (.reg [{ o := .fa (.v 5) 0 }, { o := .ld (.l 0) 2 true }, { o := .mv (.v 1) }, { o := .fa (.v 5) 2 }, { o := .ld (.l 0) 1 false }, { o := .mv (.v 1) }, { o := .ia (.l 1) (.l 0) 2 }, { o := .ld (.l 0) 2 true }, { o := .mv (.v 4) }, { o := .ca N.smoke_Travel 0 [] [.l 7, .l 6, .l 1, .l 0] }, { o := .mv (.l 0), d := some 7 }] []) (.seq (.ite [{ o := .mv (.v 7) }, { o := .bin .lss (.l 0) (.i 0) }, { o := .mv (.l 0) }, { o := .fa (.v 5) 3, g := some (0, false) }, { o := .ld (.l 0) 1 false, g := some (1, false) }, { o := .mv (.v 2), g := some (2, false) }, { o := .ia (.l 1) (.l 0) 1, g := some (3, false) }, { o := .ld (.l 0) 1 false, g := some (4, false) }, { o := .bin .gtr (.l 0) (.i 2147483648), g := some (5, false) }, { o := .pk (.l 6) (.b true) (.l 0) }, { o := .mv (.l 0) }, { o := .fa (.v 5) 3, g := some (0, false) }, { o := .ld (.l 0) 1 false, g := some (1, false) }, { o := .mv (.v 2), g := some (2, false) }, { o := .ia (.l 1) (.l 0) 1, g := some (3, false) }, { o := .ld (.l 0) 1 false, g := some (4, false) }, { o := .mv (.v 7), g := some (5, false) }, { o := .bin .add (.l 1) (.l 0), g := some (6, false) }, { o := .bin .gtr (.l 0) (.i 2147483648), g := some (7, false) }, { o := .pk (.l 8) (.b true) (.l 0) }, { o := .mv (.l 0) }, { o := .fa (.v 5) 3, g := some (0, false) }, { o := .ld (.l 0) 1 false, g := some (1, false) }, { o := .mv (.v 2), g := some (2, false) }, { o := .ia (.l 1) (.l 0) 1, g := some (3, false) }, { o := .ld (.l 0) 1 false, g := some (4, false) }, { o := .mv (.v 7), g := some (5, false) }, { o := .bin .add (.l 1) (.l 0), g := some (6, false) }, { o := .fa (.v 5) 3, g := some (7, false) }, { o := .ld (.l 0) 1 false, g := some (8, false) }, { o := .mv (.v 3), g := some (9, false) }, { o := .ia (.l 1) (.l 0) 1, g := some (10, false) }, { o := .ld (.l 0) 1 false, g := some (11, false) }, { o := .bin .geq (.l 5) (.l 0), g := some (12, false) }, { o := .pk (.l 13) (.b true) (.l 0) }] [] 0 (.seq (.reg [{ o := .mv (.b false), d := some 6 }] []) .ret) .skip) (.seq (.reg [{ o := .fa (.v 5) 3 }, { o := .ld (.l 0) 1 false }, { o := .mv (.v 3) }, { o := .fa (.v 5) 3 }, { o := .ld (.l 0) 1 false }, { o := .mv (.v 2) }, { o := .ia (.l 1) (.l 0) 1 }, { o := .ld (.l 0) 1 false }, { o := .mv (.v 7) }, { o := .bin .add (.l 1) (.l 0) }, { o := .ia (.l 8) (.l 7) 1 }, { o := .st (.l 0) (.l 1) 1 [] }] []) (.seq (.reg [{ o := .mv (.b true), d := some 6 }] []) .ret))))), res := [(6, none)] }
end Go.Ev.K
namespace Go.Ev
class Has6 [Lib] : Prop where
  t_law28_SmokeSources : Lib.fs N.law28_SmokeSources = some K.law28_SmokeSources
  t_law28_SmokeRuns : Lib.fs N.law28_SmokeRuns = some K.law28_SmokeRuns
  t_law28_SmokeMade : Lib.fs N.law28_SmokeMade = some K.law28_SmokeMade
  t_law28_SmokeGrows : Lib.fs N.law28_SmokeGrows = some K.law28_SmokeGrows
  t_law28_awake : Lib.fs N.law28_awake = some K.law28_awake
  t_smoke_Start : Lib.fs N.smoke_Start = some K.smoke_Start
  t_smoke_Travel : Lib.fs N.smoke_Travel = some K.smoke_Travel
  t_smoke_Change : Lib.fs N.smoke_Change = some K.smoke_Change
  t_law28_agree : Lib.fs N.law28_agree = some K.law28_agree
  t_smoke_Free : Lib.fs N.smoke_Free = some K.smoke_Free
  t_smoke_given : Lib.fs N.smoke_given = some K.smoke_given
  t_slices_Repeat_int_int : Lib.fs N.slices_Repeat_int_int = some K.slices_Repeat_int_int
  t_smoke_times_spread : Lib.fs N.smoke_times_spread = some K.smoke_times_spread
  t_smoke_Valid : Lib.fs N.smoke_Valid = some K.smoke_Valid
  t_ref28_Same : Lib.fs N.ref28_Same = some K.ref28_Same
  t_ref28_Filled : Lib.fs N.ref28_Filled = some K.ref28_Filled
  t_ref28_Free : Lib.fs N.ref28_Free = some K.ref28_Free
  t_smoke_Free_1 : Lib.fs N.smoke_Free_1 = some K.smoke_Free_1
  t_plan_Valid : Lib.fs N.plan_Valid = some K.plan_Valid
  t_slices_ContainsFunc_api_Span_api_Span : Lib.fs N.slices_ContainsFunc_api_Span_api_Span = some K.slices_ContainsFunc_api_Span_api_Span
  t_smoke_given_1 : Lib.fs N.smoke_given_1 = some K.smoke_given_1
  t_math_bits_Mul : Lib.fs N.math_bits_Mul = some K.math_bits_Mul
  t_smoke_times_reach : Lib.fs N.smoke_times_reach = some K.smoke_times_reach
namespace K
variable [Lib] [Has6]
theorem t_law28_SmokeSources : Lib.fs N.law28_SmokeSources = some K.law28_SmokeSources := Has6.t_law28_SmokeSources
theorem t_law28_SmokeRuns : Lib.fs N.law28_SmokeRuns = some K.law28_SmokeRuns := Has6.t_law28_SmokeRuns
theorem t_law28_SmokeMade : Lib.fs N.law28_SmokeMade = some K.law28_SmokeMade := Has6.t_law28_SmokeMade
theorem t_law28_SmokeGrows : Lib.fs N.law28_SmokeGrows = some K.law28_SmokeGrows := Has6.t_law28_SmokeGrows
theorem t_law28_awake : Lib.fs N.law28_awake = some K.law28_awake := Has6.t_law28_awake
theorem t_smoke_Start : Lib.fs N.smoke_Start = some K.smoke_Start := Has6.t_smoke_Start
theorem t_smoke_Travel : Lib.fs N.smoke_Travel = some K.smoke_Travel := Has6.t_smoke_Travel
theorem t_smoke_Change : Lib.fs N.smoke_Change = some K.smoke_Change := Has6.t_smoke_Change
theorem t_law28_agree : Lib.fs N.law28_agree = some K.law28_agree := Has6.t_law28_agree
theorem t_smoke_Free : Lib.fs N.smoke_Free = some K.smoke_Free := Has6.t_smoke_Free
theorem t_smoke_given : Lib.fs N.smoke_given = some K.smoke_given := Has6.t_smoke_given
theorem t_slices_Repeat_int_int : Lib.fs N.slices_Repeat_int_int = some K.slices_Repeat_int_int := Has6.t_slices_Repeat_int_int
theorem t_smoke_times_spread : Lib.fs N.smoke_times_spread = some K.smoke_times_spread := Has6.t_smoke_times_spread
theorem t_smoke_Valid : Lib.fs N.smoke_Valid = some K.smoke_Valid := Has6.t_smoke_Valid
theorem t_ref28_Same : Lib.fs N.ref28_Same = some K.ref28_Same := Has6.t_ref28_Same
theorem t_ref28_Filled : Lib.fs N.ref28_Filled = some K.ref28_Filled := Has6.t_ref28_Filled
theorem t_ref28_Free : Lib.fs N.ref28_Free = some K.ref28_Free := Has6.t_ref28_Free
theorem t_smoke_Free_1 : Lib.fs N.smoke_Free_1 = some K.smoke_Free_1 := Has6.t_smoke_Free_1
theorem t_plan_Valid : Lib.fs N.plan_Valid = some K.plan_Valid := Has6.t_plan_Valid
theorem t_slices_ContainsFunc_api_Span_api_Span : Lib.fs N.slices_ContainsFunc_api_Span_api_Span = some K.slices_ContainsFunc_api_Span_api_Span := Has6.t_slices_ContainsFunc_api_Span_api_Span
theorem t_smoke_given_1 : Lib.fs N.smoke_given_1 = some K.smoke_given_1 := Has6.t_smoke_given_1
theorem t_math_bits_Mul : Lib.fs N.math_bits_Mul = some K.math_bits_Mul := Has6.t_math_bits_Mul
theorem t_smoke_times_reach : Lib.fs N.smoke_times_reach = some K.smoke_times_reach := Has6.t_smoke_times_reach
end K
end Go.Ev

/- MADE BY PROGRAM (lib.py): the compact code of functions. -/
namespace Go.Ev.K
open Go.Ev
/-- /smoke.Valid.1 -/
def smoke_Valid_1 : Fn := { nargs := 2, vars := [0, 1, 3], body := (.seq (.reg [{ o := .mv (.b false), d := some 2 }] []) (.seq (.reg [{ o := .mv (.v 0) }, { o := .bin .neq (.l 0) (.i 1099511627776) }, { o := .mv (.l 0) }, { o := .mv (.v 0), g := some (0, true) }, { o := .fa (.v 1) 0, g := some (1, true) }, { o := .ld (.l 0) 1 false, g := some (2, true) }, { o := .ca N.lists_In 0 [] [.l 2, .l 0, .i 2147483648], g := some (3, true) }, { o := .un .not (.l 0), g := some (4, true) }, { o := .pk (.l 5) (.l 0) (.b false) }, { o := .mv (.l 0), d := some 2 }] []) .ret)), res := [(2, none)] }
def plan_Check_l1b : C := (.its  [{ o := .bin .lss (.v 8) (.v 7) }] [] 0 .skip (.exit 0) (.seq (.blk 1 (.seq (.reg [{ o := .ia (.v 6) (.v 8) 2 }, { o := .ld (.l 0) 2 true }, { o := .al [.t (.int .i64 (0)), .t (.bool false)] [], d := some 3 }, { o := .st (.l 0) (.l 1) 2 [] }] []) (.ite [{ o := .fa (.v 3) 0 }, { o := .ld (.l 0) 1 false }, { o := .bin .lss (.l 0) (.i (-10000)) }, { o := .mv (.l 0) }, { o := .fa (.v 3) 0, g := some (0, false) }, { o := .ld (.l 0) 1 false, g := some (1, false) }, { o := .bin .gtr (.l 0) (.i 10000), g := some (2, false) }, { o := .pk (.l 3) (.b true) (.l 0) }] [] 0 (.seq (.reg [{ o := .mv (.i 1), d := some 2 }] []) .ret) .skip))) (.reg [{ o := .bin .add (.v 8) (.i 1) }, { o := .mv (.l 0), d := some 8 }] [])))
def plan_Check_l1 : C := .loop true [0, 2, 3, 4, 5, 9, 10, 11] K.plan_Check_l1b
def plan_Check_l2b : C := (.its  [{ o := .bin .lss (.v 11) (.v 10) }] [] 0 .skip (.exit 2) (.seq (.blk 3 (.seq (.reg [{ o := .ia (.v 9) (.v 11) 10 }, { o := .ld (.l 0) 10 true }, { o := .al [.t (.int .i64 (0)), .t (.int .i64 (0)), .t (.int .i64 (0)), .t (.int .i64 (0)), .t (.bool false), .t (.bool false), .t (.int .i64 (0)), .t (.int .i64 (0)), .t (.int .i64 (0)), .t (.int .i64 (0))] [], d := some 5 }, { o := .st (.l 0) (.l 1) 10 [] }] []) (.seq (.ite [{ o := .fa (.v 5) 0 }, { o := .ld (.l 0) 1 false }, { o := .bin .lss (.l 0) (.i 0) }, { o := .mv (.l 0) }, { o := .fa (.v 5) 0, g := some (0, false) }, { o := .ld (.l 0) 1 false, g := some (1, false) }, { o := .mv (.v 4), g := some (2, false) }, { o := .bin .geq (.l 1) (.l 0), g := some (3, false) }, { o := .pk (.l 4) (.b true) (.l 0) }, { o := .mv (.l 0) }, { o := .fa (.v 5) 1, g := some (0, false) }, { o := .ld (.l 0) 1 false, g := some (1, false) }, { o := .bin .lss (.l 0) (.i 0), g := some (2, false) }, { o := .pk (.l 3) (.b true) (.l 0) }, { o := .mv (.l 0) }, { o := .fa (.v 5) 1, g := some (0, false) }, { o := .ld (.l 0) 1 false, g := some (1, false) }, { o := .mv (.v 4), g := some (2, false) }, { o := .bin .geq (.l 1) (.l 0), g := some (3, false) }, { o := .pk (.l 4) (.b true) (.l 0) }, { o := .mv (.l 0) }, { o := .fa (.v 5) 0, g := some (0, false) }, { o := .ld (.l 0) 1 false, g := some (1, false) }, { o := .fa (.v 5) 1, g := some (2, false) }, { o := .ld (.l 0) 1 false, g := some (3, false) }, { o := .bin .eql (.l 2) (.l 0), g := some (4, false) }, { o := .pk (.l 5) (.b true) (.l 0) }] [] 0 (.seq (.reg [{ o := .mv (.i 4), d := some 2 }] []) .ret) .skip) (.seq (.ite [{ o := .fa (.v 5) 2 }, { o := .ld (.l 0) 1 false }, { o := .bin .lss (.l 0) (.i 1) }, { o := .mv (.l 0) }, { o := .fa (.v 5) 2, g := some (0, false) }, { o := .ld (.l 0) 1 false, g := some (1, false) }, { o := .bin .gtr (.l 0) (.i 100000), g := some (2, false) }, { o := .pk (.l 3) (.b true) (.l 0) }, { o := .mv (.l 0) }, { o := .fa (.v 5) 3, g := some (0, false) }, { o := .ld (.l 0) 1 false, g := some (1, false) }, { o := .bin .lss (.l 0) (.i 1), g := some (2, false) }, { o := .pk (.l 3) (.b true) (.l 0) }, { o := .mv (.l 0) }, { o := .fa (.v 5) 3, g := some (0, false) }, { o := .ld (.l 0) 1 false, g := some (1, false) }, { o := .bin .gtr (.l 0) (.i 1000), g := some (2, false) }, { o := .pk (.l 3) (.b true) (.l 0) }] [] 0 (.seq (.reg [{ o := .mv (.i 1), d := some 2 }] []) .ret) .skip) (.ite [{ o := .fa (.v 5) 6 }, { o := .ld (.l 0) 2 true }, { o := .ca N.plan_spanIn 0 [] [.l 0, .i 1, .i 262144] }, { o := .un .not (.l 0) }, { o := .mv (.l 0) }, { o := .fa (.v 5) 8, g := some (0, false) }, { o := .ld (.l 0) 2 true, g := some (1, false) }, { o := .ca N.plan_spanIn 0 [] [.l 0, .i (-2199023255552), .i 2199023255552], g := some (2, false) }, { o := .un .not (.l 0), g := some (3, false) }, { o := .pk (.l 4) (.b true) (.l 0) }] [] 0 (.seq (.reg [{ o := .mv (.i 1), d := some 2 }] []) .ret) .skip))))) (.reg [{ o := .bin .add (.v 11) (.i 1) }, { o := .mv (.l 0), d := some 11 }] [])))
def plan_Check_l2 : C := .loop true [0, 1, 2, 3, 5, 6, 7, 8] K.plan_Check_l2b
/-- /plan.Check -/
def plan_Check : Fn := { nargs := 1, vars := [0, 1, 2, 4, 5, 7, 19, 20, 21, 38, 39, 40], body := (.seq (.reg [{ o := .bx (.v 0) 2, d := some 1 }, { o := .mv (.i 0), d := some 2 }] []) (.seq (.ite [{ o := .fa (.v 1) 0 }, { o := .ld (.l 0) 1 false }, { o := .ln (.l 0) }, { o := .bin .gtr (.l 0) (.i 64) }, { o := .mv (.l 0) }, { o := .fa (.v 1) 1, g := some (0, false) }, { o := .ld (.l 0) 1 false, g := some (1, false) }, { o := .ln (.l 0), g := some (2, false) }, { o := .bin .gtr (.l 0) (.i 128), g := some (3, false) }, { o := .pk (.l 4) (.b true) (.l 0) }] [] 0 (.seq (.reg [{ o := .mv (.i 2), d := some 2 }] []) .ret) .skip) (.seq (.seq (.reg [{ o := .fa (.v 1) 0 }, { o := .ld (.l 0) 1 false, d := some 6 }, { o := .ln (.l 0), d := some 7 }, { o := .mv (.i 0), d := some 8 }] []) (.blk 0 K.plan_Check_l1)) (.seq (.reg [{ o := .fa (.v 1) 0 }, { o := .ld (.l 0) 1 false }, { o := .ln (.l 0) }, { o := .mv (.l 0), d := some 4 }] []) (.seq (.seq (.reg [{ o := .fa (.v 1) 1 }, { o := .ld (.l 0) 1 false, d := some 9 }, { o := .ln (.l 0), d := some 10 }, { o := .mv (.i 0), d := some 11 }] []) (.blk 2 K.plan_Check_l2)) (.seq (.reg [{ o := .mv (.i 0), d := some 2 }] []) .ret)))))), res := [(2, none)] }
def slices_IndexFunc_api_Span_api_Span_l1b : C := (.its  [{ o := .bin .lss (.v 5) (.v 4) }] [] 0 .skip (.exit 0) (.seq (.blk 1 (.seq (.reg [{ o := .mv (.v 5) }, { o := .mv (.l 0), d := some 3 }] []) (.ite [{ o := .mv (.v 1) }, { o := .mv (.v 0) }, { o := .mv (.v 3) }, { o := .ia (.l 1) (.l 0) 2 }, { o := .ld (.l 0) 2 true }, { o := .cw (.l 4) 0 [] [.l 0] }] [] 0 (.seq (.reg [{ o := .mv (.v 3) }, { o := .mv (.l 0), d := some 2 }] []) .ret) .skip))) (.reg [{ o := .bin .add (.v 5) (.i 1) }, { o := .mv (.l 0), d := some 5 }] [])))
def slices_IndexFunc_api_Span_api_Span_l1 : C := .loop true [2, 3] K.slices_IndexFunc_api_Span_api_Span_l1b
/-- slices.IndexFunc[[]/api.Span,/api.Span] -/
def slices_IndexFunc_api_Span_api_Span : Fn := { nargs := 2, vars := [0, 1, 4, 5, 7, 8], body := (.seq (.reg [{ o := .mv (.i 0), d := some 2 }] []) (.seq (.seq (.reg [{ o := .mv (.v 0) }, { o := .ln (.l 0), d := some 4 }, { o := .mv (.i 0), d := some 5 }] []) (.blk 0 K.slices_IndexFunc_api_Span_api_Span_l1)) (.seq (.reg [{ o := .mv (.i (-1)), d := some 2 }] []) .ret))), res := [(2, none)] }
/-- math/bits.Mul32 -/
def math_bits_Mul32 : Fn := { nargs := 2, vars := [0, 1, 4, 5, 6], body := (.seq (.reg [{ o := .mv (.c (.t (.int .u32 (0)))), d := some 2 }, { o := .mv (.c (.t (.int .u32 (0)))), d := some 3 }] []) (.seq (.reg [{ o := .mv (.v 0) }, { o := .cv .u64 (.l 0) }, { o := .mv (.v 1) }, { o := .cv .u64 (.l 0) }, { o := .bin .mul (.l 2) (.l 0) }, { o := .mv (.l 0), d := some 4 }] []) (.seq (.reg [{ o := .mv (.v 4) }, { o := .bin .shr (.l 0) (.c (.t (.int .u64 (32)))) }, { o := .cv .u32 (.l 0) }, { o := .mv (.v 4) }, { o := .cv .u32 (.l 0) }, { o := .mv (.l 2), d := some 2 }, { o := .mv (.l 1), d := some 3 }] []) .ret))), res := [(2, none), (3, none)] }
/-- math/bits.Mul64 -/
def math_bits_Mul64 : Fn := { nargs := 2, vars := [0, 1, 4, 5, 6, 7, 8, 9, 10, 11, 12, 13], body := (.seq (.reg [{ o := .mv (.c (.t (.int .u64 (0)))), d := some 2 }, { o := .mv (.c (.t (.int .u64 (0)))), d := some 3 }] []) (.seq (.reg [{ o := .mv (.v 0) }, { o := .bin .and (.l 0) (.c (.t (.int .u64 (4294967295)))) }, { o := .mv (.l 0), d := some 4 }] []) (.seq (.reg [{ o := .mv (.v 0) }, { o := .bin .shr (.l 0) (.c (.t (.int .u64 (32)))) }, { o := .mv (.l 0), d := some 5 }] []) (.seq (.reg [{ o := .mv (.v 1) }, { o := .bin .and (.l 0) (.c (.t (.int .u64 (4294967295)))) }, { o := .mv (.l 0), d := some 6 }] []) (.seq (.reg [{ o := .mv (.v 1) }, { o := .bin .shr (.l 0) (.c (.t (.int .u64 (32)))) }, { o := .mv (.l 0), d := some 7 }] []) (.seq (.reg [{ o := .mv (.v 4) }, { o := .mv (.v 6) }, { o := .bin .mul (.l 1) (.l 0) }, { o := .mv (.l 0), d := some 8 }] []) (.seq (.reg [{ o := .mv (.v 5) }, { o := .mv (.v 6) }, { o := .bin .mul (.l 1) (.l 0) }, { o := .mv (.v 8) }, { o := .bin .shr (.l 0) (.c (.t (.int .u64 (32)))) }, { o := .bin .add (.l 2) (.l 0) }, { o := .mv (.l 0), d := some 9 }] []) (.seq (.reg [{ o := .mv (.v 9) }, { o := .bin .and (.l 0) (.c (.t (.int .u64 (4294967295)))) }, { o := .mv (.l 0), d := some 10 }] []) (.seq (.reg [{ o := .mv (.v 9) }, { o := .bin .shr (.l 0) (.c (.t (.int .u64 (32)))) }, { o := .mv (.l 0), d := some 11 }] []) (.seq (.reg [{ o := .mv (.v 10) }, { o := .mv (.v 4) }, { o := .mv (.v 7) }, { o := .bin .mul (.l 1) (.l 0) }, { o := .bin .add (.l 3) (.l 0) }, { o := .mv (.l 0), d := some 10 }] []) (.seq (.reg [{ o := .mv (.v 5) }, { o := .mv (.v 7) }, { o := .bin .mul (.l 1) (.l 0) }, { o := .mv (.v 11) }, { o := .bin .add (.l 1) (.l 0) }, { o := .mv (.v 10) }, { o := .bin .shr (.l 0) (.c (.t (.int .u64 (32)))) }, { o := .bin .add (.l 2) (.l 0) }, { o := .mv (.l 0), d := some 2 }] []) (.seq (.reg [{ o := .mv (.v 0) }, { o := .mv (.v 1) }, { o := .bin .mul (.l 1) (.l 0) }, { o := .mv (.l 0), d := some 3 }] []) .ret)))))))))))), res := [(2, none), (3, none)] }
/-- /plan.spanIn -/
def plan_spanIn : Fn := { nargs := 3, vars := [0, 1, 2, 3, 6], body := (.seq (.reg [{ o := .bx (.v 0) 2, d := some 3 }, { o := .mv (.b false), d := some 4 }] []) (.seq (.reg [{ o := .mv (.v 1) }, { o := .fa (.v 3) 0 }, { o := .ld (.l 0) 1 false }, { o := .bin .leq (.l 2) (.l 0) }, { o := .mv (.l 0) }, { o := .fa (.v 3) 0, g := some (0, true) }, { o := .ld (.l 0) 1 false, g := some (1, true) }, { o := .fa (.v 3) 1, g := some (2, true) }, { o := .ld (.l 0) 1 false, g := some (3, true) }, { o := .bin .leq (.l 2) (.l 0), g := some (4, true) }, { o := .pk (.l 5) (.l 0) (.b false) }, { o := .mv (.l 0) }, { o := .fa (.v 3) 1, g := some (0, true) }, { o := .ld (.l 0) 1 false, g := some (1, true) }, { o := .mv (.v 2), g := some (2, true) }, { o := .bin .leq (.l 1) (.l 0), g := some (3, true) }, { o := .pk (.l 4) (.l 0) (.b false) }, { o := .mv (.l 0), d := some 4 }] []) .ret)), res := [(4, none)] }
end Go.Ev.K
namespace Go.Ev
class Has7 [Lib] : Prop where
  t_smoke_Valid_1 : Lib.fs N.smoke_Valid_1 = some K.smoke_Valid_1
  t_plan_Check : Lib.fs N.plan_Check = some K.plan_Check
  t_slices_IndexFunc_api_Span_api_Span : Lib.fs N.slices_IndexFunc_api_Span_api_Span = some K.slices_IndexFunc_api_Span_api_Span
  t_math_bits_Mul32 : Lib.fs N.math_bits_Mul32 = some K.math_bits_Mul32
  t_math_bits_Mul64 : Lib.fs N.math_bits_Mul64 = some K.math_bits_Mul64
  t_plan_spanIn : Lib.fs N.plan_spanIn = some K.plan_spanIn
namespace K
variable [Lib] [Has7]
theorem t_smoke_Valid_1 : Lib.fs N.smoke_Valid_1 = some K.smoke_Valid_1 := Has7.t_smoke_Valid_1
theorem t_plan_Check : Lib.fs N.plan_Check = some K.plan_Check := Has7.t_plan_Check
theorem t_slices_IndexFunc_api_Span_api_Span : Lib.fs N.slices_IndexFunc_api_Span_api_Span = some K.slices_IndexFunc_api_Span_api_Span := Has7.t_slices_IndexFunc_api_Span_api_Span
theorem t_math_bits_Mul32 : Lib.fs N.math_bits_Mul32 = some K.math_bits_Mul32 := Has7.t_math_bits_Mul32
theorem t_math_bits_Mul64 : Lib.fs N.math_bits_Mul64 = some K.math_bits_Mul64 := Has7.t_math_bits_Mul64
theorem t_plan_spanIn : Lib.fs N.plan_spanIn = some K.plan_spanIn := Has7.t_plan_spanIn
end K
end Go.Ev

/- slices.Repeat of one number. -/
namespace Go.Ev
open Go
variable [Lib] [Has1] [Has2] [Has6] [Has7]

/- the operation copy -/
section
variable (H : Heap) (sz : Nat)
def putO (id ep n lo hi : Nat) (ys : List D) : Option Obj → Option (D × Heap)
  | some (.arr sz' pin ep' es) => if ep = ep' ∧ n = es.length then putD H id ep (sz', pin, es) lo hi ys sz else none
  | _ => none
def cpD (x : D) (ys : List D) : Option (D × Heap) := if headSize sz ys = true then (match x with
  | .ref id ep n => putO H sz id ep n 0 n ys H[id]?
  | .sub id ep n lo hi => putO H sz id ep n lo hi ys H[id]?
  | _ => none) else none
def opCp (x y : Option D) : Option (D × Heap) := x.bind fun a => y.bind fun b => copyD H a b sz
@[go_sem] theorem ev_cp (call : Oracle) (get : X → Option D) (x y : X) : evO call get H (.cp x y sz) = opCp H sz (get x) (get y) := (rfl)
theorem copyD_is (x y : D) (ys : List D) (h : elems H y = some ys) : copyD H x y sz = cpD H sz x ys := by
  unfold copyD cpD
  rw [h, Option.bind_some]
  split
  · rename_i hh
    cases x with
    | ref id ep n =>
      simp only [arrAt, putO]
      cases H[id]? with
      | none => rfl
      | some o =>
        cases o with
        | box cs => rfl
        | arr sz' pin ep' es =>
          simp only
          by_cases c : ep = ep' ∧ n = es.length
          · rw [if_pos c, if_pos c]; rfl
          · rw [if_neg c, if_neg c]; rfl
    | sub id ep n lo hi =>
      simp only [arrAt, putO]
      cases H[id]? with
      | none => rfl
      | some o =>
        cases o with
        | box cs => rfl
        | arr sz' pin ep' es =>
          simp only
          by_cases c : ep = ep' ∧ n = es.length
          · rw [if_pos c, if_pos c]; rfl
          · rw [if_neg c, if_neg c]; rfl
    | _ => rfl
  · rfl
@[go_sem] theorem opCp_t (x : D) (ts : List T) : opCp H sz (some x) (some (.t (.sl ts))) = cpD H sz x (ts.map .t) := copyD_is H sz x (.t (.sl ts)) (ts.map .t) rfl
def cpE (x : D) (ep n lo hi : Nat) : Option Obj → Option (D × Heap)
  | some (.arr _ _ ep' es) => if ep = ep' ∧ n = es.length then cpD H sz x ((es.drop lo).take (hi - lo)) else none
  | _ => none
@[go_sem] theorem cpE_arr (x : D) (n lo hi sz' : Nat) (pin : Bool) (ep : Nat) (es : List D) : cpE H sz x ep n lo hi (some (.arr sz' pin ep es)) = if n = es.length then cpD H sz x ((es.drop lo).take (hi - lo)) else none := by simp [cpE]
@[go_sem] theorem opCp_sub (x : D) (id ep n lo hi : Nat) : opCp H sz (some x) (some (.sub id ep n lo hi)) = cpE H sz x ep n lo hi H[id]? := by
  unfold opCp
  simp only [Option.bind_some]
  cases h : H[id]? with
  | none => simp [copyD, elems, arrAt, h, cpE]
  | some o =>
    cases o with
    | box cs => simp [copyD, elems, arrAt, h, cpE]
    | arr sz' pin ep' es =>
      by_cases c : ep = ep' ∧ n = es.length
      · rw [copyD_is H sz x _ ((es.drop lo).take (hi - lo)) (by simp [elems, arrAt, h, c])]
        simp only [cpE, if_pos c]
      · simp [copyD, elems, arrAt, h, cpE, c]
@[go_sem] theorem cpD_ref (id ep n : Nat) (ys : List D) : cpD H sz (.ref id ep n) ys = if headSize sz ys = true then putO H sz id ep n 0 n ys H[id]? else none := (rfl)
@[go_sem] theorem cpD_sub (id ep n lo hi : Nat) (ys : List D) : cpD H sz (.sub id ep n lo hi) ys = if headSize sz ys = true then putO H sz id ep n lo hi ys H[id]? else none := (rfl)
@[go_sem] theorem putO_arr (id n lo hi : Nat) (ys : List D) (ep : Nat) (es : List D) : putO H sz id ep n lo hi ys (some (.arr sz false ep es)) =
    if n = es.length then (if min ys.length (hi - lo) = 0 then some (.t (.int .i64 0), H) else some (.t (.int .i64 ((min ys.length (hi - lo) : Nat) : Int)), H.set id (.arr sz false ep (es.take lo ++ ys.take (min ys.length (hi - lo)) ++ es.drop (lo + min ys.length (hi - lo)))))) else none := by
  simp [putO, putD]
end

/- numbers -/
theorem wrapU {n : Int} (h1 : 0 ≤ n) (h2 : n < 18446744073709551616) : IntKind.u64.wrap n = n := by
  have e : IntKind.u64.wrap n = n % 18446744073709551616 := by simp [IntKind.wrap, IntKind.signed, IntKind.bits]
  rw [e]; omega
theorem and32 {n : Nat} (h : n < 4294967296) : IntKind.u64.wrap ((BitVec.ofInt IntKind.u64.bits (n : Int) &&& BitVec.ofInt IntKind.u64.bits 4294967295).toNat : Nat) = (n : Int) := by
  have e : (BitVec.ofInt IntKind.u64.bits (n : Int) &&& BitVec.ofInt IntKind.u64.bits 4294967295).toNat = n := by
    rw [BitVec.toNat_and]
    have a : (BitVec.ofInt IntKind.u64.bits (n : Int)).toNat = n := by
      rw [BitVec.ofInt_natCast, BitVec.toNat_ofNat]
      exact Nat.mod_eq_of_lt (Nat.lt_of_lt_of_le h (by decide))
    have b : (BitVec.ofInt IntKind.u64.bits 4294967295).toNat = 2 ^ 32 - 1 := by decide
    rw [a, b, Nat.and_two_pow_sub_one_eq_mod]
    exact Nat.mod_eq_of_lt h
  rw [e]
  exact wrapU (by omega) (by omega)
theorem shr32 {n : Nat} (h : n < 4294967296) : (n : Int).fdiv (2 ^ min (32 : Int).toNat IntKind.u64.bits) = 0 := by
  have e : (2 ^ min (32 : Int).toNat IntKind.u64.bits : Int) = 4294967296 := by decide
  rw [e, Int.fdiv_eq_ediv_of_nonneg _ (by omega)]
  omega
theorem and32n {n : Nat} (h : n < 4294967296) : (((BitVec.ofInt IntKind.u64.bits (n : Int) &&& BitVec.ofInt IntKind.u64.bits 4294967295).toNat : Nat) : Int) = (n : Int) := by
  have e := and32 h
  rwa [wrapU (by omega) (by
    have : (BitVec.ofInt IntKind.u64.bits (n : Int) &&& BitVec.ofInt IntKind.u64.bits 4294967295).toNat < 2 ^ IntKind.u64.bits := BitVec.isLt _
    have : 2 ^ IntKind.u64.bits = 18446744073709551616 := by decide
    omega)] at e
theorem mul64_ok (a b : Nat) (ha : a < 4294967296) (hb : b < 4294967296) (h : a * b < 4294967296) : CALL 0 N.math_bits_Mul64 [.t (.int .u64 a), .t (.int .u64 b)] [] = some (.tup [.t (.int .u64 0), .t (.int .u64 ((a * b : Nat) : Int))], []) := by
  refine CALL_of K.t_math_bits_Mul64 rfl ?_
  have m : (a : Int) * (b : Int) = ((a * b : Nat) : Int) := (Int.natCast_mul a b).symm
  have z := and32 (n := 0) (by omega)
  have z2 := shr32 (n := 0) (by omega)
  have z3 := and32n (n := 0) (by omega)
  have g3 := fun (n : Nat) (h : n < 4294967296) => and32n (n := n) h
  have g4 := fun (n : Nat) (h : n < 4294967296) => shr32 (n := n) h
  simp only [Int.ofNat_zero, Int.natCast_zero] at z z2 z3
  simp only [go_sem] at z2 z3 g3 g4
  simp (disch := omega) only [go_sem, K.math_bits_Mul64, ↓reduceIte, g3, g4, m, z2, z3, wrapU, Int.zero_mul, Int.mul_zero, Int.add_zero, Int.zero_add, Nat.reduceAdd, Nat.reduceSub]
theorem mul_ok (a b : Nat) (ha : a < 4294967296) (hb : b < 4294967296) (h : a * b < 4294967296) : CALL 0 N.math_bits_Mul [.t (.int .u64 a), .t (.int .u64 b)] [] = some (.tup [.t (.int .u64 0), .t (.int .u64 ((a * b : Nat) : Int))], []) := by
  refine CALL_of K.t_math_bits_Mul rfl ?_
  have m := mul64_ok a b ha hb h
  simp (disch := omega) only [go_sem, K.math_bits_Mul, ↓reduceIte, m, Nat.reduceAdd, Nat.reduceSub]

/- an array that is filled from the left -/
def repD (v : Int) (n cur : Nat) : List D := List.replicate cur (I v) ++ List.replicate (n - cur) (I 0)
theorem repD_len (v : Int) {n cur : Nat} (h : cur ≤ n) : (repD v n cur).length = n := by simp [repD]; omega
theorem repD_step (v : Int) {n cur m : Nat} (h : cur + m ≤ n) (hm : m ≤ cur) : (repD v n cur).take cur ++ ((repD v n cur).take cur).take m ++ (repD v n cur).drop (cur + m) = repD v n (cur + m) := by
  unfold repD
  have e1 : (List.replicate cur (I v) ++ List.replicate (n - cur) (I 0)).take cur = List.replicate cur (I v) := by
    rw [List.take_append_of_le_length (by simp), List.take_of_length_le (by simp)]
  have e2 : (List.replicate cur (I v) ++ List.replicate (n - cur) (I 0)).drop (cur + m) = List.replicate (n - (cur + m)) (I 0) := by
    rw [List.drop_append, List.length_replicate]
    simp; omega
  rw [e1, e2, List.take_replicate, Nat.min_eq_left hm, List.replicate_append_replicate]

theorem repD_t (v : Int) (n cur : Nat) : ∃ ts : List T, repD v n cur = ts.map .t := ⟨List.replicate cur (tI v) ++ List.replicate (n - cur) (tI 0), by simp [repD]⟩
theorem headSize_rep (v : Int) (n cur : Nat) (lo k : Nat) : headSize 1 (((repD v n cur).drop lo).take k) = true := by
  cases h : ((repD v n cur).drop lo).take k with
  | nil => rfl
  | cons d r =>
    have hm : d ∈ repD v n cur := List.mem_of_mem_drop (List.mem_of_mem_take (h ▸ List.mem_cons_self))
    unfold repD at hm
    simp only [List.mem_append, List.mem_replicate] at hm
    rcases hm with ⟨-, rfl⟩ | ⟨-, rfl⟩ <;> rfl

theorem repeat_loop (v : Int) (n : Nat) (hn : n ≤ 1000000) : ∀ (k cur : Nat), n - cur ≤ k → 1 ≤ cur → cur ≤ n →
    loopC true [0, 1, 2, 3, 4] (exS CALL K.slices_Repeat_int_int_l1b) ⟨[.und, .und, .und, .und, .und, .ref 0 0 n, I cur], [.arr 1 false 0 (repD v n cur)]⟩ =
      some (.exit 0, ⟨[.und, .und, .und, .und, .und, .ref 0 0 n, I n], [.arr 1 false 0 (repD v n n)]⟩) := by
  intro k
  induction k with
  | zero =>
    intro cur h1 h2 h3
    have : cur = n := by omega
    subst this
    refine loopC_exit ?_ (by simp)
    have rl := repD_len v (Nat.le_refl cur)
    simp (disch := omega) only [go_sem, K.slices_Repeat_int_int_l1b, ↓reduceIte, Nat.reduceAdd, Nat.reduceSub]
  | succ k ih =>
    intro cur h1 h2 h3
    by_cases c : cur = n
    · subst c
      refine loopC_exit ?_ (by simp)
      simp (disch := omega) only [go_sem, K.slices_Repeat_int_int_l1b, ↓reduceIte, Nat.reduceAdd, Nat.reduceSub]
    · have rl := repD_len v (n := n) (cur := cur) (by omega)
      have st := repD_step v (n := n) (cur := cur) (m := min cur (n - cur)) (by omega) (by omega)
      have hs := headSize_rep v n cur 0 cur
      rw [List.drop_zero] at hs
      have tl : ((repD v n cur).take cur).length = cur := by rw [List.length_take]; omega
      refine loopC_step (st2 := ⟨[.und, .und, .und, .und, .und, .ref 0 0 n, I ((cur + min cur (n - cur) : Nat) : Int)], [.arr 1 false 0 (repD v n (cur + min cur (n - cur)))]⟩) ?_ (ih _ (by omega) (by omega) (by omega))
      rw [← st]
      obtain ⟨ts, hts⟩ := repD_t v n cur
      have ao : ∀ a b c : Nat, allOld 1 8 ((repD v n cur).take a) = true ∧ allOld 1 8 (((repD v n cur).take a).take b) = true ∧ allOld 1 8 ((repD v n cur).drop c) = true := fun a b c => by
        rw [hts, ← List.map_take, ← List.map_take, ← List.map_drop]
        simp only [go_sem, and_self]
      have ao1 := fun a => (ao a 0 0).1
      have ao2 := fun a b => (ao a b 0).2.1
      have ao3 := fun c => (ao 0 0 c).2.2
      clear ao hts
      generalize repD v n cur = es at *
      simp (disch := omega) only [go_sem, K.slices_Repeat_int_int_l1b, ↓reduceIte, rl, hs, tl, ao1, ao2, ao3, and_self, List.drop_zero, Nat.sub_zero, Nat.reduceAdd, Nat.reduceSub]

theorem repeat_ok (v : Int) (n : Nat) (h1 : 1 ≤ n) (hn : n ≤ 1000000) : CALL 1 N.slices_Repeat_int_int [.t (tL [v]), I n] [] = some (.ref 0 0 n, [.arr 1 false 0 (List.replicate n (I v))]) := by
  refine CALL_of K.t_slices_Repeat_int_int rfl ?_
  have m := mul_ok 1 n (by omega) (by omega) (by omega)
  rw [Nat.one_mul] at m
  change CALL 0 N.math_bits_Mul [.t (.int .u64 1), .t (.int .u64 n)] [] = _ at m
  have w1 : IntKind.u64.wrap 1 = 1 := by decide
  have w2 : IntKind.u64.wrap (n : Int) = n := wrapU (by omega) (by omega)
  have w3 : IntKind.i64.wrap (n : Int) = n := wrap_id (by omega) (by omega)
  have lp := repeat_loop v n hn n 1 (by omega) (by omega) h1
  have loop : ∀ z0 z1 z2 z3 z4 : D, exS CALL K.slices_Repeat_int_int_l1 ⟨[z0, z1, z2, z3, z4, .ref 0 0 n, I 1], [.arr 1 false 0 (I v :: List.replicate (n - 1) (I 0))]⟩ = some (.exit 0, ⟨[.und, .und, .und, .und, .und, .ref 0 0 n, I n], [.arr 1 false 0 (List.replicate n (I v))]⟩) := by
    intro z0 z1 z2 z3 z4
    have e1 : repD v n 1 = I v :: List.replicate (n - 1) (I 0) := rfl
    have e2 : repD v n n = List.replicate n (I v) := by simp [repD]
    rw [e1, e2] at lp
    exact lp
  have dr : (List.replicate n (D.t (.int .i64 0))).drop 1 = List.replicate (n - 1) (I 0) := List.drop_replicate ..
  have mn : min 1 n = 1 := by omega
  have ar : ∀ H : Heap, arrsL H 8 (List.replicate n (I v)) = [] := fun H => by
    have e : List.replicate n (I v) = (List.replicate n (tI v)).map D.t := by simp
    rw [e]
    unfold arrsL
    exact arrs_t ..
  simp (disch := omega) only [go_sem, K.slices_Repeat_int_int, ↓reduceIte, tL, List.map_cons, List.map_nil, m, w1, w2, w3, loop, dr, mn, ar, List.length_replicate, Nat.sub_zero, List.take_zero, List.nil_append, List.take_succ_cons, Nat.zero_add, Nat.reduceAdd, Nat.reduceSub]
end Go.Ev

/- Dice. -/
namespace Go.Ev
open Go
variable [Lib] [Has1] [Has2]

def Mod (n m : Int) : Int := if m < 1 then 0 else if n.tmod m < 0 then n.tmod m + m else n.tmod m

theorem Mod_lo (n m : Int) : 0 ≤ Mod n m := by
  unfold Mod
  split
  · omega
  · have h5 := Int.lt_tmod_of_pos n (b := m) (by omega)
    split <;> omega

theorem Mod_hi (n m : Int) (h : 1 ≤ m) : Mod n m < m := by
  unfold Mod
  rw [if_neg (by omega)]
  have h3 := Int.tmod_lt_of_pos n (b := m) (by omega)
  split <;> omega

theorem mod_ok (n m : Int) (hm : m ≤ 4611686018427387904) : CALL 0 N.made_Mod [I n, I m] [] = some (I (Mod n m), []) := by
  refine CALL_of K.t_made_Mod rfl ?_
  unfold Mod
  by_cases h1 : m < 1
  · simp only [go_sem, K.made_Mod, h1, ↓reduceIte]
  · have h2 : m ≠ 0 := by omega
    have h3 := Int.tmod_lt_of_pos n (b := m) (by omega)
    have h5 := Int.lt_tmod_of_pos n (b := m) (by omega)
    by_cases h4 : n.tmod m < 0
    · simp (disch := omega) only [go_sem, K.made_Mod, h1, ↓reduceIte, h2, h4]
    · simp (disch := omega) only [go_sem, K.made_Mod, h1, ↓reduceIte, h2, h4]

theorem light_ok (l : List Int) : CALL 0 N.made_Light [.t (tL l)] [] = some (B (decide (l.length ≤ 400)), []) := by
  refine CALL_of K.t_made_Light rfl ?_
  simp (disch := omega) only [go_sem, K.made_Light, ↓reduceIte]
  simp only [show ((l.length : Int) ≤ 400) = (l.length ≤ 400) by rw [eq_iff_iff]; omega]

structure Dice where
  L : List Int
  at_ : Nat

def Dice.obj (d : Dice) : Obj := .box [.t (tL d.L), I d.at_]
def Dice.light (d : Dice) : Prop := d.L.length ≤ 400

def Dice.next (d : Dice) (n : Int) : Int × Dice := if d.at_ < d.L.length then (Mod (nth d.L d.at_) n, ⟨d.L, d.at_ + 1⟩) else (0, d)

theorem Dice.next_L (d : Dice) (n : Int) : (d.next n).2.L = d.L := by unfold Dice.next; split <;> rfl
theorem Dice.next_light {d : Dice} (h : d.light) (n : Int) : (d.next n).2.light := by unfold Dice.light; rw [d.next_L]; exact h
theorem Dice.next_lo (d : Dice) (n : Int) : 0 ≤ (d.next n).1 := by unfold Dice.next; split <;> simp [Mod_lo]
theorem Dice.next_hi (d : Dice) {n : Int} (h : 1 ≤ n) : (d.next n).1 < n := by unfold Dice.next; split <;> simp [Mod_hi _ _ h]; omega

theorem next_ok (d : Dice) (n : Int) (hn : n ≤ 4611686018427387904) (hd : d.light) : CALL 0 N.made_Dice_Next [.bp 0 0, I n] [d.obj] = some (I (d.next n).1, [(d.next n).2.obj]) := by
  refine CALL_of K.t_made_Dice_Next rfl ?_
  have hm := mod_ok (nth d.L d.at_) n hn
  unfold Dice.light at hd
  unfold Dice.next Dice.obj
  by_cases h1 : d.at_ < d.L.length
  · simp (disch := omega) only [go_sem, K.made_Dice_Next, ↓reduceIte, ↓if_pos, ↓if_neg, Int.add_sub_cancel, hm, Int.natCast_add]
  · simp (disch := omega) only [go_sem, K.made_Dice_Next, ↓reduceIte, ↓if_pos, ↓if_neg]

/- A box of dice, seen from outside. -/
@[go_sem] theorem ids_dice (d : Dice) : idsObj (some d.obj) = [] := by simp only [Dice.obj, go_sem]
@[go_sem] theorem ren_dice (f : Nat → Option Nat) (d : Dice) : renObj f d.obj = some d.obj := by simp only [Dice.obj, go_sem]
@[go_sem] theorem old_dice (k : Nat) (d : Dice) (r : Heap) : heapOld k (d.obj :: r) = heapOld k r := by simp only [Dice.obj, go_sem]

def Dice.one (d : Dice) (n : Int) : Bool × Dice := (decide ((d.next n).1 = n - 1), (d.next n).2)
theorem Dice.one_light {d : Dice} (h : d.light) (n : Int) : (d.one n).2.light := Dice.next_light h n

theorem one_ok (d : Dice) (n : Int) (h1 : 0 ≤ n) (hn : n ≤ 4611686018427387904) (hd : d.light) : CALL 0 N.made_Dice_One [.bp 0 0, I n] [d.obj] = some (B (d.one n).1, [(d.one n).2.obj]) := by
  refine CALL_of K.t_made_Dice_One rfl ?_
  have hm := next_ok d n hn hd
  unfold Dice.one
  simp (disch := omega) only [go_sem, K.made_Dice_One, ↓reduceIte, hm]

def Dice.of (d : Dice) (l : List Int) : Int × Dice := (nth l (d.next l.length).1.toNat, (d.next l.length).2)
theorem Dice.of_light {d : Dice} (h : d.light) (l : List Int) : (d.of l).2.light := Dice.next_light h _
theorem Dice.of_mem (d : Dice) {l : List Int} (h : l ≠ []) : (d.of l).1 ∈ l := by
  unfold Dice.of
  have hl : 0 < l.length := List.length_pos_iff.2 h
  have := d.next_lo l.length
  have := d.next_hi (n := l.length) (by omega)
  exact nth_mem (by omega)

theorem of_ok (d : Dice) (l : List Int) (hl : l ≠ []) (hl2 : l.length ≤ 4294967296) (hd : d.light) : CALL 0 N.made_Dice_Of [.bp 0 0, .t (tL l)] [d.obj] = some (I (d.of l).1, [(d.of l).2.obj]) := by
  refine CALL_of K.t_made_Dice_Of rfl ?_
  have hm := next_ok d l.length (by omega) hd
  have h0 : 0 < l.length := List.length_pos_iff.2 hl
  have h1 := d.next_lo l.length
  have h2 := d.next_hi (n := l.length) (by omega)
  unfold Dice.of
  simp (disch := omega) only [go_sem, K.made_Dice_Of, ↓reduceIte, hm]

def Dice.someN (d : Dice) : Nat → List Int × Dice
  | 0 => ([], d)
  | k + 1 => (if ((d.someN k).2.next 3).1 = 0 then (d.someN k).1 ++ [(k : Int)] else (d.someN k).1, ((d.someN k).2.next 3).2)

theorem Dice.someN_light {d : Dice} (h : d.light) : ∀ n, (d.someN n).2.light
  | 0 => h
  | n + 1 => Dice.next_light (Dice.someN_light h n) 3

theorem Dice.someN_len (d : Dice) : ∀ n, (d.someN n).1.length ≤ n
  | 0 => Nat.le_refl _
  | n + 1 => by
    have := d.someN_len n
    unfold Dice.someN
    simp only
    split <;> simp <;> omega

theorem some_ok (d : Dice) (n : Nat) (hn : n ≤ 1000000) (hd : d.light) : CALL 0 N.made_Dice_Some [.bp 0 0, I n] [d.obj] = some (.t (tL (d.someN n).1), [(d.someN n).2.obj]) := by
  refine CALL_of K.t_made_Dice_Some rfl ?_
  have hlen := d.someN_len
  have loop : exS CALL K.made_Dice_Some_l1 ⟨[.bp 0 0, I n, .nil, .ref 1 0 0, I 0], [d.obj, .arr 1 false 0 []]⟩ =
      some (.exit 0, ⟨[.bp 0 0, I n, .und, .ref 1 0 (d.someN n).1.length, I n], [(d.someN n).2.obj, .arr 1 false 0 (((d.someN n).1.map (T.int .i64)).map .t)]⟩) := by
    refine loop_up (fun j => ⟨[.bp 0 0, I n, .und, .ref 1 0 (d.someN j).1.length, I j], [(d.someN j).2.obj, .arr 1 false 0 (((d.someN j).1.map (T.int .i64)).map .t)]⟩) n rfl ?_ ?_ (by simp)
    · intro j hj
      have hm := next_ok (d.someN j).2 3 (by omega) (Dice.someN_light hd j)
      have := hlen j
      by_cases h : ((d.someN j).2.next 3).1 = 0
      · simp (disch := omega) only [go_sem, K.made_Dice_Some_l1b, hm, h, Dice.someN, ↓reduceIte]
      · simp (disch := omega) only [go_sem, K.made_Dice_Some_l1b, hm, h, Dice.someN, ↓reduceIte]
    · simp (disch := omega) only [go_sem, K.made_Dice_Some_l1b, ↓reduceIte]
  simp (disch := omega) only [go_sem, K.made_Dice_Some, ↓reduceIte, loop]

end Go.Ev

/- The mine's data; chapters 1 and 3 of the references; small functions on lists of numbers. -/
namespace Go.Ev
open Go
variable [Lib] [Has1] [Has2]

structure Place where
  h : Int
  surf : Bool
instance : Dat Place := ⟨⟨0, false⟩⟩
abbrev Place.e (p : Place) : T := .agg [tI p.h, .bool p.surf]

structure Road where
  frm : Int
  to : Int
  len : Int
  area : Int
  walk : Bool
  closed : Bool
  restL : Int
  restH : Int
  liftL : Int
  liftH : Int
instance : Dat Road := ⟨⟨0, 0, 0, 0, false, false, 0, 0, 0, 0⟩⟩
abbrev Road.e (r : Road) : T := .agg [tI r.frm, tI r.to, tI r.len, tI r.area, .bool r.walk, .bool r.closed, tI r.restL, tI r.restH, tI r.liftL, tI r.liftH]

structure Mine where
  places : List Place
  roads : List Road
instance : Dat Mine := ⟨⟨[], []⟩⟩
abbrev Mine.e (m : Mine) : T := .agg [.sl (m.places.map Place.e), .sl (m.roads.map Road.e)]

structure Road.ok (n : Nat) (r : Road) : Prop where
  f0 : 0 ≤ r.frm
  f1 : r.frm < n
  t0 : 0 ≤ r.to
  t1 : r.to < n
  ne : r.frm ≠ r.to
  l0 : 1 ≤ r.len
  l1 : r.len ≤ 100000
  a0 : 1 ≤ r.area
  a1 : r.area ≤ 1000
  r0 : 1 ≤ r.restL
  r1 : r.restL ≤ r.restH
  r2 : r.restH ≤ 262144
  i0 : -2199023255552 ≤ r.liftL
  i1 : r.liftL ≤ r.liftH
  i2 : r.liftH ≤ 2199023255552

structure Mine.ok (m : Mine) : Prop where
  np : m.places.length ≤ 64
  nr : m.roads.length ≤ 128
  hs : ∀ p ∈ m.places, -10000 ≤ p.h ∧ p.h ≤ 10000
  rs : ∀ r ∈ m.roads, r.ok m.places.length

theorem span01_ok (a b lo hi : Int) : CALL 0 N.ref01_Span [.t (.agg [tI a, tI b]), I lo, I hi] [] = some (B (decide (lo ≤ a ∧ a ≤ b ∧ b ≤ hi)), []) := by
  refine CALL_of K.t_ref01_Span rfl ?_
  by_cases h1 : lo ≤ a <;> by_cases h2 : a ≤ b <;> by_cases h3 : b ≤ hi <;> simp (disch := omega) only [go_sem, K.ref01_Span, ↓reduceIte, h1, h2, h3]

theorem check_ok {m : Mine} (h : m.ok) : CALL 0 N.ref01_Check [.t m.e] [] = some (I 0, []) := by
  refine CALL_of K.t_ref01_Check rfl ?_
  have np := h.np
  have nr := h.nr
  have loop1 : ∀ a b c d e : D, exS CALL K.ref01_Check_l1 ⟨[a, .bp 0 0, b, I 0, c, d, e], [.box [.t (.sl (m.places.map Place.e)), .t (.sl (m.roads.map Road.e))]]⟩ =
      some (.exit 0, ⟨[.und, .bp 0 0, .und, I m.places.length, .und, .und, .und], [.box [.t (.sl (m.places.map Place.e)), .t (.sl (m.roads.map Road.e))]]⟩) := by
    intro a b c d e
    refine loop_up (fun j => ⟨[.und, .bp 0 0, .und, I j, .und, .und, .und], [.box [.t (.sl (m.places.map Place.e)), .t (.sl (m.roads.map Road.e))]]⟩) m.places.length rfl ?_ ?_ (by simp)
    · intro j hj
      have hh := h.hs _ (nth_mem hj)
      simp (disch := omega) only [go_sem, K.ref01_Check_l1b, ↓reduceIte]
    · simp (disch := omega) only [go_sem, K.ref01_Check_l1b, ↓reduceIte]
  have loop2 : ∀ a b c d e : D, exS CALL K.ref01_Check_l2 ⟨[a, .bp 0 0, b, c, d, I 0, e], [.box [.t (.sl (m.places.map Place.e)), .t (.sl (m.roads.map Road.e))]]⟩ =
      some (.exit 2, ⟨[.und, .bp 0 0, .und, .und, .und, I m.roads.length, .und], [.box [.t (.sl (m.places.map Place.e)), .t (.sl (m.roads.map Road.e))]]⟩) := by
    intro a b c d e
    refine loop_up (fun j => ⟨[.und, .bp 0 0, .und, .und, .und, I j, .und], [.box [.t (.sl (m.places.map Place.e)), .t (.sl (m.roads.map Road.e))]]⟩) m.roads.length rfl ?_ ?_ (by simp)
    · intro j hj
      obtain ⟨f0, f1, t0, t1, ne, l0, l1, a0, a1, r0, r1, r2, i0, i1, i2⟩ := h.rs _ (nth_mem hj)
      have s1 := span01_ok (nth m.roads j).restL (nth m.roads j).restH 1 262144
      have s2 := span01_ok (nth m.roads j).liftL (nth m.roads j).liftH (-2199023255552) 2199023255552
      simp (disch := omega) only [go_sem] at s1 s2
      simp (disch := omega) only [go_sem, K.ref01_Check_l2b, ↓reduceIte, s1, s2]
    · simp (disch := omega) only [go_sem, K.ref01_Check_l2b, ↓reduceIte]
  simp (disch := omega) only [go_sem, K.ref01_Check, ↓reduceIte, loop1, loop2]

end Go.Ev

/- Lists of numbers: membership, equality, ascending lists; the library's Index, Contains. -/
namespace Go.Ev
open Go
variable [Lib] [Has1] [Has2]

theorem any_nth {l : List Int} {p : Int → Bool} : ((List.range l.length).find? fun j => p (nth l j)).isSome = l.any p := by
  rw [List.isSome_find?, Bool.eq_iff_iff, List.any_eq_true, List.any_eq_true]
  constructor
  · rintro ⟨j, hj, h⟩
    exact ⟨_, nth_mem (List.mem_range.1 hj), h⟩
  · rintro ⟨x, hx, h⟩
    obtain ⟨j, hj⟩ := List.mem_iff_getElem?.1 hx
    exact ⟨j, List.mem_range.2 (List.getElem?_eq_some_iff.1 hj).1, by rw [nth_eq hj]; exact h⟩

theorem has_ok (l : List Int) (x : Int) (hl : l.length ≤ 4294967296) : CALL 0 N.ref23_Has [.t (tL l), I x] [] = some (B (decide (x ∈ l)), []) := by
  refine CALL_of K.t_ref23_Has rfl ?_
  have loop : ∀ a : D, exS CALL K.ref23_Has_l1 ⟨[.t (tL l), I x, a, I 0], []⟩ =
      some (match (List.range l.length).find? (fun j => decide (nth l j = x)) with
        | some j => (.ret, ⟨[.t (tL l), I x, B true, I j], []⟩)
        | none => (.exit 0, ⟨[.t (tL l), I x, .und, I l.length], []⟩)) := by
    intro a
    refine loop_first (fun j => ⟨[.t (tL l), I x, .und, I j], []⟩) l.length (fun j => decide (nth l j = x)) _ _ rfl ?_ ?_ ?_ (by simp)
    · intro j hj hp
      have hp : ¬ nth l j = x := of_decide_eq_false hp
      simp (disch := omega) only [go_sem, K.ref23_Has_l1b, ↓reduceIte]
    · intro j hj hp
      have hp : nth l j = x := of_decide_eq_true hp
      simp (disch := omega) only [go_sem, K.ref23_Has_l1b, ↓reduceIte, hp]
      simp
    · simp (disch := omega) only [go_sem, K.ref23_Has_l1b, ↓reduceIte]
  have e := any_nth (l := l) (p := fun y => decide (y = x))
  have e2 : l.any (fun y => decide (y = x)) = decide (x ∈ l) := by rw [Bool.eq_iff_iff]; simp
  rw [e2] at e
  simp only [go_sem, K.ref23_Has, ↓reduceIte, loop]
  cases hf : (List.range l.length).find? (fun j => decide (nth l j = x)) with
  | some j => rw [hf] at e; simp (disch := omega) only [go_sem, ↓reduceIte, ← e]
  | none => rw [hf] at e; simp (disch := omega) only [go_sem, ↓reduceIte, ← e, Option.isSome_none]

theorem same_ok (a b : List Int) (hl : a.length ≤ 4294967296) : CALL 0 N.ref23_SameInts [.t (tL a), .t (tL b)] [] = some (B (decide (a = b)), []) := by
  refine CALL_of K.t_ref23_SameInts rfl ?_
  by_cases hlen : a.length = b.length
  · have loop : ∀ c : D, exS CALL K.ref23_SameInts_l1 ⟨[.t (tL a), .t (tL b), c, I 0], []⟩ =
        some (match (List.range a.length).find? (fun j => decide (nth a j ≠ nth b j)) with
          | some j => (.ret, ⟨[.t (tL a), .t (tL b), B false, I j], []⟩)
          | none => (.exit 0, ⟨[.t (tL a), .t (tL b), .und, I a.length], []⟩)) := by
      intro c
      refine loop_first (fun j => ⟨[.t (tL a), .t (tL b), .und, I j], []⟩) a.length (fun j => decide (nth a j ≠ nth b j)) _ _ rfl ?_ ?_ ?_ (by simp)
      · intro j hj hp
        have hp : nth a j = nth b j := by simpa using hp
        simp (disch := omega) only [go_sem, K.ref23_SameInts_l1b, ↓reduceIte]
      · intro j hj hp
        have hp : nth a j ≠ nth b j := by simpa using hp
        simp (disch := omega) only [go_sem, K.ref23_SameInts_l1b, ↓reduceIte]
        simp
      · simp (disch := omega) only [go_sem, K.ref23_SameInts_l1b, ↓reduceIte]
    have e : (a = b) ↔ (List.range a.length).find? (fun j => decide (nth a j ≠ nth b j)) = none := by
      rw [List.find?_eq_none]
      constructor
      · intro h j _; simp [h]
      · intro h
        apply List.ext_getElem?
        intro j
        by_cases hj : j < a.length
        · rw [nth_some hj, nth_some (by omega)]
          have := h j (List.mem_range.2 hj)
          simpa using this
        · rw [List.getElem?_eq_none (by omega), List.getElem?_eq_none (by omega)]
    simp (disch := omega) only [go_sem, K.ref23_SameInts, ↓reduceIte, loop]
    cases hf : (List.range a.length).find? (fun j => decide (nth a j ≠ nth b j)) with
    | some j => rw [hf] at e; simp (disch := omega) only [go_sem, ↓reduceIte, e]; simp
    | none => rw [hf] at e; simp (disch := omega) only [go_sem, ↓reduceIte, e]
  · have hne : a ≠ b := fun h => hlen (by rw [h])
    simp (disch := omega) only [go_sem, K.ref23_SameInts, ↓reduceIte, hne]

/-- Ascending numbers, each once, from 0 to n - 1. -/
def setB (l : List Int) (n : Int) : Bool := (List.range l.length).all fun j => decide (0 ≤ nth l j ∧ nth l j < n ∧ (0 < j → nth l (j - 1) < nth l j))

theorem find_all {n : Nat} {p : Nat → Bool} : ((List.range n).all p) = ((List.range n).find? fun j => !p j).isNone := by
  rw [← Option.not_isSome, List.isSome_find?, List.not_any_eq_all_not]
  simp

theorem set_ok (l : List Int) (n : Int) (hl : l.length ≤ 4294967296) : CALL 0 N.ref23_Set [.t (tL l), I n] [] = some (B (setB l n), []) := by
  refine CALL_of K.t_ref23_Set rfl ?_
  have loop : ∀ c : D, exS CALL K.ref23_Set_l1 ⟨[.t (tL l), I n, c, I 0], []⟩ =
      some (match (List.range l.length).find? (fun j => !decide (0 ≤ nth l j ∧ nth l j < n ∧ (0 < j → nth l (j - 1) < nth l j))) with
        | some j => (.ret, ⟨[.t (tL l), I n, B false, I j], []⟩)
        | none => (.exit 0, ⟨[.t (tL l), I n, .und, I l.length], []⟩)) := by
    intro c
    refine loop_first (fun j => ⟨[.t (tL l), I n, .und, I j], []⟩) l.length _ _ _ rfl ?_ ?_ ?_ (by simp)
    · intro j hj hp
      simp only [Bool.not_eq_false', decide_eq_true_eq] at hp
      obtain ⟨h1, h2, h3⟩ := hp
      cases j with
      | zero => simp (disch := omega) only [go_sem, K.ref23_Set_l1b, ↓reduceIte]
      | succ j =>
        have h3 := h3 (by omega)
        rw [Nat.add_sub_cancel] at h3
        simp (disch := omega) only [go_sem, K.ref23_Set_l1b, ↓reduceIte]
    · intro j hj hp
      simp only [Bool.not_eq_true', decide_eq_false_iff_not] at hp
      refine ⟨?_, by simp⟩
      by_cases h1 : 0 ≤ nth l j
      · by_cases h2 : nth l j < n
        · cases j with
          | zero => exact absurd ⟨h1, h2, fun h => absurd h (by omega)⟩ hp
          | succ j =>
            have h3 : ¬ nth l j < nth l (j + 1) := fun h => hp ⟨h1, h2, fun _ => by simpa using h⟩
            simp (disch := omega) only [go_sem, K.ref23_Set_l1b, ↓reduceIte]
        · simp (disch := omega) only [go_sem, K.ref23_Set_l1b, ↓reduceIte]
      · simp (disch := omega) only [go_sem, K.ref23_Set_l1b, ↓reduceIte]
    · simp (disch := omega) only [go_sem, K.ref23_Set_l1b, ↓reduceIte]
  have e : setB l n = _ := find_all
  simp only [go_sem, K.ref23_Set, ↓reduceIte, loop]
  cases hf : (List.range l.length).find? (fun j => !decide (0 ≤ nth l j ∧ nth l j < n ∧ (0 < j → nth l (j - 1) < nth l j))) with
  | some j => rw [hf] at e; simp (disch := omega) only [go_sem, ↓reduceIte, e, Option.isNone_some]
  | none => rw [hf] at e; simp (disch := omega) only [go_sem, ↓reduceIte, e, Option.isNone_none]

theorem in_ok (x lo hi : Int) : CALL 0 N.lists_In [I x, I lo, I hi] [] = some (B (decide (lo ≤ x ∧ x ≤ hi)), []) := by
  refine CALL_of K.t_lists_In rfl ?_
  by_cases h1 : lo ≤ x <;> by_cases h2 : x ≤ hi <;> simp (disch := omega) only [go_sem, K.lists_In, ↓reduceIte]

theorem indexFunc_ok (l : List Int) (hl : l.length ≤ 4294967296) (f : Nat) (bs : List (List T)) (p : Int → Bool) (h : ∀ x, x ∈ l → CALL 0 f (I x :: capsN bs.length) (boxesT bs) = some (B (p x), boxesT bs)) :
    CALL 0 N.slices_IndexFunc_int_int [.t (tL l), .fn f (capsN bs.length)] (boxesT bs) =
    some (I (match (List.range l.length).find? (fun j => p (nth l j)) with | some j => (j : Int) | none => -1), boxesT bs) := by
  refine CALL_of K.t_slices_IndexFunc_int_int rfl ?_
  have loop : ∀ a b : D, exS CALL K.slices_IndexFunc_int_int_l1 ⟨[.t (tL l), .fn f (capsN bs.length), a, b, I l.length, I 0], boxesT bs⟩ =
      some (match (List.range l.length).find? (fun j => p (nth l j)) with
        | some j => (.ret, ⟨[.t (tL l), .fn f (capsN bs.length), I j, I j, I l.length, I j], boxesT bs⟩)
        | none => (.exit 0, ⟨[.t (tL l), .fn f (capsN bs.length), .und, .und, I l.length, I l.length], boxesT bs⟩)) := by
    intro a b
    refine loop_first (fun j => ⟨[.t (tL l), .fn f (capsN bs.length), .und, .und, I l.length, I j], boxesT bs⟩) l.length (fun j => p (nth l j)) _ _ rfl ?_ ?_ ?_ (by simp)
    · intro j hj hp
      have hc := clos_call0 (h _ (nth_mem hj)) rfl
      simp (disch := omega) only [go_sem, K.slices_IndexFunc_int_int_l1b, ↓reduceIte, hc, hp]
    · intro j hj hp
      have hc := clos_call0 (h _ (nth_mem hj)) rfl
      simp (disch := omega) only [go_sem, K.slices_IndexFunc_int_int_l1b, ↓reduceIte, hp, hc]
      simp
    · simp (disch := omega) only [go_sem, K.slices_IndexFunc_int_int_l1b, ↓reduceIte]
  simp (disch := omega) only [go_sem, K.slices_IndexFunc_int_int, ↓reduceIte, loop]
  cases hf : (List.range l.length).find? (fun j => p (nth l j)) with
  | some j => simp (disch := omega) only [go_sem, ↓reduceIte]
  | none => simp (disch := omega) only [go_sem, ↓reduceIte]

theorem containsFunc_ok (l : List Int) (hl : l.length ≤ 4294967296) (f : Nat) (bs : List (List T)) (p : Int → Bool) (h : ∀ x, x ∈ l → CALL 0 f (I x :: capsN bs.length) (boxesT bs) = some (B (p x), boxesT bs)) :
    CALL 0 N.slices_ContainsFunc_int_int [.t (tL l), .fn f (capsN bs.length)] (boxesT bs) = some (B (l.any p), boxesT bs) := by
  refine CALL_of K.t_slices_ContainsFunc_int_int rfl ?_
  have h := indexFunc_ok l hl f bs p h
  have hc := opCa_clos2 CALL bs f _ 0 (tL l) h rfl
  have e := any_nth (l := l) (p := p)
  cases hf : (List.range l.length).find? (fun j => p (nth l j)) with
  | some j => rw [hf] at e hc; simp (disch := omega) only [go_sem, K.slices_ContainsFunc_int_int, ↓reduceIte, ← e, hc]
  | none => rw [hf] at e hc; simp (disch := omega) only [go_sem, K.slices_ContainsFunc_int_int, ↓reduceIte, ← e, hc, Option.isSome_none]

end Go.Ev

/- Chapter 3 of the references: walking times. Chapter 25: closing times. -/
namespace Go.Ev
open Go
variable [Lib] [Has1] [Has2]

/-- The seconds for a road; -1 if it cannot be walked. -/
def walkT (m : Mine) (k : Nat) (back : Bool) (up down level : Int) : Int :=
  let x := nth m.roads k
  if x.closed = true ∨ x.walk = false then -1 else
  let a := if back then x.to else x.frm
  let b := if back then x.frm else x.to
  let rise := (nth m.places b.toNat).h - (nth m.places a.toNat).h
  let speed := if -10 * rise > x.len then down else if 10 * rise > x.len then up else level
  (10 * x.len + speed - 1).tdiv speed

theorem tdiv_bd {a b : Int} (ha : 0 ≤ a) (hb : 1 ≤ b) : 0 ≤ a.tdiv b ∧ a.tdiv b ≤ a := by
  rw [Int.tdiv_eq_ediv_of_nonneg ha]
  exact ⟨Int.ediv_nonneg ha (by omega), Int.ediv_le_self _ ha⟩

/-- Times that are as they have to be: from 0 to Never. -/
def bnd (l : List Int) : Prop := ∀ x ∈ l, 0 ≤ x ∧ x ≤ 1099511627776

def lowerC (l : List Int) (p q : Nat) (walk t : Int) : Bool :=
  decide (0 ≤ walk) && decide (nth l p < 1099511627776) && decide (max t (nth l p + walk) ≤ 2147483648) && decide (max t (nth l p + walk) < nth l q)
def lowerF (l : List Int) (p q : Nat) (walk t : Int) : List Int := if lowerC l p q walk t = true then l.set q (max t (nth l p + walk)) else l

/-- Whether a place is among some (none: all). -/
def inOK (into : Option (List Int)) (p : Int) : Bool := match into with
  | none => true
  | some l => decide (p ∈ l)
def intoD (into : Option (List Int)) : D := match into with
  | none => .nil
  | some l => .t (tL l)

def Road.src (r : Road) (back : Bool) : Int := if back then r.to else r.frm
def Road.dst (r : Road) (back : Bool) : Int := if back then r.frm else r.to
theorem Road.src_ok {n : Nat} {r : Road} (h : r.ok n) (back : Bool) : 0 ≤ r.src back ∧ r.src back < n := by
  unfold Road.src; have := h.f0; have := h.f1; have := h.t0; have := h.t1; cases back <;> simp <;> omega
theorem Road.dst_ok {n : Nat} {r : Road} (h : r.ok n) (back : Bool) : 0 ≤ r.dst back ∧ r.dst back < n := by
  unfold Road.dst; have := h.f0; have := h.f1; have := h.t0; have := h.t1; cases back <;> simp <;> omega

def halfF (m : Mine) (t : Int) (into : Option (List Int)) (k : Nat) (back : Bool) (l : List Int) : List Int × Bool :=
  if inOK into ((nth m.roads k).dst back) = true then
    (lowerF l ((nth m.roads k).src back).toNat ((nth m.roads k).dst back).toNat (walkT m k back 6 9 12) t, lowerC l ((nth m.roads k).src back).toNat ((nth m.roads k).dst back).toNat (walkT m k back 6 9 12) t)
  else (l, false)
def stepF (m : Mine) (t : Int) (into : Option (List Int)) (k : Nat) (s : List Int × Bool) : List Int × Bool :=
  let a := halfF m t into k false s.1
  let b := halfF m t into k true a.1
  (b.1, s.2 || a.2 || b.2)
def stepsF (m : Mine) (t : Int) (into : Option (List Int)) (l : List Int) : Nat → List Int × Bool
  | 0 => (l, false)
  | k + 1 => stepF m t into k (stepsF m t into l k)
def roundF (m : Mine) (t : Int) (into : Option (List Int)) (l : List Int) : List Int × Bool := stepsF m t into l m.roads.length

theorem bnd_set {l : List Int} (h : bnd l) {q : Nat} {x : Int} (h0 : 0 ≤ x) (h1 : x ≤ 1099511627776) : bnd (l.set q x) := by
  intro y hy
  rcases List.mem_or_eq_of_mem_set hy with hy | hy
  · exact h y hy
  · subst hy; exact ⟨h0, h1⟩
section
variable {m : Mine} (h : m.ok) {t : Int} {into : Option (List Int)}
include h
end

/-- The sum of times: it falls. -/
def sumN (l : List Int) : Nat := (l.map Int.toNat).sum
theorem sumN_set : ∀ {l : List Int} {q : Nat} {x : Int}, q < l.length → 0 ≤ x → x < nth l q → sumN (l.set q x) < sumN l
  | [], q, x, h, _, _ => by simp at h
  | a :: l, 0, x, _, h0, h1 => by
    have h1 : x < a := by simpa [nth] using h1
    simp only [sumN, List.set_cons_zero, List.map_cons, List.sum_cons]; omega
  | a :: l, q + 1, x, h, h0, h1 => by
    have := sumN_set (l := l) (q := q) (x := x) (by simpa using h) h0 (by simpa [nth] using h1)
    simp only [sumN, List.set_cons_succ, List.map_cons, List.sum_cons] at this ⊢; omega

section
variable {m : Mine} (h : m.ok) {t : Int} {into : Option (List Int)}
include h
end

end Go.Ev

/- Chapter 25 of the references: closing times, by the code. -/
namespace Go.Ev
open Go
variable [Lib] [Has1] [Has2]

abbrev mineCells (m : Mine) : List D := [.t (.sl (m.places.map Place.e)), .t (.sl (m.roads.map Road.e))]

@[go_sem] theorem old_intoD (k n : Nat) (into : Option (List Int)) : old k n (intoD into) = true := by
  cases into <;> simp only [intoD, go_sem]

end Go.Ev

/- Chapter 25 of the references: whereabouts. -/
namespace Go.Ev
open Go
variable [Lib] [Has1] [Has2]

structure Wh where
  time : Int
  frm : List Int
instance : Dat Wh := ⟨⟨0, []⟩⟩
abbrev Wh.e (w : Wh) : T := .agg [tI w.time, tL w.frm]

def closeF (m : Mine) (t : Int) (into : Option (List Int)) (l : List Int) : List Int := closeN (roundF m t into) (sumN l + 1) l

def inT (t : Int) : Prop := 0 ≤ t ∧ t ≤ 2147483648
instance (t : Int) : Decidable (inT t) := by unfold inT; infer_instance
def plT (x : Int) : Prop := x = 1099511627776 ∨ inT x
instance (t : Int) : Decidable (plT t) := by unfold plT; infer_instance
def plainB (w : Wh) (n : Int) : Bool := decide ((w.frm.length : Int) = n ∧ inT w.time) && (List.range w.frm.length).all fun j => decide (plT (nth w.frm j))
/-- A valid whereabouts. -/
def validB (m : Mine) (w : Wh) : Bool := plainB w m.places.length && decide (closeF m w.time none w.frm = w.frm)

end Go.Ev

/- Chapter 25 of the references: starts, sights, absences. -/
namespace Go.Ev
open Go
variable [Lib] [Has1] [Has2]

def neverL (n : Nat) : List Int := List.replicate n 1099511627776
@[simp] theorem neverL_len (n : Nat) : (neverL n).length = n := List.length_replicate
def startF (m : Mine) (p t : Int) : Wh × Int :=
  if p < 0 ∨ (m.places.length : Int) ≤ p then (⟨0, []⟩, 3) else if inT t then (⟨t, closeF m t none ((neverL m.places.length).set p.toNat t)⟩, 0) else (⟨0, []⟩, 8)

def possF (w : Wh) (t : Int) : List Int := whereF w.frm.length fun j => decide (nth w.frm j ≤ t)

def raiseF (w : Wh) (t : Int) : Wh × Int := if t < w.time ∨ 2147483648 < t then (w, 8) else (⟨t, w.frm⟩, 0)

def askedF (m : Mine) (w : Wh) (places : List Int) (a b : Int) : Int :=
  if validB m w = true ∧ places ≠ [] ∧ setB places m.places.length = true then (if inT a ∧ inT b ∧ a ≤ b then 0 else 8) else 6

end Go.Ev

/- Chapter 25 of the references: See, Absent, Join. -/
namespace Go.Ev
open Go
variable [Lib] [Has1] [Has2]

def seeStep (w : Wh) (t p : Int) (s : List Int × Bool) : List Int × Bool := if nth w.frm p.toNat ≤ t then (s.1.set p.toNat (nth w.frm p.toNat), true) else s
def seeN (w : Wh) (l : List Int) (t : Int) (n : Nat) : Nat → List Int × Bool
  | 0 => (neverL n, false)
  | j + 1 => seeStep w t (nth l j) (seeN w l t n j)
def seeF (m : Mine) (w : Wh) (l : List Int) (a b : Int) : Wh × Int :=
  if askedF m w l a b ≠ 0 then (w, askedF m w l a b) else if a < w.time then (w, 42) else
  if (seeN w l b m.places.length l.length).2 = true then (⟨b, closeF m a none (seeN w l b m.places.length l.length).1⟩, 0) else (w, 43)

end Go.Ev

/- Chapter 25 of the references: Absent, Join. -/
namespace Go.Ev
open Go
variable [Lib] [Has1] [Has2]

def absN (l0 l : List Int) : Nat → List Int
  | 0 => l0
  | j + 1 => (absN l0 l j).set (nth l j).toNat 1099511627776
def absF (m : Mine) (w : Wh) (l : List Int) (a b bl : Int) : Wh × Int :=
  if askedF m w l a b ≠ 0 then (w, askedF m w l a b) else if ¬ inT bl then (w, 8) else if b < w.time then (w, 42) else if b - max a w.time ≤ bl then (w, 0) else
  (⟨b, closeF m b none (closeF m (b - bl) (some l) (absN w.frm l l.length))⟩, 0)

def minN (a b : List Int) : Nat → List Int
  | 0 => []
  | j + 1 => minN a b j ++ [min (nth a j) (nth b j)]
def joinF (a b : Wh) : Wh × Int := if a.frm.length = b.frm.length then (⟨max a.time b.time, minN a.frm b.frm a.frm.length⟩, 0) else (⟨0, []⟩, 6)

end Go.Ev

/- Chapter 28 of the references: smoke. -/
namespace Go.Ev
open Go
variable [Lib] [Has1] [Has2]

structure Spn where
  low : Int
  high : Int
instance : Dat Spn := ⟨⟨0, 0⟩⟩
abbrev Spn.e (f : Spn) : T := .agg [tI f.low, tI f.high]
abbrev tS (l : List Spn) : T := .sl (l.map Spn.e)

def Spn.ok (f : Spn) : Prop := -1125899906842624 ≤ f.low ∧ f.high ≤ 1125899906842624 ∧ f.low ≤ f.high
instance (f : Spn) : Decidable f.ok := by unfold Spn.ok; infer_instance

theorem span28_ok (f : Spn) : CALL 0 N.ref28_Span [.t f.e] [] = some (B (decide f.ok), []) := by
  refine CALL_of K.t_ref28_Span rfl ?_
  unfold Spn.ok
  by_cases h1 : -1125899906842624 ≤ f.low <;> by_cases h2 : f.high ≤ 1125899906842624 <;> by_cases h3 : f.low ≤ f.high <;> simp (disch := omega) only [go_sem, K.ref28_Span, ↓reduceIte, h1, h2, h3]

def flowsB (m : Mine) (l : List Spn) : Bool := (List.range l.length).all (fun j => decide (nth l j).ok) && decide (l.length = m.roads.length)

theorem flowsB_spec {m : Mine} {l : List Spn} (h : flowsB m l = true) : l.length = m.roads.length ∧ ∀ j, j < l.length → (nth l j).ok := by
  simp only [flowsB, Bool.and_eq_true, decide_eq_true_eq, List.all_eq_true, List.mem_range] at h
  exact ⟨h.2, h.1⟩

theorem flows_ok (m : Mine) (hm : m.roads.length ≤ 1000000) (l : List Spn) (hl : l.length ≤ 1000000) : CALL 0 N.ref28_Flows [.t m.e, .t (tS l)] [] = some (B (flowsB m l), []) := by
  refine CALL_of K.t_ref28_Flows rfl ?_
  have loop : ∀ a b : D, exS CALL K.ref28_Flows_l1 ⟨[a, .t (tS l), .bp 0 0, b, I 0], [.box (mineCells m)]⟩ =
      some (match (List.range l.length).find? (fun j => !decide (nth l j).ok) with
        | some j => (.ret, ⟨[.und, .t (tS l), .bp 0 0, B false, I j], [.box (mineCells m)]⟩)
        | none => (.exit 0, ⟨[.und, .t (tS l), .bp 0 0, .und, I l.length], [.box (mineCells m)]⟩)) := by
    intro a b
    refine loop_first (fun j => ⟨[.und, .t (tS l), .bp 0 0, .und, I j], [.box (mineCells m)]⟩) l.length (fun j => !decide (nth l j).ok) _ _ rfl ?_ ?_ ?_ (by simp)
    · intro j hj hp
      have s := span28_ok (nth l j)
      have hp : (nth l j).ok := by simpa using hp
      simp only [hp, decide_true] at s
      simp (disch := omega) only [go_sem, K.ref28_Flows_l1b, ↓reduceIte, s]
    · intro j hj hp
      have s := span28_ok (nth l j)
      have hp : ¬ (nth l j).ok := by simpa using hp
      simp only [hp, decide_false] at s
      simp (disch := omega) only [go_sem, K.ref28_Flows_l1b, ↓reduceIte, s]
      simp
    · simp (disch := omega) only [go_sem, K.ref28_Flows_l1b, ↓reduceIte]
  unfold flowsB
  rw [find_all]
  simp (disch := omega) only [go_sem, K.ref28_Flows, ↓reduceIte, loop]
  cases hf : (List.range l.length).find? (fun j => !decide (nth l j).ok) with
  | some j => simp (disch := omega) only [go_sem, ↓reduceIte, Option.isNone, Bool.false_and]
  | none =>
    by_cases he : l.length = m.roads.length
    · simp (disch := omega) only [go_sem, ↓reduceIte, Option.isNone, he, Bool.true_and, decide_true]
    · simp (disch := omega) only [go_sem, ↓reduceIte, Option.isNone, he, Bool.true_and, decide_false]

/-- How long smoke travels. -/
def travelF (x : Road) (f : Spn) (back : Bool) : Int :=
  if x.closed = true then -1 else
  let g := if back then -f.low else f.high
  let out := if 0 < g then (x.len * x.area * 1000).tdiv g else -1
  if (if back then f.low < 500 * x.area else -500 * x.area < f.high) ∧ (out < 0 ∨ x.len < out) then x.len else out

theorem travelF_bd {n : Nat} {x : Road} (h : x.ok n) {f : Spn} (back : Bool) : -1 ≤ travelF x f back ∧ travelF x f back ≤ 100000000000 := by
  have l0 := h.l0; have l1 := h.l1; have a0 := h.a0; have a1 := h.a1
  have hm : 0 ≤ x.len * x.area := Int.mul_nonneg (by omega) (by omega)
  have hm2 : x.len * x.area ≤ 100000 * 1000 := Int.mul_le_mul l1 a1 (by omega) (by omega)
  unfold travelF
  simp only
  split
  · omega
  · have key : ∀ g : Int, -1 ≤ (if 0 < g then (x.len * x.area * 1000).tdiv g else -1) ∧ (if 0 < g then (x.len * x.area * 1000).tdiv g else -1) ≤ 100000000000 := by
      intro g
      split
      · have := tdiv_bd (a := x.len * x.area * 1000) (b := g) (by omega) (by omega)
        omega
      · omega
    cases back with
    | false =>
      have k := key f.high
      simp only [Bool.false_eq_true, ↓reduceIte]
      generalize (if 0 < f.high then (x.len * x.area * 1000).tdiv f.high else -1) = o at *
      split <;> omega
    | true =>
      have k := key (-f.low)
      simp only [↓reduceIte]
      generalize (if 0 < -f.low then (x.len * x.area * 1000).tdiv (-f.low) else -1) = o at *
      split <;> omega

theorem travel_ok {m : Mine} (h : m.ok) (k : Nat) (hk : k < m.roads.length) (f : Spn) (hf : f.ok) (back : Bool) :
    CALL 0 N.ref28_Travel [.t m.e, I k, .t f.e, B back] [] = some (I (travelF (nth m.roads k) f back), []) := by
  refine CALL_of K.t_ref28_Travel rfl ?_
  have nr := h.nr
  have ok := h.rs _ (nth_mem hk)
  obtain ⟨lo, hi⟩ := f
  unfold Spn.ok at hf
  unfold travelF
  generalize hx : nth m.roads k = x at *
  have l0 := ok.l0; have l1 := ok.l1; have a0 := ok.a0; have a1 := ok.a1
  obtain ⟨frm, to, len, area, walk, closed, rl, rh, ll, lh⟩ := x
  simp only at l0 l1 a0 a1 hf ⊢
  clear ok
  have hm : 0 ≤ len * area := Int.mul_nonneg (by omega) (by omega)
  have hm2 : len * area ≤ 100000 * 1000 := Int.mul_le_mul l1 a1 (by omega) (by omega)
  cases closed with
  | true => simp (disch := omega) only [go_sem, K.ref28_Travel, ↓reduceIte, hx]
  | false =>
    cases back with
    | false =>
      by_cases c1 : 0 < hi
      · have g1 := tdiv_bd (a := len * area * 1000) (b := hi) (by omega) (by omega)
        by_cases c2 : len < (len * area * 1000).tdiv hi
        · simp (disch := omega) only [go_sem, K.ref28_Travel, ↓reduceIte, hx, c1, c2, and_self, or_true, and_true, Bool.false_eq_true]
        · simp (disch := omega) only [go_sem, K.ref28_Travel, ↓reduceIte, hx, c1, c2, and_self, or_false, and_true, and_false, Bool.false_eq_true]
      · by_cases c2 : -500 * area < hi
        · simp (disch := omega) only [go_sem, K.ref28_Travel, ↓reduceIte, hx, c1, c2, and_self, true_or, and_true, Bool.false_eq_true]
        · simp (disch := omega) only [go_sem, K.ref28_Travel, ↓reduceIte, hx, c1, c2, false_and, Bool.false_eq_true]
    | true =>
      have w : IntKind.i64.wrap (-lo) = -lo := wrap_id (by omega) (by omega)
      by_cases c1 : 0 < -lo
      · have g1 := tdiv_bd (a := len * area * 1000) (b := -lo) (by omega) (by omega)
        by_cases c2 : len < (len * area * 1000).tdiv (-lo)
        · simp (disch := omega) only [go_sem, K.ref28_Travel, ↓reduceIte, hx, c1, c2, w, Int.zero_sub, and_self, or_true, and_true, Bool.false_eq_true]
        · simp (disch := omega) only [go_sem, K.ref28_Travel, ↓reduceIte, hx, c1, c2, w, Int.zero_sub, and_self, or_false, and_true, and_false, Bool.false_eq_true]
      · by_cases c2 : lo < 500 * area
        · simp (disch := omega) only [go_sem, K.ref28_Travel, ↓reduceIte, hx, c1, c2, w, Int.zero_sub, and_self, true_or, and_true, Bool.false_eq_true]
        · simp (disch := omega) only [go_sem, K.ref28_Travel, ↓reduceIte, hx, c1, c2, w, Int.zero_sub, false_and, Bool.false_eq_true]

end Go.Ev

/- Chapter 28 of the references: closing times of smoke. -/
namespace Go.Ev
open Go
variable [Lib] [Has1] [Has2]

def downC (l : List Int) (p q : Nat) (t : Int) : Bool := decide (0 ≤ t ∧ nth l p + t < nth l q)
def downF (l : List Int) (p q : Nat) (t : Int) : List Int := if downC l p q t = true then l.set q (nth l p + t) else l
def smHalf (m : Mine) (fl : List Spn) (k : Nat) (back : Bool) (l : List Int) : List Int × Bool :=
  (downF l ((nth m.roads k).src back).toNat ((nth m.roads k).dst back).toNat (travelF (nth m.roads k) (nth fl k) back), downC l ((nth m.roads k).src back).toNat ((nth m.roads k).dst back).toNat (travelF (nth m.roads k) (nth fl k) back))
def smStep (m : Mine) (fl : List Spn) (k : Nat) (s : List Int × Bool) : List Int × Bool :=
  let a := smHalf m fl k false s.1
  let b := smHalf m fl k true a.1
  (b.1, s.2 || a.2 || b.2)
def smSteps (m : Mine) (fl : List Spn) (l : List Int) : Nat → List Int × Bool
  | 0 => (l, false)
  | k + 1 => smStep m fl k (smSteps m fl l k)
def smRound (m : Mine) (fl : List Spn) (l : List Int) : List Int × Bool := smSteps m fl l m.roads.length

theorem downF_len (l : List Int) (p q : Nat) (t : Int) : (downF l p q t).length = l.length := by unfold downF; split <;> simp
theorem smHalf_len (m : Mine) (fl : List Spn) (k : Nat) (back : Bool) (l : List Int) : (smHalf m fl k back l).1.length = l.length := downF_len ..
theorem smSteps_len (m : Mine) (fl : List Spn) (l : List Int) : ∀ k, (smSteps m fl l k).1.length = l.length
  | 0 => rfl
  | k + 1 => by simp only [smSteps, smStep, smHalf_len, smSteps_len m fl l k]

theorem downF_bnd {l : List Int} (h : bnd l) {p q : Nat} (hp : p < l.length) (hq : q < l.length) {t : Int} : bnd (downF l p q t) := by
  unfold downF
  split
  · rename_i hc
    simp only [downC, decide_eq_true_eq] at hc
    have h1 := h _ (nth_mem hp)
    have h2 := h _ (nth_mem hq)
    exact bnd_set h (by omega) (by omega)
  · exact h
theorem downF_sum {l : List Int} (hb : bnd l) {p q : Nat} (hp : p < l.length) (hq : q < l.length) {t : Int} :
    (downC l p q t = true → sumN (downF l p q t) < sumN l) ∧ (downC l p q t = false → downF l p q t = l) := by
  unfold downF
  constructor
  · intro hc
    rw [if_pos hc]
    simp only [downC, decide_eq_true_eq] at hc
    have := hb _ (nth_mem hp)
    exact sumN_set hq (by omega) hc.2
  · intro hc; rw [if_neg (by simp [hc])]

section
variable {m : Mine} (h : m.ok) {fl : List Spn}
include h
theorem smHalf_bnd {l : List Int} (hl : l.length = m.places.length) (hb : bnd l) {k : Nat} (hk : k < m.roads.length) (back : Bool) : bnd (smHalf m fl k back l).1 := by
  have r1 := Road.src_ok (h.rs _ (nth_mem hk)) back
  have r2 := Road.dst_ok (h.rs _ (nth_mem hk)) back
  exact downF_bnd hb (by omega) (by omega)
theorem smSteps_bnd {l : List Int} (hl : l.length = m.places.length) (hb : bnd l) : ∀ k, k ≤ m.roads.length → bnd (smSteps m fl l k).1
  | 0, _ => hb
  | k + 1, hk => by
    simp only [smSteps, smStep]
    exact smHalf_bnd h (by rw [smHalf_len, smSteps_len, hl]) (smHalf_bnd h (by rw [smSteps_len, hl]) (smSteps_bnd hl hb k (by omega)) (by omega) _) (by omega) _
theorem smHalf_sum {l : List Int} (hl : l.length = m.places.length) (hb : bnd l) {k : Nat} (hk : k < m.roads.length) (back : Bool) :
    ((smHalf m fl k back l).2 = true → sumN (smHalf m fl k back l).1 < sumN l) ∧ ((smHalf m fl k back l).2 = false → (smHalf m fl k back l).1 = l) := by
  have r1 := Road.src_ok (h.rs _ (nth_mem hk)) back
  have r2 := Road.dst_ok (h.rs _ (nth_mem hk)) back
  exact downF_sum hb (by omega) (by omega)
theorem smSteps_sum {l : List Int} (hl : l.length = m.places.length) (hb : bnd l) : ∀ k, k ≤ m.roads.length →
    ((smSteps m fl l k).2 = true → sumN (smSteps m fl l k).1 < sumN l) ∧ ((smSteps m fl l k).2 = false → (smSteps m fl l k).1 = l)
  | 0, _ => ⟨fun h => by simp [smSteps] at h, fun _ => rfl⟩
  | k + 1, hk => by
    obtain ⟨i1, i2⟩ := smSteps_sum hl hb k (by omega)
    have hb1 := smSteps_bnd h (fl := fl) hl hb k (by omega)
    have hl1 : (smSteps m fl l k).1.length = m.places.length := by rw [smSteps_len, hl]
    obtain ⟨a1, a2⟩ := smHalf_sum h (fl := fl) hl1 hb1 (k := k) (by omega) false
    have hb2 := smHalf_bnd h (fl := fl) hl1 hb1 (k := k) (by omega) false
    obtain ⟨c1, c2⟩ := smHalf_sum h (fl := fl) (by rw [smHalf_len, hl1]) hb2 (k := k) (by omega) true
    simp only [smSteps, smStep]
    generalize smSteps m fl l k = s at *
    obtain ⟨sl, sb⟩ := s
    simp only at *
    generalize smHalf m fl k false sl = a at *
    obtain ⟨al, ab⟩ := a
    simp only at *
    generalize smHalf m fl k true al = b at *
    obtain ⟨bl, bb⟩ := b
    simp only at *
    cases sb <;> cases ab <;> cases bb <;> simp_all <;> omega
end

/-- One road. -/
theorem sm_step {m : Mine} (h : m.ok) (fl : List Spn) (hfl : fl.length = m.roads.length) (hf : ∀ j, j < fl.length → (nth fl j).ok) (l : List Int) (hl : l.length = m.places.length) (hb : bnd l)
    (k : Nat) (hk : k < m.roads.length) (ag : Bool) :
    roundC true [0, 2, 4, 8, 9, 10, 11] 2 (exS CALL K.ref28_Close_l2b ⟨[.und, .t (tS fl), .und, .bp 0 0, .und, .ref 1 0 l.length, B ag, I k, .und, .und, .und, .und], [.box (mineCells m), .arr 1 false 0 ((l.map (T.int .i64)).map .t)]⟩) =
      some ⟨[.und, .t (tS fl), .und, .bp 0 0, .und, .ref 1 0 l.length, B (smStep m fl k (l, ag)).2, I (k + 1), .und, .und, .und, .und], [.box (mineCells m), .arr 1 false 0 (((smStep m fl k (l, ag)).1.map (T.int .i64)).map .t)]⟩ := by
  have np := h.np
  have nr := h.nr
  have t1 := travel_ok h k hk (nth fl k) (hf k (by omega)) false
  have t2 := travel_ok h k hk (nth fl k) (hf k (by omega)) true
  have w1 := travelF_bd (h.rs _ (nth_mem hk)) (f := nth fl k) false
  have w2 := travelF_bd (h.rs _ (nth_mem hk)) (f := nth fl k) true
  have r1 := Road.src_ok (h.rs _ (nth_mem hk)) false
  have r2 := Road.dst_ok (h.rs _ (nth_mem hk)) false
  simp only [Road.src, Road.dst, Bool.false_eq_true, ↓reduceIte] at r1 r2
  obtain ⟨f0, f1⟩ := r1
  obtain ⟨t0, t1'⟩ := r2
  have b1 := hb _ (nth_mem (l := l) (j := (nth m.roads k).frm.toNat) (by omega))
  have b2 := hb _ (nth_mem (l := l) (j := (nth m.roads k).to.toNat) (by omega))
  simp only [smStep, smHalf, Road.src, Road.dst, Bool.false_eq_true, ↓reduceIte]
  generalize hw1 : travelF (nth m.roads k) (nth fl k) false = v1 at *
  generalize hw2 : travelF (nth m.roads k) (nth fl k) true = v2 at *
  have hb3 := downF_bnd hb (p := (nth m.roads k).frm.toNat) (q := (nth m.roads k).to.toNat) (t := v1) (by omega) (by omega)
  have ln : (downF l (nth m.roads k).frm.toNat (nth m.roads k).to.toNat v1).length = l.length := downF_len ..
  have b3 := hb3 _ (nth_mem (j := (nth m.roads k).frm.toNat) (by omega))
  have b4 := hb3 _ (nth_mem (j := (nth m.roads k).to.toNat) (by omega))
  generalize hx : nth m.roads k = x at *
  obtain ⟨frm, to, len, area, walk, closed, rl, rh, ll, lh⟩ := x
  simp only at f0 f1 t0 t1' b1 b2 b3 b4 ln hb3 ⊢
  clear hb hb3 hf
  by_cases c1 : 0 ≤ v1 ∧ nth l frm.toNat + v1 < nth l to.toNat
  · have e1 : downC l frm.toNat to.toNat v1 = true := decide_eq_true c1
    have e2 : downF l frm.toNat to.toNat v1 = l.set to.toNat (nth l frm.toNat + v1) := by unfold downF; rw [if_pos e1]
    rw [e2] at ln b3 b4 ⊢
    obtain ⟨c1, c1'⟩ := c1
    by_cases c2 : 0 ≤ v2
    · by_cases c3 : nth (l.set to.toNat (nth l frm.toNat + v1)) to.toNat + v2 < nth (l.set to.toNat (nth l frm.toNat + v1)) frm.toNat
      · simp (disch := omega) only [go_sem, K.ref28_Close_l2b, ↓reduceIte, hx, t1, t2, e1, downF, downC, c1, c1', c2, c3, and_self, decide_true, Bool.or_true]
      · simp (disch := omega) only [go_sem, K.ref28_Close_l2b, ↓reduceIte, hx, t1, t2, e1, downF, downC, c1, c1', c2, c3, and_self, and_false, decide_true, decide_false, Bool.or_true, Bool.or_false, Bool.false_eq_true]
    · simp (disch := omega) only [go_sem, K.ref28_Close_l2b, ↓reduceIte, hx, t1, t2, e1, downF, downC, c1, c1', c2, and_self, false_and, decide_true, decide_false, Bool.or_true, Bool.or_false, Bool.false_eq_true]
  · have e1 : downC l frm.toNat to.toNat v1 = false := decide_eq_false c1
    have e2 : downF l frm.toNat to.toNat v1 = l := by unfold downF; rw [if_neg (by simp [e1])]
    rw [e2] at ln b3 b4 ⊢
    by_cases c4 : 0 ≤ v1
    · have c5 : ¬ nth l frm.toNat + v1 < nth l to.toNat := fun h => c1 ⟨c4, h⟩
      by_cases c2 : 0 ≤ v2
      · by_cases c3 : nth l to.toNat + v2 < nth l frm.toNat
        · simp (disch := omega) only [go_sem, K.ref28_Close_l2b, ↓reduceIte, hx, t1, t2, e1, downF, downC, c4, c5, c2, c3, and_self, decide_true, Bool.or_true]
        · simp (disch := omega) only [go_sem, K.ref28_Close_l2b, ↓reduceIte, hx, t1, t2, e1, downF, downC, c4, c5, c2, c3, and_self, and_false, decide_true, decide_false, Bool.or_true, Bool.or_false, Bool.false_eq_true]
      · simp (disch := omega) only [go_sem, K.ref28_Close_l2b, ↓reduceIte, hx, t1, t2, e1, downF, downC, c4, c5, c2, and_self, false_and, decide_true, decide_false, Bool.or_true, Bool.or_false, Bool.false_eq_true]
    · by_cases c2 : 0 ≤ v2
      · by_cases c3 : nth l to.toNat + v2 < nth l frm.toNat
        · simp (disch := omega) only [go_sem, K.ref28_Close_l2b, ↓reduceIte, hx, t1, t2, e1, downF, downC, c4, c2, c3, and_self, false_and, decide_false, decide_true, Bool.or_true]
        · simp (disch := omega) only [go_sem, K.ref28_Close_l2b, ↓reduceIte, hx, t1, t2, e1, downF, downC, c4, c2, c3, and_self, and_false, false_and, decide_true, decide_false, Bool.or_true, Bool.or_false, Bool.false_eq_true]
      · simp (disch := omega) only [go_sem, K.ref28_Close_l2b, ↓reduceIte, hx, t1, t2, e1, downF, downC, c4, c2, and_self, false_and, decide_true, decide_false, Bool.or_true, Bool.or_false, Bool.false_eq_true]

def capN (l : List Int) : Nat → List Int
  | 0 => l
  | j + 1 => if 2147483648 < nth (capN l j) j then (capN l j).set j 1099511627776 else capN l j
theorem capN_len (l : List Int) : ∀ j, (capN l j).length = l.length
  | 0 => rfl
  | j + 1 => by
    have := capN_len l j
    simp only [capN]; split <;> simp [this]
def closeS (m : Mine) (fl : List Spn) (l : List Int) : List Int := capN (closeN (smRound m fl) (sumN l + 1) l) m.places.length

theorem closeS_ok {m : Mine} (h : m.ok) (fl : List Spn) (hfl : flowsB m fl = true) (l : List Int) (hl : l.length = m.places.length) (hb : bnd l) :
    CALL 0 N.ref28_Close [.t m.e, .t (tS fl), .t (tL l)] [] = some (.t (tL (closeS m fl l)), []) ∧ (closeN (smRound m fl) (sumN l + 1) l).length = m.places.length ∧ bnd (closeN (smRound m fl) (sumN l + 1) l) := by
  have nr := h.nr
  have np := h.np
  obtain ⟨fl1, fl2⟩ := flowsB_spec hfl
  have inner : ∀ (l : List Int), l.length = m.places.length → bnd l → ∀ (a b c d e f g : D), exS CALL K.ref28_Close_l2 ⟨[a, .t (tS fl), b, .bp 0 0, c, .ref 1 0 l.length, B false, I 0, d, e, f, g], [.box (mineCells m), .arr 1 false 0 ((l.map (T.int .i64)).map .t)]⟩ =
      some (.exit 2, ⟨[.und, .t (tS fl), .und, .bp 0 0, .und, .ref 1 0 l.length, B (smRound m fl l).2, I m.roads.length, .und, .und, .und, .und], [.box (mineCells m), .arr 1 false 0 (((smRound m fl l).1.map (T.int .i64)).map .t)]⟩) := by
    intro l hl hb a b c d e f g
    refine loop_up (fun j => ⟨[.und, .t (tS fl), .und, .bp 0 0, .und, .ref 1 0 (smSteps m fl l j).1.length, B (smSteps m fl l j).2, I j, .und, .und, .und, .und], [.box (mineCells m), .arr 1 false 0 (((smSteps m fl l j).1.map (T.int .i64)).map .t)]⟩) m.roads.length rfl ?_ ?_ (by simp)
    · intro j hj
      have := sm_step h fl fl1 fl2 (smSteps m fl l j).1 (by rw [smSteps_len, hl]) (smSteps_bnd h hl hb j (by omega)) j hj (smSteps m fl l j).2
      have e : (smSteps m fl l (j + 1)).1.length = (smSteps m fl l j).1.length := by rw [smSteps_len, smSteps_len]
      rw [e]
      exact this
    · simp (disch := omega) only [go_sem, K.ref28_Close_l2b, ↓reduceIte, smRound, smSteps_len]
  have outer := fun (a b c d e f g h' : D) => loop_again (gc := true) (dead := [0, 2, 4, 7, 8, 9, 10, 11]) (c := K.ref28_Close_l1b) (vs := [a, .t (tS fl), b, .bp 0 0, c, .ref 1 0 l.length, B true, d, e, f, g, h']) (H := [.box (mineCells m), .arr 1 false 0 ((l.map (T.int .i64)).map .t)])
    (fun l ag => ⟨[.und, .t (tS fl), .und, .bp 0 0, .und, .ref 1 0 l.length, B ag, .und, .und, .und, .und, .und], [.box (mineCells m), .arr 1 false 0 ((l.map (T.int .i64)).map .t)]⟩)
    (fun l => (.exit 0, ⟨[.und, .t (tS fl), .und, .bp 0 0, .und, .ref 1 0 l.length, B false, .und, .und, .und, .und, .und], [.box (mineCells m), .arr 1 false 0 ((l.map (T.int .i64)).map .t)]⟩))
    (smRound m fl) (fun l => l.length = m.places.length ∧ bnd l) sumN
    (fun l ⟨hl, hb⟩ => ⟨⟨by rw [smRound, smSteps_len, hl], smSteps_bnd h hl hb _ (Nat.le_refl _)⟩, (smSteps_sum h hl hb _ (Nat.le_refl _)).1⟩)
    (by
      rintro l ⟨hl, hb⟩
      have := inner l hl hb
      have e : (smRound m fl l).1.length = l.length := by rw [smRound, smSteps_len]
      simp (disch := omega) only [go_sem, K.ref28_Close_l1b, ↓reduceIte, this, e])
    (by
      rintro l ⟨hl, hb⟩
      simp (disch := omega) only [go_sem, K.ref28_Close_l1b, ↓reduceIte, reduceCtorEq, ne_eq, not_false_eq_true, and_self])
    l ⟨hl, hb⟩ rfl
  obtain ⟨-, o2⟩ := outer .und .und .und .und .und .und .und .und
  refine ⟨?_, o2⟩
  refine CALL_of K.t_ref28_Close rfl ?_
  have o1 : ∀ a b c d e f g h' : D, exS CALL K.ref28_Close_l1 ⟨[a, .t (tS fl), b, .bp 0 0, c, .ref 1 0 l.length, B true, d, e, f, g, h'], [.box (mineCells m), .arr 1 false 0 ((l.map (T.int .i64)).map .t)]⟩ = _ := fun a b c d e f g h' => (outer a b c d e f g h').1
  clear outer inner
  have o2 := o2.1
  unfold closeS
  generalize closeN (smRound m fl) (sumN l + 1) l = l2 at *
  have ln := capN_len l2
  have o3 : ∀ a b c d e f g h' i j : D, exS CALL K.ref28_Close_l3 ⟨[a, b, c, d, e, .ref 1 0 l2.length, f, g, h', i, j, I 0], [.box (mineCells m), .arr 1 false 0 ((l2.map (T.int .i64)).map .t)]⟩ =
      some (.exit 4, ⟨[.und, .und, .und, .und, .und, .ref 1 0 l2.length, .und, .und, .und, .und, .und, I l2.length], [.box (mineCells m), .arr 1 false 0 (((capN l2 l2.length).map (T.int .i64)).map .t)]⟩) := by
    intro a b c d e f g h' i j
    refine loop_up (fun j => ⟨[.und, .und, .und, .und, .und, .ref 1 0 l2.length, .und, .und, .und, .und, .und, I j], [.box (mineCells m), .arr 1 false 0 (((capN l2 j).map (T.int .i64)).map .t)]⟩) l2.length rfl ?_ ?_ (by simp)
    · intro j hj
      have lj := ln j
      by_cases hc : 2147483648 < nth (capN l2 j) j
      · simp (disch := omega) only [go_sem, K.ref28_Close_l3b, ↓reduceIte, capN, hc]
      · simp (disch := omega) only [go_sem, K.ref28_Close_l3b, ↓reduceIte, capN, hc]
    · simp (disch := omega) only [go_sem, K.ref28_Close_l3b, ↓reduceIte]
  have ln := ln l2.length
  rw [← o2]
  simp (disch := omega) only [go_sem, K.ref28_Close, ↓reduceIte, o1, o3]

end Go.Ev

/- Chapter 28 of the references: starts and changes of smoke. -/
namespace Go.Ev
open Go
variable [Lib] [Has1] [Has2]

def plS (t x : Int) : Prop := x = 1099511627776 ∨ (t ≤ x ∧ x ≤ 2147483648)
instance (t x : Int) : Decidable (plS t x) := by unfold plS; infer_instance
def validS (m : Mine) (s : Wh) : Bool := (List.range s.frm.length).all (fun j => decide (plS s.time (nth s.frm j))) && decide (s.frm.length = m.places.length ∧ inT s.time)

theorem validS_ok {m : Mine} (h : m.ok) (s : Wh) (hl : s.frm.length ≤ 1000000) : CALL 0 N.ref28_Valid [.t m.e, .t s.e] [] = some (B (validS m s), []) := by
  refine CALL_of K.t_ref28_Valid rfl ?_
  have c := check_ok h
  have np := h.np
  obtain ⟨time, frm⟩ := s
  simp only at hl
  have loop : ∀ a b c : D, exS CALL K.ref28_Valid_l1 ⟨[a, b, .bp 0 0, .bp 1 0, c, I 0], [.box (mineCells m), .box [I time, .t (tL frm)]]⟩ =
      some (match (List.range frm.length).find? (fun j => !decide (plS time (nth frm j))) with
        | some j => (.ret, ⟨[.und, .und, .bp 0 0, .bp 1 0, B false, I j], [.box (mineCells m), .box [I time, .t (tL frm)]]⟩)
        | none => (.exit 0, ⟨[.und, .und, .bp 0 0, .bp 1 0, .und, I frm.length], [.box (mineCells m), .box [I time, .t (tL frm)]]⟩)) := by
    intro a b c
    refine loop_first (fun j => ⟨[.und, .und, .bp 0 0, .bp 1 0, .und, I j], [.box (mineCells m), .box [I time, .t (tL frm)]]⟩) frm.length (fun j => !decide (plS time (nth frm j))) _ _ rfl ?_ ?_ ?_ (by simp)
    · intro j hj hp
      have hp : plS time (nth frm j) := by simpa using hp
      unfold plS at hp
      by_cases h1 : nth frm j = 1099511627776
      · simp (disch := omega) only [go_sem, K.ref28_Valid_l1b, ↓reduceIte, h1]
      · simp (disch := omega) only [go_sem, K.ref28_Valid_l1b, ↓reduceIte]
    · intro j hj hp
      have hp : ¬ plS time (nth frm j) := by simpa using hp
      unfold plS at hp
      by_cases h2 : time ≤ nth frm j
      · simp (disch := omega) only [go_sem, K.ref28_Valid_l1b, ↓reduceIte]
        simp
      · simp (disch := omega) only [go_sem, K.ref28_Valid_l1b, ↓reduceIte]
        simp
    · simp (disch := omega) only [go_sem, K.ref28_Valid_l1b, ↓reduceIte]
  unfold validS
  rw [find_all]
  simp (disch := omega) only [go_sem, K.ref28_Valid, ↓reduceIte, loop]
  cases hf : (List.range frm.length).find? (fun j => !decide (plS time (nth frm j))) with
  | some j => simp (disch := omega) only [go_sem, ↓reduceIte, Option.isNone, Bool.false_and]
  | none =>
    by_cases h1 : frm.length = m.places.length
    · by_cases h2 : 0 ≤ time
      · by_cases h3 : time ≤ 2147483648
        · have h4 : inT time := ⟨h2, h3⟩
          simp (disch := omega) only [go_sem, ↓reduceIte, Option.isNone, c, h1, h4, and_self, decide_true, Bool.true_and]
        · have h4 : ¬ inT time := by unfold inT; omega
          simp (disch := omega) only [go_sem, ↓reduceIte, Option.isNone, c, h1, h4, and_false, decide_false, Bool.true_and]
      · have h4 : ¬ inT time := by unfold inT; omega
        simp (disch := omega) only [go_sem, ↓reduceIte, Option.isNone, c, h1, h4, and_false, decide_false, Bool.true_and]
    · simp (disch := omega) only [go_sem, ↓reduceIte, Option.isNone, c, h1, false_and, decide_false, Bool.true_and]

theorem copyS_ok (w : Wh) (hl : w.frm.length ≤ 4294967296) : CALL 0 N.ref28_Copy [.t w.e] [] = some (.t w.e, []) := by
  refine CALL_of K.t_ref28_Copy rfl ?_
  obtain ⟨time, frm⟩ := w
  simp only at *
  simp (disch := omega) only [go_sem, K.ref28_Copy, ↓reduceIte, Nat.reduceAdd, Nat.reduceSub]

def initS (l : List Int) (t : Int) (n : Nat) : List Int := (List.range n).map fun (p : Nat) => if (p : Int) ∈ l then t else 1099511627776
theorem initS_succ (l : List Int) (t : Int) (n : Nat) : initS l t (n + 1) = initS l t n ++ [if (n : Int) ∈ l then t else 1099511627776] := by
  unfold initS; rw [List.range_succ, List.map_append]; rfl
@[simp] theorem initS_len (l : List Int) (t : Int) (n : Nat) : (initS l t n).length = n := by simp [initS]
theorem initS_bnd (l : List Int) {t : Int} (ht : inT t) (n : Nat) : bnd (initS l t n) := by
  intro x hx
  simp only [initS, List.mem_map] at hx
  obtain ⟨p, -, rfl⟩ := hx
  unfold inT at ht
  split <;> omega

def startS (m : Mine) (fl : List Spn) (l : List Int) (t : Int) : Wh × Int :=
  if flowsB m fl = false then (⟨0, []⟩, 6) else if setB l m.places.length = false then (⟨0, []⟩, 3) else if ¬ inT t then (⟨0, []⟩, 8) else
  (⟨t, closeS m fl (initS l t m.places.length)⟩, 0)

theorem startS_ok {m : Mine} (h : m.ok) (fl : List Spn) (hfl : fl.length ≤ 1000000) (l : List Int) (hl : l.length ≤ 1000000) (t : Int) :
    CALL 0 N.ref28_Start [.t m.e, .t (tS fl), .t (tL l), I t] [] = some (.tup [.t (startS m fl l t).1.e, I (startS m fl l t).2], []) := by
  refine CALL_of K.t_ref28_Start rfl ?_
  have c := check_ok h
  have np := h.np
  have nr := h.nr
  have f := flows_ok m (by omega) fl (by omega)
  have s := set_ok l m.places.length (by omega)
  unfold startS
  cases hf : flowsB m fl with
  | false =>
    rw [hf] at f
    simp (disch := omega) only [go_sem, K.ref28_Start, ↓reduceIte, c, f]
    rfl
  | true =>
    rw [hf] at f
    cases hs : setB l m.places.length with
    | false =>
      rw [hs] at s
      simp (disch := omega) only [go_sem, K.ref28_Start, ↓reduceIte, c, f, s, Bool.true_eq_false]
      rfl
    | true =>
      rw [hs] at s
      by_cases h1 : 0 ≤ t
      · by_cases h2 : t ≤ 2147483648
        · have ht : inT t := ⟨h1, h2⟩
          have cl := (closeS_ok h fl hf (initS l t m.places.length) (initS_len ..) (initS_bnd l ht _)).1
          have ln := initS_len l t
          have loop : ∀ a b : D, exS CALL K.ref28_Start_l1 ⟨[a, .t (tS fl), .t (tL l), I t, .bp 0 0, .bp 1 0, b, .ref 2 0 0, I 0], [.box (mineCells m), .box [I 0, .nil], .arr 1 false 0 []]⟩ =
              some (.exit 1, ⟨[.und, .t (tS fl), .t (tL l), I t, .bp 0 0, .bp 1 0, .und, .ref 2 0 m.places.length, I m.places.length], [.box (mineCells m), .box [I 0, .nil], .arr 1 false 0 (((initS l t m.places.length).map (T.int .i64)).map .t)]⟩) := by
            intro a b
            refine loop_up (fun j => ⟨[.und, .t (tS fl), .t (tL l), I t, .bp 0 0, .bp 1 0, .und, .ref 2 0 j, I j], [.box (mineCells m), .box [I 0, .nil], .arr 1 false 0 (((initS l t j).map (T.int .i64)).map .t)]⟩) m.places.length rfl ?_ ?_ (by simp)
            · intro j hj
              have g := has_ok l j (by omega)
              have lj := ln j
              by_cases hm : (j : Int) ∈ l
              · simp only [hm, decide_true] at g
                simp (disch := omega) only [go_sem, K.ref28_Start_l1b, ↓reduceIte, g, hm, initS_succ]
              · simp only [hm, decide_false] at g
                simp (disch := omega) only [go_sem, K.ref28_Start_l1b, ↓reduceIte, g, hm, initS_succ]
            · simp (disch := omega) only [go_sem, K.ref28_Start_l1b, ↓reduceIte]
          have ln := ln m.places.length
          simp (disch := omega) only [go_sem, K.ref28_Start, ↓reduceIte, c, f, s, ht, loop, cl, Bool.true_eq_false, not_true_eq_false]
        · have ht : ¬ inT t := by unfold inT; omega
          simp (disch := omega) only [go_sem, K.ref28_Start, ↓reduceIte, c, f, s, ht, Bool.true_eq_false, not_false_eq_true]
          rfl
      · have ht : ¬ inT t := by unfold inT; omega
        simp (disch := omega) only [go_sem, K.ref28_Start, ↓reduceIte, c, f, s, ht, Bool.true_eq_false, not_false_eq_true]
        rfl

end Go.Ev

