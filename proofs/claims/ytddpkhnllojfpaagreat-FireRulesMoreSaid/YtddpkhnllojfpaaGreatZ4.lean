/- Parts of the proof: see the text that holds the theorem. -/
import Derived.Test.YtddpkhnllojfpaaGreatZ3
set_option linter.all false
set_option maxRecDepth 100000
namespace Go.Ev.K
open Go.Ev
def ref26_Copy_l1b : C := (.seq (.ite [{ o := .mv (.v 4) }, { o := .fa (.v 1) 0 }, { o := .ld (.l 0) 1 false }, { o := .ln (.l 0) }, { o := .bin .lss (.l 3) (.l 0) }] [] 0 .skip (.exit 0)) (.seq (.blk 1 (.reg [{ o := .fa (.v 3) 0 }, { o := .ld (.l 0) 1 false }, { o := .fa (.v 1) 0 }, { o := .ld (.l 0) 1 false }, { o := .mv (.v 4) }, { o := .ia (.l 1) (.l 0) 2 }, { o := .ld (.l 0) 2 true }, { o := .ca N.ref26_CopyWorld 0 [] [.l 0] }, { o := .bs [.l 0] 2 }, { o := .app (.l 7) (.l 0) true 2 }, { o := .fa (.v 3) 0 }, { o := .st (.l 0) (.l 1) 1 [] }] [(1, 8), (1, 9)])) (.reg [{ o := .mv (.v 4) }, { o := .bin .add (.l 0) (.i 1) }, { o := .mv (.l 0), d := some 4 }] [])))
def ref26_Copy_l1 : C := .loop true [0] K.ref26_Copy_l1b
def ref26_Copy : Fn := { nargs := 1, vars := [0, 1, 2, 3, 4], body := (.seq (.reg [{ o := .bx (.v 0) 1, d := some 1 }, { o := .al [.nil] [], d := some 2 }] []) (.seq (.reg [{ o := .al [.nil] [(0, 2)], d := some 3 }] []) (.seq (.seq (.reg [{ o := .mv (.i 0), d := some 4 }] []) (.blk 0 K.ref26_Copy_l1)) (.seq (.reg [{ o := .ld (.v 3) 1 true }, { o := .st (.v 2) (.l 0) 1 [] }] []) .ret)))), res := [(2, some (1, true))] }
def ref26_Valid_l2b : C := (.seq (.ite [{ o := .mv (.v 8) }, { o := .fa (.v 7) 0 }, { o := .ld (.l 0) 1 false }, { o := .ln (.l 0) }, { o := .bin .lss (.l 3) (.l 0) }] [] 0 .skip (.exit 2)) (.seq (.blk 3 (.ite [{ o := .mv (.v 5) }, { o := .fa (.v 7) 0 }, { o := .ld (.l 0) 1 false }, { o := .mv (.v 8) }, { o := .ia (.l 1) (.l 0) 1 }, { o := .ld (.l 0) 1 false }, { o := .ca N.ref26_bearer 0 [] [.l 5, .l 0] }, { o := .bin .lss (.l 0) (.i 0) }, { o := .mv (.l 0) }, { o := .ld (.v 2) 2 true, g := some (0, false) }, { o := .fa (.v 7) 1, g := some (1, false) }, { o := .ld (.l 0) 1 false, g := some (2, false) }, { o := .mv (.v 8), g := some (3, false) }, { o := .ia (.l 1) (.l 0) 2, g := some (4, false) }, { o := .ld (.l 0) 2 true, g := some (5, false) }, { o := .ca N.ref25_Valid 0 [] [.l 5, .l 0], g := some (6, false) }, { o := .un .not (.l 0), g := some (7, false) }, { o := .pk (.l 8) (.b true) (.l 0) }] [] 0 (.seq (.reg [{ o := .mv (.b false), d := some 4 }] []) .ret) .skip)) (.reg [{ o := .mv (.v 8) }, { o := .bin .add (.l 0) (.i 1) }, { o := .mv (.l 0), d := some 8 }] [])))
def ref26_Valid_l2 : C := .loop true [0, 1, 4] K.ref26_Valid_l2b
def ref26_Valid_l1b : C := (.seq (.ite [{ o := .mv (.v 6) }, { o := .fa (.v 3) 0 }, { o := .ld (.l 0) 1 false }, { o := .ln (.l 0) }, { o := .bin .lss (.l 3) (.l 0) }] [] 0 .skip (.exit 0)) (.seq (.blk 1 (.seq (.reg [{ o := .fa (.v 3) 0 }, { o := .ld (.l 0) 1 false }, { o := .mv (.v 6) }, { o := .ia (.l 1) (.l 0) 2 }, { o := .ld (.l 0) 2 true }, { o := .al [.nil, .nil] [], d := some 7 }, { o := .st (.l 0) (.l 1) 2 [] }] []) (.seq (.ite [{ o := .fa (.v 7) 0 }, { o := .ld (.l 0) 1 false }, { o := .ln (.l 0) }, { o := .mv (.v 5) }, { o := .ln (.l 0) }, { o := .bin .neq (.l 2) (.l 0) }, { o := .mv (.l 0) }, { o := .fa (.v 7) 1, g := some (0, false) }, { o := .ld (.l 0) 1 false, g := some (1, false) }, { o := .ln (.l 0), g := some (2, false) }, { o := .mv (.v 5), g := some (3, false) }, { o := .ln (.l 0), g := some (4, false) }, { o := .bin .neq (.l 2) (.l 0), g := some (5, false) }, { o := .pk (.l 6) (.b true) (.l 0) }, { o := .mv (.l 0) }, { o := .fa (.v 7) 0, g := some (0, false) }, { o := .ld (.l 0) 1 false, g := some (1, false) }, { o := .ca N.ref26_proper 0 [] [.l 0], g := some (2, false) }, { o := .un .not (.l 0), g := some (3, false) }, { o := .pk (.l 4) (.b true) (.l 0) }, { o := .mv (.l 0) }, { o := .mv (.v 6), g := some (0, false) }, { o := .bin .gtr (.l 0) (.i 0), g := some (1, false) }, { o := .mv (.l 0), g := some (2, false) }, { o := .fa (.v 3) 0, g := some (0, true) }, { o := .ld (.l 0) 1 false, g := some (1, true) }, { o := .mv (.v 6), g := some (2, true) }, { o := .bin .sub (.l 0) (.i 1), g := some (3, true) }, { o := .ia (.l 2) (.l 0) 2, g := some (4, true) }, { o := .fa (.l 0) 0, g := some (5, true) }, { o := .ld (.l 0) 1 false, g := some (6, true) }, { o := .fa (.v 7) 0, g := some (7, true) }, { o := .ld (.l 0) 1 false, g := some (8, true) }, { o := .ca N.ref26_Less 0 [] [.l 2, .l 0], g := some (9, true) }, { o := .un .not (.l 0), g := some (10, true) }, { o := .pk (.l 11) (.l 0) (.b false), g := some (14, false) }, { o := .pk (.l 15) (.b true) (.l 0) }] [] 0 (.seq (.reg [{ o := .mv (.b false), d := some 4 }] []) .ret) .skip) (.seq (.reg [{ o := .mv (.i 0), d := some 8 }] []) (.blk 2 K.ref26_Valid_l2))))) (.reg [{ o := .mv (.v 6) }, { o := .bin .add (.l 0) (.i 1) }, { o := .mv (.l 0), d := some 6 }] [])))
def ref26_Valid_l1 : C := .loop true [0, 1, 4, 7, 8] K.ref26_Valid_l1b
def ref26_Valid : Fn := { nargs := 2, vars := [0, 1, 2, 3, 4, 5, 6, 7, 8], body := (.seq (.reg [{ o := .bx (.v 0) 2, d := some 2 }, { o := .bx (.v 1) 1, d := some 3 }, { o := .mv (.b false), d := some 4 }] []) (.seq (.ite [{ o := .fa (.v 3) 0 }, { o := .ld (.l 0) 1 false }, { o := .ln (.l 0) }, { o := .bin .lss (.l 0) (.i 1) }, { o := .mv (.l 0) }, { o := .fa (.v 3) 0, g := some (0, false) }, { o := .ld (.l 0) 1 false, g := some (1, false) }, { o := .ln (.l 0), g := some (2, false) }, { o := .bin .gtr (.l 0) (.i 24), g := some (3, false) }, { o := .pk (.l 4) (.b true) (.l 0) }, { o := .mv (.l 0) }, { o := .ld (.v 2) 2 true, g := some (0, false) }, { o := .ca N.ref01_Check 0 [] [.l 0], g := some (1, false) }, { o := .bin .neq (.l 0) (.i 0), g := some (2, false) }, { o := .pk (.l 3) (.b true) (.l 0) }] [] 0 (.seq (.reg [{ o := .mv (.b false), d := some 4 }] []) .ret) .skip) (.seq (.reg [{ o := .fa (.v 3) 0 }, { o := .ld (.l 0) 1 false }, { o := .ia (.l 0) (.i 0) 2 }, { o := .fa (.l 0) 0 }, { o := .ld (.l 0) 1 false }, { o := .mv (.l 0), d := some 5 }] []) (.seq (.ite [{ o := .mv (.v 5) }, { o := .ln (.l 0) }, { o := .bin .lss (.l 0) (.i 1) }, { o := .mv (.l 0) }, { o := .mv (.v 5), g := some (0, false) }, { o := .ln (.l 0), g := some (1, false) }, { o := .bin .gtr (.l 0) (.i 12), g := some (2, false) }, { o := .pk (.l 3) (.b true) (.l 0) }] [] 0 (.seq (.reg [{ o := .mv (.b false), d := some 4 }] []) .ret) .skip) (.seq (.seq (.reg [{ o := .mv (.i 0), d := some 6 }] []) (.blk 0 K.ref26_Valid_l1)) (.seq (.reg [{ o := .mv (.b true), d := some 4 }] []) .ret)))))), res := [(4, none)] }
def ref26_CopyWorld_l1b : C := (.seq (.ite [{ o := .mv (.v 4) }, { o := .fa (.v 1) 1 }, { o := .ld (.l 0) 1 false }, { o := .ln (.l 0) }, { o := .bin .lss (.l 3) (.l 0) }] [] 0 .skip (.exit 0)) (.seq (.blk 1 (.reg [{ o := .fa (.v 3) 1 }, { o := .ld (.l 0) 1 false }, { o := .fa (.v 1) 1 }, { o := .ld (.l 0) 1 false }, { o := .mv (.v 4) }, { o := .ia (.l 1) (.l 0) 2 }, { o := .ld (.l 0) 2 true }, { o := .ca N.ref25_Copy 0 [] [.l 0] }, { o := .bs [.l 0] 2 }, { o := .app (.l 7) (.l 0) true 2 }, { o := .fa (.v 3) 1 }, { o := .st (.l 0) (.l 1) 1 [] }] [(1, 8), (1, 9)])) (.reg [{ o := .mv (.v 4) }, { o := .bin .add (.l 0) (.i 1) }, { o := .mv (.l 0), d := some 4 }] [])))
def ref26_CopyWorld_l1 : C := .loop true [0] K.ref26_CopyWorld_l1b
def ref26_CopyWorld : Fn := { nargs := 1, vars := [0, 1, 2, 3, 4], body := (.seq (.reg [{ o := .bx (.v 0) 2, d := some 1 }, { o := .al [.nil, .nil] [], d := some 2 }] []) (.seq (.reg [{ o := .fa (.v 1) 0 }, { o := .ld (.l 0) 1 false }, { o := .app (.c (.nil)) (.l 0) true 1 }, { o := .bd [.nil, .nil] [(0, 1, .l 0)] }, { o := .al [.nil, .nil] [(1, 2)], d := some 3 }, { o := .st (.l 0) (.l 1) 2 [(1, 2)] }] []) (.seq (.seq (.reg [{ o := .mv (.i 0), d := some 4 }] []) (.blk 0 K.ref26_CopyWorld_l1)) (.seq (.reg [{ o := .ld (.v 3) 2 true }, { o := .st (.v 2) (.l 0) 2 [] }] []) .ret)))), res := [(2, some (2, true))] }
def ref26_meet_l1b : C := (.seq (.ite [{ o := .mv (.v 6) }, { o := .fa (.v 3) 1 }, { o := .ld (.l 0) 1 false }, { o := .ln (.l 0) }, { o := .bin .lss (.l 3) (.l 0) }, { o := .mv (.l 0) }, { o := .mv (.v 6), g := some (0, true) }, { o := .fa (.v 4) 1, g := some (1, true) }, { o := .ld (.l 0) 1 false, g := some (2, true) }, { o := .ln (.l 0), g := some (3, true) }, { o := .bin .lss (.l 3) (.l 0), g := some (4, true) }, { o := .pk (.l 5) (.l 0) (.b false) }] [] 0 .skip (.exit 0)) (.seq (.blk 1 (.ite [{ o := .fa (.v 3) 1 }, { o := .ld (.l 0) 1 false }, { o := .mv (.v 6) }, { o := .ia (.l 1) (.l 0) 1 }, { o := .ld (.l 0) 1 false }, { o := .mv (.v 2) }, { o := .bin .leq (.l 1) (.l 0) }, { o := .mv (.l 0) }, { o := .fa (.v 4) 1, g := some (0, true) }, { o := .ld (.l 0) 1 false, g := some (1, true) }, { o := .mv (.v 6), g := some (2, true) }, { o := .ia (.l 1) (.l 0) 1, g := some (3, true) }, { o := .ld (.l 0) 1 false, g := some (4, true) }, { o := .mv (.v 2), g := some (5, true) }, { o := .bin .leq (.l 1) (.l 0), g := some (6, true) }, { o := .pk (.l 7) (.l 0) (.b false) }] [] 0 (.seq (.reg [{ o := .mv (.b true), d := some 5 }] []) .ret) .skip)) (.reg [{ o := .mv (.v 6) }, { o := .bin .add (.l 0) (.i 1) }, { o := .mv (.l 0), d := some 6 }] [])))
def ref26_meet_l1 : C := .loop true [0, 1, 5] K.ref26_meet_l1b
def ref26_meet : Fn := { nargs := 3, vars := [0, 1, 2, 3, 4, 6, 7], body := (.seq (.reg [{ o := .bx (.v 0) 2, d := some 3 }, { o := .bx (.v 1) 2, d := some 4 }, { o := .mv (.b false), d := some 5 }] []) (.seq (.seq (.reg [{ o := .mv (.i 0), d := some 6 }] []) (.blk 0 K.ref26_meet_l1)) (.seq (.reg [{ o := .mv (.b false), d := some 5 }] []) .ret))), res := [(5, none)] }
def ref25_Raise : Fn := { nargs := 2, vars := [0, 1, 2, 4, 5], body := (.seq (.reg [{ o := .bx (.v 0) 2, d := some 2 }, { o := .al [.t (.int .i64 (0)), .nil] [], d := some 3 }, { o := .mv (.i 0), d := some 4 }] []) (.seq (.reg [{ o := .ld (.v 2) 2 true }, { o := .ca N.ref25_Copy 0 [] [.l 0] }, { o := .st (.v 2) (.l 0) 2 [] }] []) (.seq (.ite [{ o := .mv (.v 1) }, { o := .fa (.v 2) 0 }, { o := .ld (.l 0) 1 false }, { o := .bin .lss (.l 2) (.l 0) }, { o := .mv (.l 0) }, { o := .mv (.v 1), g := some (0, false) }, { o := .bin .gtr (.l 0) (.i 2147483648), g := some (1, false) }, { o := .pk (.l 2) (.b true) (.l 0) }] [] 0 (.seq (.reg [{ o := .ld (.v 2) 2 true }, { o := .st (.v 3) (.l 0) 2 [] }, { o := .mv (.i 8), d := some 4 }] []) .ret) .skip) (.seq (.reg [{ o := .mv (.v 1) }, { o := .fa (.v 2) 0 }, { o := .st (.l 0) (.l 1) 1 [] }] []) (.seq (.reg [{ o := .ld (.v 2) 2 true }, { o := .st (.v 3) (.l 0) 2 [] }, { o := .mv (.i 0), d := some 4 }] []) .ret))))), res := [(3, some (2, true)), (4, none)] }
def ref26_Tidy_l2b : C := (.seq (.ite [{ o := .mv (.v 4) }, { o := .mv (.v 2) }, { o := .ln (.l 0) }, { o := .bin .lss (.l 2) (.l 0) }, { o := .mv (.l 0) }, { o := .mv (.v 2), g := some (0, true) }, { o := .mv (.v 4), g := some (1, true) }, { o := .ia (.l 1) (.l 0) 2, g := some (2, true) }, { o := .fa (.l 0) 0, g := some (3, true) }, { o := .ld (.l 0) 1 false, g := some (4, true) }, { o := .mv (.v 0), g := some (5, true) }, { o := .mv (.v 3), g := some (6, true) }, { o := .ia (.l 1) (.l 0) 2, g := some (7, true) }, { o := .fa (.l 0) 0, g := some (8, true) }, { o := .ld (.l 0) 1 false, g := some (9, true) }, { o := .ca N.ref26_Less 0 [] [.l 5, .l 0], g := some (10, true) }, { o := .pk (.l 11) (.l 0) (.b false) }] [] 0 .skip (.exit 2)) (.blk 3 (.reg [{ o := .mv (.v 4) }, { o := .bin .add (.l 0) (.i 1) }, { o := .mv (.l 0), d := some 4 }] [])))
def ref26_Tidy_l2 : C := .loop false [1, 5] K.ref26_Tidy_l2b
def ref26_Tidy_l3b : C := (.seq (.ite [{ o := .mv (.v 5) }, { o := .mv (.v 2) }, { o := .mv (.v 4) }, { o := .ia (.l 1) (.l 0) 2 }, { o := .fa (.l 0) 1 }, { o := .ld (.l 0) 1 false }, { o := .ln (.l 0) }, { o := .bin .lss (.l 6) (.l 0) }, { o := .mv (.l 0) }, { o := .mv (.v 5), g := some (0, true) }, { o := .mv (.v 0), g := some (1, true) }, { o := .mv (.v 3), g := some (2, true) }, { o := .ia (.l 1) (.l 0) 2, g := some (3, true) }, { o := .fa (.l 0) 1, g := some (4, true) }, { o := .ld (.l 0) 1 false, g := some (5, true) }, { o := .ln (.l 0), g := some (6, true) }, { o := .bin .lss (.l 6) (.l 0), g := some (7, true) }, { o := .pk (.l 8) (.l 0) (.b false) }] [] 0 .skip (.exit 4)) (.seq (.blk 5 (.reg [{ o := .mv (.v 2) }, { o := .mv (.v 4) }, { o := .ia (.l 1) (.l 0) 2 }, { o := .fa (.l 0) 1 }, { o := .ld (.l 0) 1 false }, { o := .mv (.v 5) }, { o := .mv (.v 2) }, { o := .mv (.v 4) }, { o := .ia (.l 1) (.l 0) 2 }, { o := .fa (.l 0) 1 }, { o := .ld (.l 0) 1 false }, { o := .mv (.v 5) }, { o := .ia (.l 1) (.l 0) 2 }, { o := .ld (.l 0) 2 true }, { o := .mv (.v 0) }, { o := .mv (.v 3) }, { o := .ia (.l 1) (.l 0) 2 }, { o := .fa (.l 0) 1 }, { o := .ld (.l 0) 1 false }, { o := .mv (.v 5) }, { o := .ia (.l 1) (.l 0) 2 }, { o := .ld (.l 0) 2 true }, { o := .ca N.ref25_Join 0 [] [.l 8, .l 0] }, { o := .mv (.l 0) }, { o := .ex (.l 0) 0 }, { o := .ex (.l 1) 1 }, { o := .ia (.l 21) (.l 20) 2 }, { o := .st (.l 0) (.l 2) 2 [] }] [(2, 23), (4, 23)])) (.reg [{ o := .mv (.v 5) }, { o := .bin .add (.l 0) (.i 1) }, { o := .mv (.l 0), d := some 5 }] [])))
def ref26_Tidy_l3 : C := .loop false [1] K.ref26_Tidy_l3b
def ref26_Tidy_l1b : C := (.seq (.ite [{ o := .mv (.v 3) }, { o := .mv (.v 0) }, { o := .ln (.l 0) }, { o := .bin .lss (.l 2) (.l 0) }] [] 0 .skip (.exit 0)) (.seq (.blk 1 (.seq (.reg [{ o := .mv (.i 0), d := some 4 }] []) (.seq (.blk 2 K.ref26_Tidy_l2) (.seq (.ite [{ o := .mv (.v 4) }, { o := .mv (.v 2) }, { o := .ln (.l 0) }, { o := .bin .lss (.l 2) (.l 0) }, { o := .mv (.l 0) }, { o := .mv (.v 2), g := some (0, true) }, { o := .mv (.v 4), g := some (1, true) }, { o := .ia (.l 1) (.l 0) 2, g := some (2, true) }, { o := .fa (.l 0) 0, g := some (3, true) }, { o := .ld (.l 0) 1 false, g := some (4, true) }, { o := .mv (.v 0), g := some (5, true) }, { o := .mv (.v 3), g := some (6, true) }, { o := .ia (.l 1) (.l 0) 2, g := some (7, true) }, { o := .fa (.l 0) 0, g := some (8, true) }, { o := .ld (.l 0) 1 false, g := some (9, true) }, { o := .ca N.ref23_SameInts 0 [] [.l 5, .l 0], g := some (10, true) }, { o := .pk (.l 11) (.l 0) (.b false) }] [] 0 (.seq (.seq (.reg [{ o := .mv (.i 0), d := some 5 }] []) (.blk 4 K.ref26_Tidy_l3)) (.exit 1)) .skip) (.reg [{ o := .mv (.v 2) }, { o := .mv (.v 4) }, { o := .sc (.l 1) none (some (.l 0)) 2 }, { o := .app (.c (.nil)) (.l 0) false 2 }, { o := .mv (.v 0) }, { o := .mv (.v 3) }, { o := .ia (.l 1) (.l 0) 2 }, { o := .ld (.l 0) 2 true }, { o := .ca N.ref26_CopyWorld 1 [] [.l 0] }, { o := .bsr [.l 0] 2 }, { o := .app (.l 6) (.l 0) false 2 }, { o := .mv (.v 2) }, { o := .mv (.v 4) }, { o := .sc (.l 1) (some (.l 0)) none 2 }, { o := .app (.l 3) (.l 0) false 2 }, { o := .mv (.l 0), d := some 2 }] [(6, 0), (7, 0), (13, 0), (13, 4), (13, 9), (13, 10)]))))) (.reg [{ o := .mv (.v 3) }, { o := .bin .add (.l 0) (.i 1) }, { o := .mv (.l 0), d := some 3 }] [])))
def ref26_Tidy_l1 : C := .loop false [1, 4, 5] K.ref26_Tidy_l1b
def ref26_Tidy : Fn := { nargs := 1, vars := [0, 2, 3, 4, 5, 6], body := (.seq (.reg [{ o := .mv (.c (.nil)), d := some 1 }] []) (.seq (.reg [{ o := .mv (.c (.nil)), d := some 2 }] []) (.seq (.seq (.reg [{ o := .mv (.i 0), d := some 3 }] []) (.blk 0 K.ref26_Tidy_l1)) (.seq (.reg [{ o := .mv (.v 2) }, { o := .mv (.l 0), d := some 1 }] []) .ret)))), res := [(1, none)] }
def ref26_borne : Fn := { nargs := 3, vars := [0, 1, 2, 3, 4, 6], body := (.seq (.reg [{ o := .bx (.v 0) 2, d := some 3 }, { o := .bx (.v 1) 1, d := some 4 }, { o := .mv (.i 0), d := some 5 }] []) (.seq (.ite [{ o := .ld (.v 3) 2 true }, { o := .ld (.v 4) 1 true }, { o := .ca N.ref26_Valid 0 [] [.l 1, .l 0] }, { o := .un .not (.l 0) }] [] 0 (.seq (.reg [{ o := .mv (.i 6), d := some 5 }] []) .ret) .skip) (.seq (.ite [{ o := .fa (.v 4) 0 }, { o := .ld (.l 0) 1 false }, { o := .ia (.l 0) (.i 0) 2 }, { o := .fa (.l 0) 0 }, { o := .ld (.l 0) 1 false }, { o := .mv (.v 2) }, { o := .ca N.ref26_bearer 0 [] [.l 1, .l 0] }, { o := .bin .lss (.l 0) (.i 0) }] [] 0 (.seq (.reg [{ o := .mv (.i 41), d := some 5 }] []) .ret) .skip) (.seq (.reg [{ o := .mv (.i 0), d := some 5 }] []) .ret)))), res := [(5, none)] }
def ref26_bearer_l1b : C := (.seq (.ite [{ o := .mv (.v 3) }, { o := .mv (.v 0) }, { o := .ln (.l 0) }, { o := .bin .lss (.l 2) (.l 0) }] [] 0 .skip (.exit 0)) (.seq (.blk 1 (.ite [{ o := .mv (.v 0) }, { o := .mv (.v 3) }, { o := .ia (.l 1) (.l 0) 1 }, { o := .ld (.l 0) 1 false }, { o := .mv (.v 1) }, { o := .bin .eql (.l 1) (.l 0) }] [] 0 (.seq (.reg [{ o := .mv (.v 3) }, { o := .mv (.l 0), d := some 2 }] []) .ret) .skip)) (.reg [{ o := .mv (.v 3) }, { o := .bin .add (.l 0) (.i 1) }, { o := .mv (.l 0), d := some 3 }] [])))
def ref26_bearer_l1 : C := .loop true [2] K.ref26_bearer_l1b
def ref26_bearer : Fn := { nargs := 2, vars := [0, 1, 4, 5], body := (.seq (.reg [{ o := .mv (.i 0), d := some 2 }] []) (.seq (.seq (.reg [{ o := .mv (.i 0), d := some 3 }] []) (.blk 0 K.ref26_bearer_l1)) (.seq (.reg [{ o := .mv (.i (-1)), d := some 2 }] []) .ret))), res := [(2, none)] }
def ref25_See_l1b : C := (.seq (.ite [{ o := .mv (.v 12) }, { o := .mv (.v 2) }, { o := .ln (.l 0) }, { o := .bin .lss (.l 2) (.l 0) }] [] 0 .skip (.exit 0)) (.seq (.blk 1 (.seq (.reg [{ o := .mv (.v 2) }, { o := .mv (.v 12) }, { o := .ia (.l 1) (.l 0) 1 }, { o := .ld (.l 0) 1 false }, { o := .mv (.l 0), d := some 13 }] []) (.ite [{ o := .fa (.v 6) 1 }, { o := .ld (.l 0) 1 false }, { o := .mv (.v 13) }, { o := .ia (.l 1) (.l 0) 1 }, { o := .ld (.l 0) 1 false }, { o := .mv (.v 4) }, { o := .bin .leq (.l 1) (.l 0) }] [] 0 (.reg [{ o := .mv (.v 10) }, { o := .mv (.v 13) }, { o := .fa (.v 6) 1 }, { o := .ld (.l 0) 1 false }, { o := .mv (.v 13) }, { o := .ia (.l 1) (.l 0) 1 }, { o := .ld (.l 0) 1 false }, { o := .ia (.l 6) (.l 5) 1 }, { o := .st (.l 0) (.l 1) 1 [] }, { o := .mv (.b true), d := some 11 }] []) .skip))) (.reg [{ o := .mv (.v 12) }, { o := .bin .add (.l 0) (.i 1) }, { o := .mv (.l 0), d := some 12 }] [])))
def ref25_See_l1 : C := .loop true [0, 1, 8, 9, 13] K.ref25_See_l1b
def ref25_See : Fn := { nargs := 5, vars := [0, 1, 2, 3, 4, 5, 6, 10, 11, 12, 13, 14, 15, 16], body := (.seq (.reg [{ o := .bx (.v 0) 2, d := some 5 }, { o := .bx (.v 1) 2, d := some 6 }, { o := .al [.t (.int .i64 (0)), .nil] [], d := some 7 }, { o := .mv (.i 0), d := some 8 }] []) (.seq (.seq (.reg [{ o := .ld (.v 5) 2 true }, { o := .ld (.v 6) 2 true }, { o := .mv (.v 2) }, { o := .mv (.v 3) }, { o := .mv (.v 4) }, { o := .ca N.ref25_asked 0 [] [.l 4, .l 3, .l 2, .l 1, .l 0] }, { o := .mv (.l 0), d := some 9 }] []) (.ite [{ o := .mv (.v 9) }, { o := .bin .neq (.l 0) (.i 0) }] [] 0 (.seq (.reg [{ o := .ld (.v 6) 2 true }, { o := .ca N.ref25_Copy 0 [] [.l 0] }, { o := .mv (.v 9) }, { o := .st (.v 7) (.l 1) 2 [] }, { o := .mv (.l 1), d := some 8 }] []) .ret) .skip)) (.seq (.ite [{ o := .mv (.v 3) }, { o := .fa (.v 6) 0 }, { o := .ld (.l 0) 1 false }, { o := .bin .lss (.l 2) (.l 0) }] [] 0 (.seq (.reg [{ o := .ld (.v 6) 2 true }, { o := .ca N.ref25_Copy 0 [] [.l 0] }, { o := .st (.v 7) (.l 0) 2 [] }, { o := .mv (.i 42), d := some 8 }] []) .ret) .skip) (.seq (.reg [{ o := .fa (.v 5) 0 }, { o := .ld (.l 0) 1 false }, { o := .ln (.l 0) }, { o := .ca N.ref25_never 1 [] [.l 0] }, { o := .mv (.l 0), d := some 10 }] []) (.seq (.reg [{ o := .mv (.b false), d := some 11 }] []) (.seq (.seq (.reg [{ o := .mv (.i 0), d := some 12 }] []) (.blk 0 K.ref25_See_l1)) (.seq (.ite [{ o := .mv (.v 11) }, { o := .un .not (.l 0) }] [] 0 (.seq (.reg [{ o := .ld (.v 6) 2 true }, { o := .ca N.ref25_Copy 0 [] [.l 0] }, { o := .st (.v 7) (.l 0) 2 [] }, { o := .mv (.i 43), d := some 8 }] []) .ret) .skip) (.seq (.reg [{ o := .mv (.v 4) }, { o := .ld (.v 5) 2 true }, { o := .mv (.v 10) }, { o := .mv (.v 3) }, { o := .ca N.ref25_Close 0 [] [.l 2, .l 1, .l 0] }, { o := .bd [.t (.int .i64 (0)), .nil] [(0, 1, .l 4), (1, 1, .l 0)] }, { o := .st (.v 7) (.l 0) 2 [] }, { o := .mv (.i 0), d := some 8 }] []) .ret)))))))), res := [(7, some (2, true)), (8, none)] }
def ref25_Absent_l1b : C := (.seq (.ite [{ o := .mv (.v 12) }, { o := .mv (.v 2) }, { o := .ln (.l 0) }, { o := .bin .lss (.l 2) (.l 0) }] [] 0 .skip (.exit 0)) (.seq (.blk 1 (.reg [{ o := .mv (.v 11) }, { o := .mv (.v 2) }, { o := .mv (.v 12) }, { o := .ia (.l 1) (.l 0) 1 }, { o := .ld (.l 0) 1 false }, { o := .ia (.l 4) (.l 0) 1 }, { o := .st (.l 0) (.i 1099511627776) 1 [] }] [])) (.reg [{ o := .mv (.v 12) }, { o := .bin .add (.l 0) (.i 1) }, { o := .mv (.l 0), d := some 12 }] [])))
def ref25_Absent_l1 : C := .loop true [0, 1, 3, 7, 9, 10] K.ref25_Absent_l1b
def ref25_Absent : Fn := { nargs := 6, vars := [0, 1, 2, 3, 4, 5, 6, 7, 12, 13, 14, 15, 16], body := (.seq (.reg [{ o := .bx (.v 0) 2, d := some 6 }, { o := .bx (.v 1) 2, d := some 7 }, { o := .al [.t (.int .i64 (0)), .nil] [], d := some 8 }, { o := .mv (.i 0), d := some 9 }] []) (.seq (.seq (.reg [{ o := .ld (.v 6) 2 true }, { o := .ld (.v 7) 2 true }, { o := .mv (.v 2) }, { o := .mv (.v 3) }, { o := .mv (.v 4) }, { o := .ca N.ref25_asked 0 [] [.l 4, .l 3, .l 2, .l 1, .l 0] }, { o := .mv (.l 0), d := some 10 }] []) (.ite [{ o := .mv (.v 10) }, { o := .bin .neq (.l 0) (.i 0) }] [] 0 (.seq (.reg [{ o := .ld (.v 7) 2 true }, { o := .ca N.ref25_Copy 0 [] [.l 0] }, { o := .mv (.v 10) }, { o := .st (.v 8) (.l 1) 2 [] }, { o := .mv (.l 1), d := some 9 }] []) .ret) .skip)) (.seq (.ite [{ o := .mv (.v 5) }, { o := .ca N.ref25_inTime 0 [] [.l 0] }, { o := .un .not (.l 0) }] [] 0 (.seq (.reg [{ o := .ld (.v 7) 2 true }, { o := .ca N.ref25_Copy 0 [] [.l 0] }, { o := .st (.v 8) (.l 0) 2 [] }, { o := .mv (.i 8), d := some 9 }] []) .ret) .skip) (.seq (.ite [{ o := .mv (.v 4) }, { o := .fa (.v 7) 0 }, { o := .ld (.l 0) 1 false }, { o := .bin .lss (.l 2) (.l 0) }] [] 0 (.seq (.reg [{ o := .ld (.v 7) 2 true }, { o := .ca N.ref25_Copy 0 [] [.l 0] }, { o := .st (.v 8) (.l 0) 2 [] }, { o := .mv (.i 42), d := some 9 }] []) .ret) .skip) (.seq (.ite [{ o := .mv (.v 4) }, { o := .mv (.v 3) }, { o := .fa (.v 7) 0 }, { o := .ld (.l 0) 1 false }, { o := .mx [.l 2, .l 0] }, { o := .bin .sub (.l 4) (.l 0) }, { o := .mv (.v 5) }, { o := .bin .leq (.l 1) (.l 0) }] [] 0 (.seq (.reg [{ o := .ld (.v 7) 2 true }, { o := .ca N.ref25_Copy 0 [] [.l 0] }, { o := .st (.v 8) (.l 0) 2 [] }, { o := .mv (.i 0), d := some 9 }] []) .ret) .skip) (.seq (.reg [{ o := .fa (.v 7) 1 }, { o := .ld (.l 0) 1 false }, { o := .app (.c (.nil)) (.l 0) true 1 }, { o := .mv (.l 0), d := some 11 }] []) (.seq (.seq (.reg [{ o := .mv (.i 0), d := some 12 }] []) (.blk 0 K.ref25_Absent_l1)) (.seq (.reg [{ o := .mv (.v 4) }, { o := .ld (.v 6) 2 true }, { o := .ld (.v 6) 2 true }, { o := .mv (.v 11) }, { o := .mv (.v 4) }, { o := .mv (.v 5) }, { o := .bin .sub (.l 1) (.l 0) }, { o := .mv (.v 2) }, { o := .ca N.ref25_close 0 [3] [.l 5, .l 4, .l 1, .l 0] }, { o := .mv (.v 4) }, { o := .ca N.ref25_Close 0 [] [.l 8, .l 1, .l 0] }, { o := .bd [.t (.int .i64 (0)), .nil] [(0, 1, .l 10), (1, 1, .l 0)] }, { o := .st (.v 8) (.l 0) 2 [] }, { o := .mv (.i 0), d := some 9 }] [(1, 9)]) .ret)))))))), res := [(8, some (2, true)), (9, none)] }
def lists_Where_l1b : C := (.its  [{ o := .bin .lss (.v 6) (.v 5) }] [] 0 .skip (.exit 0) (.seq (.blk 1 (.seq (.reg [{ o := .mv (.v 6) }, { o := .mv (.l 0), d := some 4 }] []) (.ite [{ o := .mv (.v 1) }, { o := .mv (.v 4) }, { o := .cw (.l 1) 0 [] [.l 0] }] [] 0 (.reg [{ o := .mv (.v 3) }, { o := .mv (.v 4) }, { o := .bs [.l 0] 1 }, { o := .app (.l 2) (.l 0) true 1 }, { o := .mv (.l 0), d := some 3 }] []) .skip))) (.reg [{ o := .bin .add (.v 6) (.i 1) }, { o := .mv (.l 0), d := some 6 }] [])))
def lists_Where_l1 : C := .loop true [0, 2, 4] K.lists_Where_l1b
def lists_Where : Fn := { nargs := 2, vars := [0, 1, 4, 5, 6, 7, 8], body := (.seq (.reg [{ o := .mv (.c (.nil)), d := some 2 }] []) (.seq (.reg [{ o := .nw 1, d := some 3 }] []) (.seq (.seq (.reg [{ o := .mv (.v 0), d := some 5 }, { o := .mv (.i 0), d := some 6 }] []) (.blk 0 K.lists_Where_l1)) (.seq (.reg [{ o := .mv (.v 3) }, { o := .mv (.l 0), d := some 2 }] []) .ret)))), res := [(2, none)] }
def smoke_Filled_1 : Fn := { nargs := 3, vars := [0, 1, 2, 4], body := (.seq (.reg [{ o := .mv (.b false), d := some 3 }] []) (.seq (.reg [{ o := .fa (.v 1) 1 }, { o := .ld (.l 0) 1 false }, { o := .mv (.v 0) }, { o := .ia (.l 1) (.l 0) 1 }, { o := .ld (.l 0) 1 false }, { o := .ld (.v 2) 1 false }, { o := .bin .leq (.l 1) (.l 0) }, { o := .mv (.l 0), d := some 3 }] []) .ret)), res := [(3, none)] }
def slices_ContainsFunc_int_int : Fn := { nargs := 2, vars := [0, 1, 4], body := (.seq (.reg [{ o := .mv (.b false), d := some 2 }] []) (.seq (.reg [{ o := .mv (.v 0) }, { o := .mv (.v 1) }, { o := .ca N.slices_IndexFunc_int_int 0 [] [.l 1, .l 0] }, { o := .bin .geq (.l 0) (.i 0) }, { o := .mv (.l 0), d := some 2 }] []) .ret)), res := [(2, none)] }
def firerules_meets_1 : Fn := { nargs := 2, vars := [0, 1, 3], body := (.seq (.reg [{ o := .mv (.b false), d := some 2 }] []) (.seq (.reg [{ o := .ld (.v 1) 1 false }, { o := .mv (.v 0) }, { o := .ca N.slices_Contains_int_int 0 [] [.l 1, .l 0] }, { o := .mv (.l 0), d := some 2 }] []) .ret)), res := [(2, none)] }
def slices_Contains_int_int : Fn := { nargs := 2, vars := [0, 1, 4], body := (.seq (.reg [{ o := .mv (.b false), d := some 2 }] []) (.seq (.reg [{ o := .mv (.v 0) }, { o := .mv (.v 1) }, { o := .ca N.slices_Index_int_int 0 [] [.l 1, .l 0] }, { o := .bin .geq (.l 0) (.i 0) }, { o := .mv (.l 0), d := some 2 }] []) .ret)), res := [(2, none)] }
def firerules_near_1 : Fn := { nargs := 4, vars := [0, 1, 2, 3, 5], body := (.seq (.reg [{ o := .mv (.b false), d := some 4 }] []) (.seq (.reg [{ o := .ld (.v 1) 1 true }, { o := .mv (.v 0) }, { o := .ld (.v 2) 1 false }, { o := .ca N.swaps_Possible 0 [] [.l 2, .l 1, .l 0] }, { o := .fa (.v 3) 2 }, { o := .ld (.l 0) 1 false }, { o := .ca N.firerules_meets 0 [] [.l 2, .l 0] }, { o := .mv (.l 0), d := some 4 }] [(5, 0)]) .ret)), res := [(4, none)] }
def swaps_Possible : Fn := { nargs := 3, vars := [0, 1, 2, 3, 4, 5, 6], body := (.seq (.reg [{ o := .bx (.v 0) 1, d := some 3 }, { o := .bx (.v 1) 1, d := some 4 }, { o := .bx (.v 2) 1, d := some 5 }, { o := .mv (.c (.nil)), d := some 6 }] []) (.seq (.reg [{ o := .mf N.swaps_Possible_1 [.v 3, .v 4, .v 5] }, { o := .ca N.lists_Where 0 [] [.i 64, .l 0] }, { o := .mv (.l 0), d := some 6 }] []) .ret)), res := [(6, none)] }
def ref01_Span : Fn := { nargs := 3, vars := [0, 1, 2, 3, 6], body := (.seq (.reg [{ o := .bx (.v 0) 2, d := some 3 }, { o := .mv (.b false), d := some 4 }] []) (.seq (.reg [{ o := .mv (.v 1) }, { o := .fa (.v 3) 0 }, { o := .ld (.l 0) 1 false }, { o := .bin .leq (.l 2) (.l 0) }, { o := .mv (.l 0) }, { o := .fa (.v 3) 0, g := some (0, true) }, { o := .ld (.l 0) 1 false, g := some (1, true) }, { o := .fa (.v 3) 1, g := some (2, true) }, { o := .ld (.l 0) 1 false, g := some (3, true) }, { o := .bin .leq (.l 2) (.l 0), g := some (4, true) }, { o := .pk (.l 5) (.l 0) (.b false) }, { o := .mv (.l 0) }, { o := .fa (.v 3) 1, g := some (0, true) }, { o := .ld (.l 0) 1 false, g := some (1, true) }, { o := .mv (.v 2), g := some (2, true) }, { o := .bin .leq (.l 1) (.l 0), g := some (3, true) }, { o := .pk (.l 4) (.l 0) (.b false) }, { o := .mv (.l 0), d := some 4 }] []) .ret)), res := [(4, none)] }
def ref28_Span : Fn := { nargs := 1, vars := [0, 1, 2], body := (.seq (.reg [{ o := .bx (.v 0) 2, d := some 1 }, { o := .mv (.b false), d := some 2 }] []) (.seq (.reg [{ o := .fa (.v 1) 0 }, { o := .ld (.l 0) 1 false }, { o := .bin .geq (.l 0) (.i (-1125899906842624)) }, { o := .mv (.l 0) }, { o := .fa (.v 1) 1, g := some (0, true) }, { o := .ld (.l 0) 1 false, g := some (1, true) }, { o := .bin .leq (.l 0) (.i 1125899906842624), g := some (2, true) }, { o := .pk (.l 3) (.l 0) (.b false) }, { o := .mv (.l 0) }, { o := .fa (.v 1) 0, g := some (0, true) }, { o := .ld (.l 0) 1 false, g := some (1, true) }, { o := .fa (.v 1) 1, g := some (2, true) }, { o := .ld (.l 0) 1 false, g := some (3, true) }, { o := .bin .leq (.l 2) (.l 0), g := some (4, true) }, { o := .pk (.l 5) (.l 0) (.b false) }, { o := .mv (.l 0), d := some 2 }] []) .ret)), res := [(2, none)] }
def ref25_inTime : Fn := { nargs := 1, vars := [0, 2], body := (.seq (.reg [{ o := .mv (.b false), d := some 1 }] []) (.seq (.reg [{ o := .mv (.v 0) }, { o := .bin .geq (.l 0) (.i 0) }, { o := .mv (.l 0) }, { o := .mv (.v 0), g := some (0, true) }, { o := .bin .leq (.l 0) (.i 2147483648), g := some (1, true) }, { o := .pk (.l 2) (.l 0) (.b false) }, { o := .mv (.l 0), d := some 1 }] []) .ret)), res := [(1, none)] }
def ref25_never_l1b : C := (.seq (.ite [{ o := .mv (.v 3) }, { o := .mv (.v 0) }, { o := .bin .lss (.l 1) (.l 0) }] [] 0 .skip (.exit 0)) (.seq (.blk 1 (.reg [{ o := .mv (.v 2) }, { o := .bs [.i 1099511627776] 1 }, { o := .app (.l 1) (.l 0) true 1 }, { o := .mv (.l 0), d := some 2 }] [])) (.reg [{ o := .mv (.v 3) }, { o := .bin .add (.l 0) (.i 1) }, { o := .mv (.l 0), d := some 3 }] [])))
def ref25_never_l1 : C := .loop true [1] K.ref25_never_l1b
def ref25_never : Fn := { nargs := 1, vars := [0, 2, 3, 4], body := (.seq (.reg [{ o := .mv (.c (.nil)), d := some 1 }] []) (.seq (.reg [{ o := .nw 1, d := some 2 }] []) (.seq (.seq (.reg [{ o := .mv (.i 0), d := some 3 }] []) (.blk 0 K.ref25_never_l1)) (.seq (.reg [{ o := .mv (.v 2) }, { o := .mv (.l 0), d := some 1 }] []) .ret)))), res := [(1, none)] }
def ref25_Close : Fn := { nargs := 3, vars := [0, 1, 2, 3, 6], body := (.seq (.reg [{ o := .bx (.v 0) 2, d := some 3 }, { o := .mv (.c (.nil)), d := some 4 }] []) (.seq (.reg [{ o := .ld (.v 3) 2 true }, { o := .mv (.v 1) }, { o := .mv (.v 2) }, { o := .ca N.ref25_close 0 [3] [.l 2, .l 1, .l 0, .c (.nil)] }, { o := .mv (.l 0), d := some 4 }] []) .ret)), res := [(4, none)] }
def ref26_Less_l1b : C := (.seq (.ite [{ o := .mv (.v 3) }, { o := .mv (.v 0) }, { o := .ln (.l 0) }, { o := .bin .lss (.l 2) (.l 0) }, { o := .mv (.l 0) }, { o := .mv (.v 3), g := some (0, true) }, { o := .mv (.v 1), g := some (1, true) }, { o := .ln (.l 0), g := some (2, true) }, { o := .bin .lss (.l 2) (.l 0), g := some (3, true) }, { o := .pk (.l 4) (.l 0) (.b false) }] [] 0 .skip (.exit 0)) (.seq (.blk 1 (.ite [{ o := .mv (.v 0) }, { o := .mv (.v 3) }, { o := .ia (.l 1) (.l 0) 1 }, { o := .ld (.l 0) 1 false }, { o := .mv (.v 1) }, { o := .mv (.v 3) }, { o := .ia (.l 1) (.l 0) 1 }, { o := .ld (.l 0) 1 false }, { o := .bin .neq (.l 4) (.l 0) }] [] 0 (.seq (.reg [{ o := .mv (.v 0) }, { o := .mv (.v 3) }, { o := .ia (.l 1) (.l 0) 1 }, { o := .ld (.l 0) 1 false }, { o := .mv (.v 1) }, { o := .mv (.v 3) }, { o := .ia (.l 1) (.l 0) 1 }, { o := .ld (.l 0) 1 false }, { o := .bin .lss (.l 4) (.l 0) }, { o := .mv (.l 0), d := some 2 }] []) .ret) .skip)) (.reg [{ o := .mv (.v 3) }, { o := .bin .add (.l 0) (.i 1) }, { o := .mv (.l 0), d := some 3 }] [])))
def ref26_Less_l1 : C := .loop true [2] K.ref26_Less_l1b
def ref26_Less : Fn := { nargs := 2, vars := [0, 1, 4, 5], body := (.seq (.reg [{ o := .mv (.b false), d := some 2 }] []) (.seq (.seq (.reg [{ o := .mv (.i 0), d := some 3 }] []) (.blk 0 K.ref26_Less_l1)) (.seq (.reg [{ o := .mv (.v 0) }, { o := .ln (.l 0) }, { o := .mv (.v 1) }, { o := .ln (.l 0) }, { o := .bin .lss (.l 2) (.l 0) }, { o := .mv (.l 0), d := some 2 }] []) .ret))), res := [(2, none)] }
def ref25_Valid : Fn := { nargs := 2, vars := [0, 1, 2, 3, 4], body := (.seq (.reg [{ o := .bx (.v 0) 2, d := some 2 }, { o := .bx (.v 1) 2, d := some 3 }, { o := .mv (.b false), d := some 4 }] []) (.seq (.reg [{ o := .ld (.v 2) 2 true }, { o := .ca N.ref01_Check 0 [] [.l 0] }, { o := .bin .eql (.l 0) (.i 0) }, { o := .mv (.l 0) }, { o := .ld (.v 3) 2 true, g := some (0, true) }, { o := .fa (.v 2) 0, g := some (1, true) }, { o := .ld (.l 0) 1 false, g := some (2, true) }, { o := .ln (.l 0), g := some (3, true) }, { o := .ca N.ref25_Plain 0 [] [.l 3, .l 0], g := some (4, true) }, { o := .pk (.l 5) (.l 0) (.b false) }, { o := .mv (.l 0) }, { o := .ld (.v 2) 2 true, g := some (0, true) }, { o := .fa (.v 3) 1, g := some (1, true) }, { o := .ld (.l 0) 1 false, g := some (2, true) }, { o := .fa (.v 3) 0, g := some (3, true) }, { o := .ld (.l 0) 1 false, g := some (4, true) }, { o := .ca N.ref25_Close 0 [] [.l 4, .l 2, .l 0], g := some (5, true) }, { o := .fa (.v 3) 1, g := some (6, true) }, { o := .ld (.l 0) 1 false, g := some (7, true) }, { o := .ca N.ref23_SameInts 0 [] [.l 2, .l 0], g := some (8, true) }, { o := .pk (.l 9) (.l 0) (.b false) }, { o := .mv (.l 0), d := some 4 }] [(18, 9)]) .ret)), res := [(4, none)] }
def ref25_Copy : Fn := { nargs := 1, vars := [0, 1, 2], body := (.seq (.reg [{ o := .bx (.v 0) 2, d := some 1 }, { o := .al [.t (.int .i64 (0)), .nil] [], d := some 2 }] []) (.seq (.reg [{ o := .fa (.v 1) 0 }, { o := .ld (.l 0) 1 false }, { o := .fa (.v 1) 1 }, { o := .ld (.l 0) 1 false }, { o := .app (.c (.nil)) (.l 0) true 1 }, { o := .bd [.t (.int .i64 (0)), .nil] [(0, 1, .l 3), (1, 1, .l 0)] }, { o := .st (.v 2) (.l 0) 2 [] }] [(1, 5)]) .ret)), res := [(2, some (2, true))] }
def ref23_SameInts_l1b : C := (.seq (.ite [{ o := .mv (.v 3) }, { o := .mv (.v 0) }, { o := .ln (.l 0) }, { o := .bin .lss (.l 2) (.l 0) }] [] 0 .skip (.exit 0)) (.seq (.blk 1 (.ite [{ o := .mv (.v 0) }, { o := .mv (.v 3) }, { o := .ia (.l 1) (.l 0) 1 }, { o := .ld (.l 0) 1 false }, { o := .mv (.v 1) }, { o := .mv (.v 3) }, { o := .ia (.l 1) (.l 0) 1 }, { o := .ld (.l 0) 1 false }, { o := .bin .neq (.l 4) (.l 0) }] [] 0 (.seq (.reg [{ o := .mv (.b false), d := some 2 }] []) .ret) .skip)) (.reg [{ o := .mv (.v 3) }, { o := .bin .add (.l 0) (.i 1) }, { o := .mv (.l 0), d := some 3 }] [])))
def ref23_SameInts_l1 : C := .loop true [2] K.ref23_SameInts_l1b
def ref23_SameInts : Fn := { nargs := 2, vars := [0, 1, 4, 5], body := (.seq (.reg [{ o := .mv (.b false), d := some 2 }] []) (.seq (.ite [{ o := .mv (.v 0) }, { o := .ln (.l 0) }, { o := .mv (.v 1) }, { o := .ln (.l 0) }, { o := .bin .neq (.l 2) (.l 0) }] [] 0 (.seq (.reg [{ o := .mv (.b false), d := some 2 }] []) .ret) .skip) (.seq (.seq (.reg [{ o := .mv (.i 0), d := some 3 }] []) (.blk 0 K.ref23_SameInts_l1)) (.seq (.reg [{ o := .mv (.b true), d := some 2 }] []) .ret)))), res := [(2, none)] }
def ref25_Join_l1b : C := (.seq (.ite [{ o := .mv (.v 7) }, { o := .fa (.v 2) 1 }, { o := .ld (.l 0) 1 false }, { o := .ln (.l 0) }, { o := .bin .lss (.l 3) (.l 0) }] [] 0 .skip (.exit 0)) (.seq (.blk 1 (.reg [{ o := .fa (.v 6) 1 }, { o := .ld (.l 0) 1 false }, { o := .fa (.v 2) 1 }, { o := .ld (.l 0) 1 false }, { o := .mv (.v 7) }, { o := .ia (.l 1) (.l 0) 1 }, { o := .ld (.l 0) 1 false }, { o := .fa (.v 3) 1 }, { o := .ld (.l 0) 1 false }, { o := .mv (.v 7) }, { o := .ia (.l 1) (.l 0) 1 }, { o := .ld (.l 0) 1 false }, { o := .mn [.l 5, .l 0] }, { o := .bs [.l 0] 1 }, { o := .app (.l 12) (.l 0) true 1 }, { o := .fa (.v 6) 1 }, { o := .st (.l 0) (.l 1) 1 [] }] [(1, 14)])) (.reg [{ o := .mv (.v 7) }, { o := .bin .add (.l 0) (.i 1) }, { o := .mv (.l 0), d := some 7 }] [])))
def ref25_Join_l1 : C := .loop true [0, 1, 5] K.ref25_Join_l1b
def ref25_Join : Fn := { nargs := 2, vars := [0, 1, 2, 3, 4, 5, 6, 7], body := (.seq (.reg [{ o := .bx (.v 0) 2, d := some 2 }, { o := .bx (.v 1) 2, d := some 3 }, { o := .al [.t (.int .i64 (0)), .nil] [], d := some 4 }, { o := .mv (.i 0), d := some 5 }] []) (.seq (.ite [{ o := .fa (.v 2) 1 }, { o := .ld (.l 0) 1 false }, { o := .ln (.l 0) }, { o := .fa (.v 3) 1 }, { o := .ld (.l 0) 1 false }, { o := .ln (.l 0) }, { o := .bin .neq (.l 3) (.l 0) }] [] 0 (.seq (.reg [{ o := .bd [.t (.int .i64 (0)), .nil] [] }, { o := .st (.v 4) (.l 0) 2 [] }, { o := .mv (.i 6), d := some 5 }] []) .ret) .skip) (.seq (.reg [{ o := .fa (.v 2) 0 }, { o := .ld (.l 0) 1 false }, { o := .fa (.v 3) 0 }, { o := .ld (.l 0) 1 false }, { o := .mx [.l 2, .l 0] }, { o := .bd [.t (.int .i64 (0)), .nil] [(0, 1, .l 0)] }, { o := .al [.t (.int .i64 (0)), .nil] [(1, 1)], d := some 6 }, { o := .st (.l 0) (.l 1) 2 [(1, 1)] }] []) (.seq (.seq (.reg [{ o := .mv (.i 0), d := some 7 }] []) (.blk 0 K.ref25_Join_l1)) (.seq (.reg [{ o := .ld (.v 6) 2 true }, { o := .st (.v 4) (.l 0) 2 [] }, { o := .mv (.i 0), d := some 5 }] []) .ret))))), res := [(4, some (2, true)), (5, none)] }
def ref25_asked : Fn := { nargs := 5, vars := [0, 1, 2, 3, 4, 5, 6, 10], body := (.seq (.reg [{ o := .bx (.v 0) 2, d := some 5 }, { o := .bx (.v 1) 2, d := some 6 }, { o := .mv (.i 0), d := some 7 }] []) (.seq (.ite [{ o := .ld (.v 5) 2 true }, { o := .ld (.v 6) 2 true }, { o := .ca N.ref25_Valid 0 [] [.l 1, .l 0] }, { o := .un .not (.l 0) }, { o := .mv (.l 0) }, { o := .mv (.v 2), g := some (0, false) }, { o := .ln (.l 0), g := some (1, false) }, { o := .bin .eql (.l 0) (.i 0), g := some (2, false) }, { o := .pk (.l 3) (.b true) (.l 0) }, { o := .mv (.l 0) }, { o := .mv (.v 2), g := some (0, false) }, { o := .fa (.v 5) 0, g := some (1, false) }, { o := .ld (.l 0) 1 false, g := some (2, false) }, { o := .ln (.l 0), g := some (3, false) }, { o := .ca N.ref23_Set 0 [] [.l 3, .l 0], g := some (4, false) }, { o := .un .not (.l 0), g := some (5, false) }, { o := .pk (.l 6) (.b true) (.l 0) }] [] 0 (.seq (.reg [{ o := .mv (.i 6), d := some 7 }] []) .ret) .skip) (.seq (.ite [{ o := .mv (.v 3) }, { o := .ca N.ref25_inTime 0 [] [.l 0] }, { o := .un .not (.l 0) }, { o := .mv (.l 0) }, { o := .mv (.v 4), g := some (0, false) }, { o := .ca N.ref25_inTime 0 [] [.l 0], g := some (1, false) }, { o := .un .not (.l 0), g := some (2, false) }, { o := .pk (.l 3) (.b true) (.l 0) }, { o := .mv (.l 0) }, { o := .mv (.v 3), g := some (0, false) }, { o := .mv (.v 4), g := some (1, false) }, { o := .bin .gtr (.l 1) (.l 0), g := some (2, false) }, { o := .pk (.l 3) (.b true) (.l 0) }] [] 0 (.seq (.reg [{ o := .mv (.i 8), d := some 7 }] []) .ret) .skip) (.seq (.reg [{ o := .mv (.i 0), d := some 7 }] []) .ret)))), res := [(7, none)] }
def ref25_close_l2b : C := (.seq (.ite [{ o := .mv (.v 8) }, { o := .fa (.v 4) 1 }, { o := .ld (.l 0) 1 false }, { o := .ln (.l 0) }, { o := .bin .lss (.l 3) (.l 0) }] [] 0 .skip (.exit 2)) (.seq (.blk 3 (.seq (.reg [{ o := .fa (.v 4) 1 }, { o := .ld (.l 0) 1 false }, { o := .mv (.v 8) }, { o := .ia (.l 1) (.l 0) 10 }, { o := .ld (.l 0) 10 true }, { o := .al [.t (.int .i64 (0)), .t (.int .i64 (0)), .t (.int .i64 (0)), .t (.int .i64 (0)), .t (.bool false), .t (.bool false), .t (.int .i64 (0)), .t (.int .i64 (0)), .t (.int .i64 (0)), .t (.int .i64 (0))] [], d := some 9 }, { o := .st (.l 0) (.l 1) 10 [] }] []) (.seq (.ite [{ o := .mv (.v 3) }, { o := .eqk (.sl) false (.l 0) (.c (.nil)) }, { o := .mv (.l 0) }, { o := .mv (.v 3), g := some (0, false) }, { o := .fa (.v 9) 1, g := some (1, false) }, { o := .ld (.l 0) 1 false, g := some (2, false) }, { o := .ca N.ref23_Has 0 [] [.l 2, .l 0], g := some (3, false) }, { o := .pk (.l 4) (.b true) (.l 0) }, { o := .mv (.l 0) }, { o := .mv (.v 6), g := some (0, true) }, { o := .fa (.v 9) 0, g := some (1, true) }, { o := .ld (.l 0) 1 false, g := some (2, true) }, { o := .fa (.v 9) 1, g := some (3, true) }, { o := .ld (.l 0) 1 false, g := some (4, true) }, { o := .ld (.v 4) 2 true, g := some (5, true) }, { o := .mv (.v 8), g := some (6, true) }, { o := .ca N.ref03_Time 0 [] [.l 1, .l 0, .b false], g := some (7, true) }, { o := .mv (.v 2), g := some (8, true) }, { o := .ca N.ref25_lower 0 [0] [.l 8, .l 6, .l 4, .l 1, .l 0], g := some (9, true) }, { o := .pk (.l 10) (.l 0) (.b false) }] [(11, 17), (13, 17)] 0 (.reg [{ o := .mv (.b true), d := some 7 }] []) .skip) (.ite [{ o := .mv (.v 3) }, { o := .eqk (.sl) false (.l 0) (.c (.nil)) }, { o := .mv (.l 0) }, { o := .mv (.v 3), g := some (0, false) }, { o := .fa (.v 9) 0, g := some (1, false) }, { o := .ld (.l 0) 1 false, g := some (2, false) }, { o := .ca N.ref23_Has 0 [] [.l 2, .l 0], g := some (3, false) }, { o := .pk (.l 4) (.b true) (.l 0) }, { o := .mv (.l 0) }, { o := .mv (.v 6), g := some (0, true) }, { o := .fa (.v 9) 1, g := some (1, true) }, { o := .ld (.l 0) 1 false, g := some (2, true) }, { o := .fa (.v 9) 0, g := some (3, true) }, { o := .ld (.l 0) 1 false, g := some (4, true) }, { o := .ld (.v 4) 2 true, g := some (5, true) }, { o := .mv (.v 8), g := some (6, true) }, { o := .ca N.ref03_Time 0 [] [.l 1, .l 0, .b true], g := some (7, true) }, { o := .mv (.v 2), g := some (8, true) }, { o := .ca N.ref25_lower 0 [0] [.l 8, .l 6, .l 4, .l 1, .l 0], g := some (9, true) }, { o := .pk (.l 10) (.l 0) (.b false) }] [(11, 17), (13, 17)] 0 (.reg [{ o := .mv (.b true), d := some 7 }] []) .skip)))) (.reg [{ o := .mv (.v 8) }, { o := .bin .add (.l 0) (.i 1) }, { o := .mv (.l 0), d := some 8 }] [])))
def ref25_close_l2 : C := .loop true [0, 1, 5, 9] K.ref25_close_l2b
def ref25_close_l1b : C := (.seq (.ite [{ o := .mv (.v 7) }] [] 0 .skip (.exit 0)) (.blk 1 (.seq (.reg [{ o := .mv (.b false), d := some 7 }] []) (.seq (.reg [{ o := .mv (.i 0), d := some 8 }] []) (.blk 2 K.ref25_close_l2)))))
def ref25_close_l1 : C := .loop true [0, 1, 5, 8, 9] K.ref25_close_l1b
def ref25_close : Fn := { nargs := 4, vars := [0, 1, 2, 3, 4, 8, 9, 10, 11, 12], body := (.seq (.reg [{ o := .bx (.v 0) 2, d := some 4 }, { o := .mv (.c (.nil)), d := some 5 }] []) (.seq (.reg [{ o := .mv (.v 1) }, { o := .app (.c (.nil)) (.l 0) true 1 }, { o := .mv (.l 0), d := some 6 }] []) (.seq (.seq (.reg [{ o := .mv (.b true), d := some 7 }] []) (.blk 0 K.ref25_close_l1)) (.seq (.reg [{ o := .mv (.v 6) }, { o := .mv (.l 0), d := some 5 }] []) .ret)))), res := [(5, none)] }
def slices_IndexFunc_int_int_l1b : C := (.its  [{ o := .bin .lss (.v 5) (.v 4) }] [] 0 .skip (.exit 0) (.seq (.blk 1 (.seq (.reg [{ o := .mv (.v 5) }, { o := .mv (.l 0), d := some 3 }] []) (.ite [{ o := .mv (.v 1) }, { o := .mv (.v 0) }, { o := .mv (.v 3) }, { o := .ia (.l 1) (.l 0) 1 }, { o := .ld (.l 0) 1 false }, { o := .cw (.l 4) 0 [] [.l 0] }] [] 0 (.seq (.reg [{ o := .mv (.v 3) }, { o := .mv (.l 0), d := some 2 }] []) .ret) .skip))) (.reg [{ o := .bin .add (.v 5) (.i 1) }, { o := .mv (.l 0), d := some 5 }] [])))
def slices_IndexFunc_int_int_l1 : C := .loop true [2, 3] K.slices_IndexFunc_int_int_l1b
def slices_IndexFunc_int_int : Fn := { nargs := 2, vars := [0, 1, 4, 5, 7, 8], body := (.seq (.reg [{ o := .mv (.i 0), d := some 2 }] []) (.seq (.seq (.reg [{ o := .mv (.v 0) }, { o := .ln (.l 0), d := some 4 }, { o := .mv (.i 0), d := some 5 }] []) (.blk 0 K.slices_IndexFunc_int_int_l1)) (.seq (.reg [{ o := .mv (.i (-1)), d := some 2 }] []) .ret))), res := [(2, none)] }
def slices_Index_int_int_l1b : C := (.its  [{ o := .bin .lss (.v 5) (.v 4) }] [] 0 .skip (.exit 0) (.seq (.blk 1 (.seq (.reg [{ o := .mv (.v 5) }, { o := .mv (.l 0), d := some 3 }] []) (.ite [{ o := .mv (.v 1) }, { o := .mv (.v 0) }, { o := .mv (.v 3) }, { o := .ia (.l 1) (.l 0) 1 }, { o := .ld (.l 0) 1 false }, { o := .bin .eql (.l 4) (.l 0) }] [] 0 (.seq (.reg [{ o := .mv (.v 3) }, { o := .mv (.l 0), d := some 2 }] []) .ret) .skip))) (.reg [{ o := .bin .add (.v 5) (.i 1) }, { o := .mv (.l 0), d := some 5 }] [])))
def slices_Index_int_int_l1 : C := .loop true [2, 3] K.slices_Index_int_int_l1b
def slices_Index_int_int : Fn := { nargs := 2, vars := [0, 1, 4, 5, 7, 8], body := (.seq (.reg [{ o := .mv (.i 0), d := some 2 }] []) (.seq (.seq (.reg [{ o := .mv (.v 0) }, { o := .ln (.l 0), d := some 4 }, { o := .mv (.i 0), d := some 5 }] []) (.blk 0 K.slices_Index_int_int_l1)) (.seq (.reg [{ o := .mv (.i (-1)), d := some 2 }] []) .ret))), res := [(2, none)] }
def swaps_Possible_1 : Fn := { nargs := 4, vars := [0, 1, 2, 3, 4, 5], body := (.seq (.reg [{ o := .bx (.v 0) 1, d := some 4 }, { o := .mv (.b false), d := some 5 }] []) (.seq (.reg [{ o := .fa (.v 1) 0 }, { o := .ld (.l 0) 1 false }, { o := .mf N.swaps_Possible_1_1 [.v 2, .v 4, .v 3] }, { o := .ca N.slices_ContainsFunc_api_World_api_World 0 [] [.l 1, .l 0] }, { o := .mv (.l 0), d := some 5 }] []) .ret)), res := [(5, none)] }
def slices_ContainsFunc_api_World_api_World : Fn := { nargs := 2, vars := [0, 1, 4], body := (.seq (.reg [{ o := .mv (.b false), d := some 2 }] []) (.seq (.reg [{ o := .mv (.v 0) }, { o := .mv (.v 1) }, { o := .ca N.slices_IndexFunc_api_World_api_World 0 [] [.l 1, .l 0] }, { o := .bin .geq (.l 0) (.i 0) }, { o := .mv (.l 0), d := some 2 }] []) .ret)), res := [(2, none)] }
def swaps_Possible_1_1 : Fn := { nargs := 4, vars := [0, 1, 2, 3, 4, 5], body := (.seq (.reg [{ o := .bx (.v 0) 2, d := some 4 }, { o := .mv (.b false), d := some 5 }] []) (.seq (.reg [{ o := .ld (.v 1) 1 false }, { o := .fa (.v 4) 1 }, { o := .ld (.l 0) 1 false }, { o := .ln (.l 0) }, { o := .bin .sub (.l 0) (.i 1) }, { o := .ca N.lists_In 0 [] [.l 4, .i 0, .l 0] }, { o := .mv (.l 0) }, { o := .ld (.v 2) 1 false, g := some (0, true) }, { o := .fa (.v 4) 1, g := some (1, true) }, { o := .ld (.l 0) 1 false, g := some (2, true) }, { o := .ld (.v 1) 1 false, g := some (3, true) }, { o := .ia (.l 1) (.l 0) 2, g := some (4, true) }, { o := .fa (.l 0) 1, g := some (5, true) }, { o := .ld (.l 0) 1 false, g := some (6, true) }, { o := .ln (.l 0), g := some (7, true) }, { o := .bin .lss (.l 7) (.l 0), g := some (8, true) }, { o := .pk (.l 9) (.l 0) (.b false) }, { o := .mv (.l 0) }, { o := .fa (.v 4) 1, g := some (0, true) }, { o := .ld (.l 0) 1 false, g := some (1, true) }, { o := .ld (.v 1) 1 false, g := some (2, true) }, { o := .ia (.l 1) (.l 0) 2, g := some (3, true) }, { o := .fa (.l 0) 1, g := some (4, true) }, { o := .ld (.l 0) 1 false, g := some (5, true) }, { o := .ld (.v 2) 1 false, g := some (6, true) }, { o := .ia (.l 1) (.l 0) 1, g := some (7, true) }, { o := .ld (.l 0) 1 false, g := some (8, true) }, { o := .ld (.v 3) 1 false, g := some (9, true) }, { o := .bin .leq (.l 1) (.l 0), g := some (10, true) }, { o := .pk (.l 11) (.l 0) (.b false) }, { o := .mv (.l 0), d := some 5 }] []) .ret)), res := [(5, none)] }
def lists_In : Fn := { nargs := 3, vars := [0, 1, 2, 6], body := (.seq (.reg [{ o := .mv (.b false), d := some 3 }] []) (.seq (.reg [{ o := .mv (.v 0) }, { o := .mv (.v 1) }, { o := .bin .geq (.l 1) (.l 0) }, { o := .mv (.l 0) }, { o := .mv (.v 0), g := some (0, true) }, { o := .mv (.v 2), g := some (1, true) }, { o := .bin .leq (.l 1) (.l 0), g := some (2, true) }, { o := .pk (.l 3) (.l 0) (.b false) }, { o := .mv (.l 0), d := some 3 }] []) .ret)), res := [(3, none)] }
def ref25_Plain_l1b : C := (.seq (.ite [{ o := .mv (.v 4) }, { o := .fa (.v 2) 1 }, { o := .ld (.l 0) 1 false }, { o := .ln (.l 0) }, { o := .bin .lss (.l 3) (.l 0) }] [] 0 .skip (.exit 0)) (.seq (.blk 1 (.ite [{ o := .fa (.v 2) 1 }, { o := .ld (.l 0) 1 false }, { o := .mv (.v 4) }, { o := .ia (.l 1) (.l 0) 1 }, { o := .ld (.l 0) 1 false }, { o := .bin .neq (.l 0) (.i 1099511627776) }, { o := .mv (.l 0) }, { o := .fa (.v 2) 1, g := some (0, true) }, { o := .ld (.l 0) 1 false, g := some (1, true) }, { o := .mv (.v 4), g := some (2, true) }, { o := .ia (.l 1) (.l 0) 1, g := some (3, true) }, { o := .ld (.l 0) 1 false, g := some (4, true) }, { o := .bin .lss (.l 0) (.i 0), g := some (5, true) }, { o := .mv (.l 0), g := some (6, true) }, { o := .fa (.v 2) 1, g := some (0, false) }, { o := .ld (.l 0) 1 false, g := some (1, false) }, { o := .mv (.v 4), g := some (2, false) }, { o := .ia (.l 1) (.l 0) 1, g := some (3, false) }, { o := .ld (.l 0) 1 false, g := some (4, false) }, { o := .bin .gtr (.l 0) (.i 2147483648), g := some (5, false) }, { o := .pk (.l 6) (.b true) (.l 0), g := some (13, true) }, { o := .pk (.l 14) (.l 0) (.b false) }] [] 0 (.seq (.reg [{ o := .mv (.b false), d := some 3 }] []) .ret) .skip)) (.reg [{ o := .mv (.v 4) }, { o := .bin .add (.l 0) (.i 1) }, { o := .mv (.l 0), d := some 4 }] [])))
def ref25_Plain_l1 : C := .loop true [0, 1, 3] K.ref25_Plain_l1b
def ref25_Plain : Fn := { nargs := 2, vars := [0, 1, 2, 4, 5], body := (.seq (.reg [{ o := .bx (.v 0) 2, d := some 2 }, { o := .mv (.b false), d := some 3 }] []) (.seq (.ite [{ o := .fa (.v 2) 1 }, { o := .ld (.l 0) 1 false }, { o := .ln (.l 0) }, { o := .mv (.v 1) }, { o := .bin .neq (.l 1) (.l 0) }, { o := .mv (.l 0) }, { o := .fa (.v 2) 0, g := some (0, false) }, { o := .ld (.l 0) 1 false, g := some (1, false) }, { o := .bin .lss (.l 0) (.i 0), g := some (2, false) }, { o := .pk (.l 3) (.b true) (.l 0) }, { o := .mv (.l 0) }, { o := .fa (.v 2) 0, g := some (0, false) }, { o := .ld (.l 0) 1 false, g := some (1, false) }, { o := .bin .gtr (.l 0) (.i 2147483648), g := some (2, false) }, { o := .pk (.l 3) (.b true) (.l 0) }] [] 0 (.seq (.reg [{ o := .mv (.b false), d := some 3 }] []) .ret) .skip) (.seq (.seq (.reg [{ o := .mv (.i 0), d := some 4 }] []) (.blk 0 K.ref25_Plain_l1)) (.seq (.reg [{ o := .mv (.b true), d := some 3 }] []) .ret)))), res := [(3, none)] }
def ref25_lower : Fn := { nargs := 5, vars := [0, 1, 2, 3, 4, 10, 11], body := (.seq (.reg [{ o := .mv (.b false), d := some 5 }] []) (.seq (.ite [{ o := .mv (.v 3) }, { o := .bin .lss (.l 0) (.i 0) }, { o := .mv (.l 0) }, { o := .mv (.v 0), g := some (0, false) }, { o := .mv (.v 1), g := some (1, false) }, { o := .ia (.l 1) (.l 0) 1, g := some (2, false) }, { o := .ld (.l 0) 1 false, g := some (3, false) }, { o := .bin .geq (.l 0) (.i 1099511627776), g := some (4, false) }, { o := .pk (.l 5) (.b true) (.l 0) }] [] 0 (.seq (.reg [{ o := .mv (.b false), d := some 5 }] []) .ret) .skip) (.seq (.reg [{ o := .mv (.v 4) }, { o := .mv (.v 0) }, { o := .mv (.v 1) }, { o := .ia (.l 1) (.l 0) 1 }, { o := .ld (.l 0) 1 false }, { o := .mv (.v 3) }, { o := .bin .add (.l 1) (.l 0) }, { o := .mx [.l 6, .l 0] }, { o := .mv (.l 0), d := some 6 }] []) (.seq (.ite [{ o := .mv (.v 6) }, { o := .bin .gtr (.l 0) (.i 2147483648) }, { o := .mv (.l 0) }, { o := .mv (.v 6), g := some (0, false) }, { o := .mv (.v 0), g := some (1, false) }, { o := .mv (.v 2), g := some (2, false) }, { o := .ia (.l 1) (.l 0) 1, g := some (3, false) }, { o := .ld (.l 0) 1 false, g := some (4, false) }, { o := .bin .geq (.l 4) (.l 0), g := some (5, false) }, { o := .pk (.l 6) (.b true) (.l 0) }] [] 0 (.seq (.reg [{ o := .mv (.b false), d := some 5 }] []) .ret) .skip) (.seq (.reg [{ o := .mv (.v 0) }, { o := .mv (.v 2) }, { o := .mv (.v 6) }, { o := .ia (.l 2) (.l 1) 1 }, { o := .st (.l 0) (.l 1) 1 [] }] []) (.seq (.reg [{ o := .mv (.b true), d := some 5 }] []) .ret)))))), res := [(5, none)] }
def ref03_Time : Fn := { nargs := 3, vars := [0, 1, 2, 3, 6], body := (.seq (.reg [{ o := .bx (.v 0) 2, d := some 3 }, { o := .mv (.i 0), d := some 4 }] []) (.seq (.reg [{ o := .ld (.v 3) 2 true }, { o := .mv (.v 1) }, { o := .mv (.v 2) }, { o := .ca N.ref03_walked 0 [] [.l 2, .l 1, .l 0, .i 6, .i 9, .i 12] }, { o := .mv (.l 0), d := some 4 }] []) .ret)), res := [(4, none)] }
def slices_IndexFunc_api_World_api_World_l1b : C := (.its  [{ o := .bin .lss (.v 5) (.v 4) }] [] 0 .skip (.exit 0) (.seq (.blk 1 (.seq (.reg [{ o := .mv (.v 5) }, { o := .mv (.l 0), d := some 3 }] []) (.ite [{ o := .mv (.v 1) }, { o := .mv (.v 0) }, { o := .mv (.v 3) }, { o := .ia (.l 1) (.l 0) 2 }, { o := .ld (.l 0) 2 true }, { o := .cw (.l 4) 0 [] [.l 0] }] [] 0 (.seq (.reg [{ o := .mv (.v 3) }, { o := .mv (.l 0), d := some 2 }] []) .ret) .skip))) (.reg [{ o := .bin .add (.v 5) (.i 1) }, { o := .mv (.l 0), d := some 5 }] [])))
def slices_IndexFunc_api_World_api_World_l1 : C := .loop true [2, 3] K.slices_IndexFunc_api_World_api_World_l1b
def slices_IndexFunc_api_World_api_World : Fn := { nargs := 2, vars := [0, 1, 4, 5, 7, 8], body := (.seq (.reg [{ o := .mv (.i 0), d := some 2 }] []) (.seq (.seq (.reg [{ o := .mv (.v 0) }, { o := .ln (.l 0), d := some 4 }, { o := .mv (.i 0), d := some 5 }] []) (.blk 0 K.slices_IndexFunc_api_World_api_World_l1)) (.seq (.reg [{ o := .mv (.i (-1)), d := some 2 }] []) .ret))), res := [(2, none)] }
def ref03_walked : Fn := { nargs := 6, vars := [0, 1, 2, 3, 4, 5, 6, 12, 13, 14, 15, 16, 17], body := (.seq (.reg [{ o := .bx (.v 0) 2, d := some 6 }, { o := .mv (.i 0), d := some 7 }] []) (.seq (.ite [{ o := .ld (.v 6) 2 true }, { o := .ca N.ref01_Check 0 [] [.l 0] }, { o := .bin .neq (.l 0) (.i 0) }, { o := .mv (.l 0) }, { o := .mv (.v 1), g := some (0, false) }, { o := .bin .lss (.l 0) (.i 0), g := some (1, false) }, { o := .pk (.l 2) (.b true) (.l 0) }, { o := .mv (.l 0) }, { o := .mv (.v 1), g := some (0, false) }, { o := .fa (.v 6) 1, g := some (1, false) }, { o := .ld (.l 0) 1 false, g := some (2, false) }, { o := .ln (.l 0), g := some (3, false) }, { o := .bin .geq (.l 3) (.l 0), g := some (4, false) }, { o := .pk (.l 5) (.b true) (.l 0) }, { o := .mv (.l 0) }, { o := .fa (.v 6) 1, g := some (0, false) }, { o := .ld (.l 0) 1 false, g := some (1, false) }, { o := .mv (.v 1), g := some (2, false) }, { o := .ia (.l 1) (.l 0) 10, g := some (3, false) }, { o := .fa (.l 0) 5, g := some (4, false) }, { o := .ld (.l 0) 1 false, g := some (5, false) }, { o := .pk (.l 6) (.b true) (.l 0) }, { o := .mv (.l 0) }, { o := .fa (.v 6) 1, g := some (0, false) }, { o := .ld (.l 0) 1 false, g := some (1, false) }, { o := .mv (.v 1), g := some (2, false) }, { o := .ia (.l 1) (.l 0) 10, g := some (3, false) }, { o := .fa (.l 0) 4, g := some (4, false) }, { o := .ld (.l 0) 1 false, g := some (5, false) }, { o := .un .not (.l 0), g := some (6, false) }, { o := .pk (.l 7) (.b true) (.l 0) }] [] 0 (.seq (.reg [{ o := .mv (.i (-1)), d := some 7 }] []) .ret) .skip) (.seq (.reg [{ o := .fa (.v 6) 1 }, { o := .ld (.l 0) 1 false }, { o := .mv (.v 1) }, { o := .ia (.l 1) (.l 0) 10 }, { o := .ld (.l 0) 10 true }, { o := .al [.t (.int .i64 (0)), .t (.int .i64 (0)), .t (.int .i64 (0)), .t (.int .i64 (0)), .t (.bool false), .t (.bool false), .t (.int .i64 (0)), .t (.int .i64 (0)), .t (.int .i64 (0)), .t (.int .i64 (0))] [], d := some 8 }, { o := .st (.l 0) (.l 1) 10 [] }] []) (.seq (.reg [{ o := .ld (.v 8) 10 true }, { o := .mv (.v 2) }, { o := .ca N.ref03_ends 0 [] [.l 1, .l 0] }, { o := .mv (.l 0) }, { o := .ex (.l 0) 0 }, { o := .ex (.l 1) 1 }, { o := .mv (.l 1), d := some 9 }, { o := .mv (.l 1), d := some 10 }] []) (.seq (.reg [{ o := .fa (.v 6) 0 }, { o := .ld (.l 0) 1 false }, { o := .mv (.v 10) }, { o := .ia (.l 1) (.l 0) 2 }, { o := .fa (.l 0) 0 }, { o := .ld (.l 0) 1 false }, { o := .fa (.v 6) 0 }, { o := .ld (.l 0) 1 false }, { o := .mv (.v 9) }, { o := .ia (.l 1) (.l 0) 2 }, { o := .fa (.l 0) 0 }, { o := .ld (.l 0) 1 false }, { o := .bin .sub (.l 6) (.l 0) }, { o := .mv (.l 0), d := some 11 }] []) (.seq (.reg [{ o := .mv (.v 5) }, { o := .mv (.l 0), d := some 12 }] []) (.seq (.ite [{ o := .mv (.v 11) }, { o := .bin .mul (.i 10) (.l 0) }, { o := .fa (.v 8) 2 }, { o := .ld (.l 0) 1 false }, { o := .bin .gtr (.l 2) (.l 0) }] [] 0 (.reg [{ o := .mv (.v 3) }, { o := .mv (.l 0), d := some 12 }] []) .skip) (.seq (.ite [{ o := .mv (.v 11) }, { o := .bin .mul (.i (-10)) (.l 0) }, { o := .fa (.v 8) 2 }, { o := .ld (.l 0) 1 false }, { o := .bin .gtr (.l 2) (.l 0) }] [] 0 (.reg [{ o := .mv (.v 4) }, { o := .mv (.l 0), d := some 12 }] []) .skip) (.seq (.reg [{ o := .fa (.v 8) 2 }, { o := .ld (.l 0) 1 false }, { o := .bin .mul (.i 10) (.l 0) }, { o := .mv (.v 12) }, { o := .bin .add (.l 1) (.l 0) }, { o := .bin .sub (.l 0) (.i 1) }, { o := .mv (.v 12) }, { o := .bin .quo (.l 1) (.l 0) }, { o := .mv (.l 0), d := some 7 }] []) .ret))))))))), res := [(7, none)] }
def ref03_ends : Fn := { nargs := 2, vars := [0, 1, 2, 4, 5], body := (.seq (.reg [{ o := .bx (.v 0) 10, d := some 2 }, { o := .mv (.i 0), d := some 3 }, { o := .mv (.i 0), d := some 4 }] []) (.seq (.ite [{ o := .mv (.v 1) }] [] 0 (.seq (.reg [{ o := .fa (.v 2) 1 }, { o := .ld (.l 0) 1 false }, { o := .fa (.v 2) 0 }, { o := .ld (.l 0) 1 false }, { o := .mv (.l 2), d := some 3 }, { o := .mv (.l 1), d := some 4 }] []) .ret) .skip) (.seq (.reg [{ o := .fa (.v 2) 0 }, { o := .ld (.l 0) 1 false }, { o := .fa (.v 2) 1 }, { o := .ld (.l 0) 1 false }, { o := .mv (.l 2), d := some 3 }, { o := .mv (.l 1), d := some 4 }] []) .ret))), res := [(3, none), (4, none)] }
end Go.Ev.K
namespace Go.Ev
class Has2 [Lib] : Prop where
  t_ref26_Copy : Lib.fs N.ref26_Copy = some K.ref26_Copy
  t_ref26_Valid : Lib.fs N.ref26_Valid = some K.ref26_Valid
  t_ref26_CopyWorld : Lib.fs N.ref26_CopyWorld = some K.ref26_CopyWorld
  t_ref26_meet : Lib.fs N.ref26_meet = some K.ref26_meet
  t_ref25_Raise : Lib.fs N.ref25_Raise = some K.ref25_Raise
  t_ref26_Tidy : Lib.fs N.ref26_Tidy = some K.ref26_Tidy
  t_ref26_borne : Lib.fs N.ref26_borne = some K.ref26_borne
  t_ref26_bearer : Lib.fs N.ref26_bearer = some K.ref26_bearer
  t_ref25_See : Lib.fs N.ref25_See = some K.ref25_See
  t_ref25_Absent : Lib.fs N.ref25_Absent = some K.ref25_Absent
  t_lists_Where : Lib.fs N.lists_Where = some K.lists_Where
  t_smoke_Filled_1 : Lib.fs N.smoke_Filled_1 = some K.smoke_Filled_1
  t_slices_ContainsFunc_int_int : Lib.fs N.slices_ContainsFunc_int_int = some K.slices_ContainsFunc_int_int
  t_firerules_meets_1 : Lib.fs N.firerules_meets_1 = some K.firerules_meets_1
  t_slices_Contains_int_int : Lib.fs N.slices_Contains_int_int = some K.slices_Contains_int_int
  t_firerules_near_1 : Lib.fs N.firerules_near_1 = some K.firerules_near_1
  t_swaps_Possible : Lib.fs N.swaps_Possible = some K.swaps_Possible
  t_ref01_Span : Lib.fs N.ref01_Span = some K.ref01_Span
  t_ref28_Span : Lib.fs N.ref28_Span = some K.ref28_Span
  t_ref25_inTime : Lib.fs N.ref25_inTime = some K.ref25_inTime
  t_ref25_never : Lib.fs N.ref25_never = some K.ref25_never
  t_ref25_Close : Lib.fs N.ref25_Close = some K.ref25_Close
  t_ref26_Less : Lib.fs N.ref26_Less = some K.ref26_Less
  t_ref25_Valid : Lib.fs N.ref25_Valid = some K.ref25_Valid
  t_ref25_Copy : Lib.fs N.ref25_Copy = some K.ref25_Copy
  t_ref23_SameInts : Lib.fs N.ref23_SameInts = some K.ref23_SameInts
  t_ref25_Join : Lib.fs N.ref25_Join = some K.ref25_Join
  t_ref25_asked : Lib.fs N.ref25_asked = some K.ref25_asked
  t_ref25_close : Lib.fs N.ref25_close = some K.ref25_close
  t_slices_IndexFunc_int_int : Lib.fs N.slices_IndexFunc_int_int = some K.slices_IndexFunc_int_int
  t_slices_Index_int_int : Lib.fs N.slices_Index_int_int = some K.slices_Index_int_int
  t_swaps_Possible_1 : Lib.fs N.swaps_Possible_1 = some K.swaps_Possible_1
  t_slices_ContainsFunc_api_World_api_World : Lib.fs N.slices_ContainsFunc_api_World_api_World = some K.slices_ContainsFunc_api_World_api_World
  t_swaps_Possible_1_1 : Lib.fs N.swaps_Possible_1_1 = some K.swaps_Possible_1_1
  t_lists_In : Lib.fs N.lists_In = some K.lists_In
  t_ref25_Plain : Lib.fs N.ref25_Plain = some K.ref25_Plain
  t_ref25_lower : Lib.fs N.ref25_lower = some K.ref25_lower
  t_ref03_Time : Lib.fs N.ref03_Time = some K.ref03_Time
  t_slices_IndexFunc_api_World_api_World : Lib.fs N.slices_IndexFunc_api_World_api_World = some K.slices_IndexFunc_api_World_api_World
  t_ref03_walked : Lib.fs N.ref03_walked = some K.ref03_walked
  t_ref03_ends : Lib.fs N.ref03_ends = some K.ref03_ends
namespace K
variable [Lib] [Has2]
theorem t_ref26_Copy : Lib.fs N.ref26_Copy = some K.ref26_Copy := Has2.t_ref26_Copy
theorem t_ref26_Valid : Lib.fs N.ref26_Valid = some K.ref26_Valid := Has2.t_ref26_Valid
theorem t_ref26_CopyWorld : Lib.fs N.ref26_CopyWorld = some K.ref26_CopyWorld := Has2.t_ref26_CopyWorld
theorem t_ref26_meet : Lib.fs N.ref26_meet = some K.ref26_meet := Has2.t_ref26_meet
theorem t_ref25_Raise : Lib.fs N.ref25_Raise = some K.ref25_Raise := Has2.t_ref25_Raise
theorem t_ref26_Tidy : Lib.fs N.ref26_Tidy = some K.ref26_Tidy := Has2.t_ref26_Tidy
theorem t_ref26_borne : Lib.fs N.ref26_borne = some K.ref26_borne := Has2.t_ref26_borne
theorem t_ref26_bearer : Lib.fs N.ref26_bearer = some K.ref26_bearer := Has2.t_ref26_bearer
theorem t_ref25_See : Lib.fs N.ref25_See = some K.ref25_See := Has2.t_ref25_See
theorem t_ref25_Absent : Lib.fs N.ref25_Absent = some K.ref25_Absent := Has2.t_ref25_Absent
theorem t_lists_Where : Lib.fs N.lists_Where = some K.lists_Where := Has2.t_lists_Where
theorem t_smoke_Filled_1 : Lib.fs N.smoke_Filled_1 = some K.smoke_Filled_1 := Has2.t_smoke_Filled_1
theorem t_slices_ContainsFunc_int_int : Lib.fs N.slices_ContainsFunc_int_int = some K.slices_ContainsFunc_int_int := Has2.t_slices_ContainsFunc_int_int
theorem t_firerules_meets_1 : Lib.fs N.firerules_meets_1 = some K.firerules_meets_1 := Has2.t_firerules_meets_1
theorem t_slices_Contains_int_int : Lib.fs N.slices_Contains_int_int = some K.slices_Contains_int_int := Has2.t_slices_Contains_int_int
theorem t_firerules_near_1 : Lib.fs N.firerules_near_1 = some K.firerules_near_1 := Has2.t_firerules_near_1
theorem t_swaps_Possible : Lib.fs N.swaps_Possible = some K.swaps_Possible := Has2.t_swaps_Possible
theorem t_ref01_Span : Lib.fs N.ref01_Span = some K.ref01_Span := Has2.t_ref01_Span
theorem t_ref28_Span : Lib.fs N.ref28_Span = some K.ref28_Span := Has2.t_ref28_Span
theorem t_ref25_inTime : Lib.fs N.ref25_inTime = some K.ref25_inTime := Has2.t_ref25_inTime
theorem t_ref25_never : Lib.fs N.ref25_never = some K.ref25_never := Has2.t_ref25_never
theorem t_ref25_Close : Lib.fs N.ref25_Close = some K.ref25_Close := Has2.t_ref25_Close
theorem t_ref26_Less : Lib.fs N.ref26_Less = some K.ref26_Less := Has2.t_ref26_Less
theorem t_ref25_Valid : Lib.fs N.ref25_Valid = some K.ref25_Valid := Has2.t_ref25_Valid
theorem t_ref25_Copy : Lib.fs N.ref25_Copy = some K.ref25_Copy := Has2.t_ref25_Copy
theorem t_ref23_SameInts : Lib.fs N.ref23_SameInts = some K.ref23_SameInts := Has2.t_ref23_SameInts
theorem t_ref25_Join : Lib.fs N.ref25_Join = some K.ref25_Join := Has2.t_ref25_Join
theorem t_ref25_asked : Lib.fs N.ref25_asked = some K.ref25_asked := Has2.t_ref25_asked
theorem t_ref25_close : Lib.fs N.ref25_close = some K.ref25_close := Has2.t_ref25_close
theorem t_slices_IndexFunc_int_int : Lib.fs N.slices_IndexFunc_int_int = some K.slices_IndexFunc_int_int := Has2.t_slices_IndexFunc_int_int
theorem t_slices_Index_int_int : Lib.fs N.slices_Index_int_int = some K.slices_Index_int_int := Has2.t_slices_Index_int_int
theorem t_swaps_Possible_1 : Lib.fs N.swaps_Possible_1 = some K.swaps_Possible_1 := Has2.t_swaps_Possible_1
theorem t_slices_ContainsFunc_api_World_api_World : Lib.fs N.slices_ContainsFunc_api_World_api_World = some K.slices_ContainsFunc_api_World_api_World := Has2.t_slices_ContainsFunc_api_World_api_World
theorem t_swaps_Possible_1_1 : Lib.fs N.swaps_Possible_1_1 = some K.swaps_Possible_1_1 := Has2.t_swaps_Possible_1_1
theorem t_lists_In : Lib.fs N.lists_In = some K.lists_In := Has2.t_lists_In
theorem t_ref25_Plain : Lib.fs N.ref25_Plain = some K.ref25_Plain := Has2.t_ref25_Plain
theorem t_ref25_lower : Lib.fs N.ref25_lower = some K.ref25_lower := Has2.t_ref25_lower
theorem t_ref03_Time : Lib.fs N.ref03_Time = some K.ref03_Time := Has2.t_ref03_Time
theorem t_slices_IndexFunc_api_World_api_World : Lib.fs N.slices_IndexFunc_api_World_api_World = some K.slices_IndexFunc_api_World_api_World := Has2.t_slices_IndexFunc_api_World_api_World
theorem t_ref03_walked : Lib.fs N.ref03_walked = some K.ref03_walked := Has2.t_ref03_walked
theorem t_ref03_ends : Lib.fs N.ref03_ends = some K.ref03_ends := Has2.t_ref03_ends
end K
end Go.Ev

namespace Go.Ev
open Go
variable [Lib]
noncomputable def CALL : Oracle := callL Lib.fs
theorem CALL_of {raw f : Nat} {args : List D} {H : Heap} {fn : Fn} {r : D × Heap} (hf : Lib.fs f = some fn) (hn : fn.nargs = args.length)
    (h : (exS CALL fn.body ⟨initVs args fn.vars, H⟩).bind (endR fn.res H.length raw) = some r) (h0 : fn.prim = [] := by rfl) : CALL raw f args H = some r := call_of hf hn h h0
theorem CALL_prim {raw f : Nat} {args : List D} {H : Heap} {fn : Fn} {r : D × Heap} (hf : Lib.fs f = some fn) (h0 : fn.prim ≠ []) (h : primF fn.prim args H = some r) : CALL raw f args H = some r := callL_prim hf h0 h
theorem loop_up {gc : Bool} {dead : List Nat} {c : C} {vs : List D} {H : Heap} (s : Nat → St) (n : Nat) {e : Ex} {st : St}
    (h0 : (⟨dropV dead vs, H⟩ : St) = s 0) (h : ∀ j, j < n → roundC gc dead (s j).H.length (exS CALL c (s j)) = some (s (j + 1)))
    (he : exS CALL c (s n) = some (e, st)) (hn : e ≠ .normal) : exS CALL (.loop gc dead c) ⟨vs, H⟩ = some (e, st) := by
  show loopC gc dead (exS CALL c) ⟨dropV dead vs, H⟩ = _
  rw [h0]
  exact loopC_up s n h (loopC_exit he hn)
theorem loop_is {gc : Bool} {dead : List Nat} {c : C} {vs : List D} {H : Heap} {p : Ex × St} (h : loopC gc dead (exS CALL c) ⟨dropV dead vs, H⟩ = some p) : exS CALL (.loop gc dead c) ⟨vs, H⟩ = some p := h
class Dat (α : Type) where
  dflt : α
instance : Dat Int := ⟨0⟩
instance : Dat Nat := ⟨0⟩
instance : Dat Bool := ⟨false⟩
instance {α : Type} : Dat (List α) := ⟨[]⟩
def nth {α : Type} [Dat α] (l : List α) (j : Nat) : α := l.getD j Dat.dflt
theorem nth_some {α : Type} [Dat α] {l : List α} {j : Nat} (h : j < l.length) : l[j]? = some (nth l j) := by simp [nth, h]
theorem map_nth {α β : Type} [Dat α] (f : α → β) {l : List α} {j : Nat} (h : j < l.length) : (l.map f)[j]? = some (f (nth l j)) := by rw [List.getElem?_map, nth_some h]; rfl
theorem map2_nth {α β γ : Type} [Dat α] (f : β → γ) (g : α → β) {l : List α} {j : Nat} (h : j < l.length) : ((l.map g).map f)[j]? = some (f (g (nth l j))) := by rw [List.getElem?_map, map_nth g h]; rfl
theorem nth_mem {α : Type} [Dat α] {l : List α} {j : Nat} (h : j < l.length) : nth l j ∈ l := List.mem_of_getElem? (nth_some h)
theorem nth_eq {α : Type} [Dat α] {l : List α} {j : Nat} {x : α} (h : l[j]? = some x) : nth l j = x := by simp [nth, h]
theorem take_nth {α : Type} [Dat α] {l : List α} {j : Nat} (h : j < l.length) : l.take (j + 1) = l.take j ++ [nth l j] := by
  rw [List.take_succ_eq_append_getElem h]; simp [nth, h]
theorem ltI_t {a b : Int} (h : a < b) : (a < b) = True := by simp [h]
theorem ltI_f {a b : Int} (h : b ≤ a) : (a < b) = False := by simp [Int.not_lt.2 h]
theorem leI_t {a b : Int} (h : a ≤ b) : (a ≤ b) = True := by simp [h]
theorem leI_f {a b : Int} (h : b < a) : (a ≤ b) = False := by simp [Int.not_le.2 h]
theorem eqI_t {a b : Int} (h : a = b) : (a = b) = True := by simp [h]
theorem eqI_f {a b : Int} (h : a ≠ b) : (a = b) = False := by simp [h]
theorem ltN_t {a b : Nat} (h : a < b) : (a < b) = True := by simp [h]
theorem ltN_f {a b : Nat} (h : b ≤ a) : (a < b) = False := by simp [Nat.not_lt.2 h]
theorem leN_t {a b : Nat} (h : a ≤ b) : (a ≤ b) = True := by simp [h]
theorem leN_f {a b : Nat} (h : b < a) : (a ≤ b) = False := by simp [Nat.not_le.2 h]
theorem eqN_t {a b : Nat} (h : a = b) : (a = b) = True := by simp [h]
theorem eqN_f {a b : Nat} (h : a ≠ b) : (a = b) = False := by simp [h]
attribute [go_sem] eqN_t eqN_f ltI_t ltI_f leI_t leI_f eqI_t eqI_f ltN_t ltN_f leN_t leN_f wrap_id map_nth map2_nth idx_pos
@[go_sem] theorem q_cast_add (a b : Nat) : ((a + b : Nat) : Int) = (a : Int) + (b : Int) := (rfl)
@[go_sem] theorem q_cast_one : ((1 : Nat) : Int) = 1 := (rfl)
@[go_sem] theorem q_cast_zero : ((0 : Nat) : Int) = 0 := (rfl)
@[go_sem] theorem q_add_sub (a b : Int) : a + b - b = a := Int.add_sub_cancel a b
@[go_sem] theorem q_toNat_zero : (0 : Int).toNat = 0 := (rfl)
@[go_sem] theorem q_toNat_nat (n : Nat) : (n : Int).toNat = n := (rfl)
@[go_sem] theorem q_toNat_one (n : Nat) : ((n : Int) + 1).toNat = n + 1 := (rfl)
@[go_sem] theorem q_izero_add (a : Int) : 0 + a = a := Int.zero_add a
@[go_sem] theorem q_iadd_zero (a : Int) : a + 0 = a := Int.add_zero a
@[go_sem] theorem q_isub_zero (a : Int) : a - 0 = a := Int.sub_zero a
abbrev tI (n : Int) : T := .int .i64 n
abbrev tL (l : List Int) : T := .sl (l.map (.int .i64))
@[go_sem] theorem mapO_frz_snoc (H : Heap) (n : Nat) (ts : List T) (x : T) : mapO (frz H n) (ts.map .t ++ [.t x]) = some (ts ++ [x]) := by
  have : ts.map D.t ++ [.t x] = (ts ++ [x]).map .t := by simp
  rw [this, mapO_frz_t]
@[go_sem] theorem q_map_append {α β : Type} (f : α → β) (a b : List α) : (a ++ b).map f = a.map f ++ b.map f := List.map_append
end Go.Ev

namespace Go.Ev
open Go
variable [Lib] [Has1] [Has2]
def Mod (n m : Int) : Int := if m < 1 then 0 else if n.tmod m < 0 then n.tmod m + m else n.tmod m
theorem Mod_lo (n m : Int) : 0 ≤ Mod n m := by
  unfold Mod
  split
  · omega
  · have h5 := Int.lt_tmod_of_pos n (b := m) (by omega)
    split <;> omega
theorem Mod_hi (n m : Int) (h : 1 ≤ m) : Mod n m < m := by
  unfold Mod
  rw [if_neg (by omega)]
  have h3 := Int.tmod_lt_of_pos n (b := m) (by omega)
  split <;> omega
theorem mod_ok (n m : Int) (hm : m ≤ 4611686018427387904) : CALL 0 N.made_Mod [I n, I m] [] = some (I (Mod n m), []) := by
  refine CALL_of K.t_made_Mod rfl ?_
  unfold Mod
  by_cases h1 : m < 1
  · simp only [go_sem, K.made_Mod, h1, ↓reduceIte]
  · have h2 : m ≠ 0 := by omega
    have h3 := Int.tmod_lt_of_pos n (b := m) (by omega)
    have h5 := Int.lt_tmod_of_pos n (b := m) (by omega)
    by_cases h4 : n.tmod m < 0
    · simp (disch := omega) only [go_sem, K.made_Mod, h1, ↓reduceIte, h2, h4]
    · simp (disch := omega) only [go_sem, K.made_Mod, h1, ↓reduceIte, h2, h4]
theorem light_ok (l : List Int) : CALL 0 N.made_Light [.t (tL l)] [] = some (B (decide (l.length ≤ 400)), []) := by
  refine CALL_of K.t_made_Light rfl ?_
  simp (disch := omega) only [go_sem, K.made_Light, ↓reduceIte]
  simp only [show ((l.length : Int) ≤ 400) = (l.length ≤ 400) by rw [eq_iff_iff]; omega]
structure Dice where
  L : List Int
  at_ : Nat
def Dice.obj (d : Dice) : Obj := .box [.t (tL d.L), I d.at_]
def Dice.light (d : Dice) : Prop := d.L.length ≤ 400
def Dice.next (d : Dice) (n : Int) : Int × Dice := if d.at_ < d.L.length then (Mod (nth d.L d.at_) n, ⟨d.L, d.at_ + 1⟩) else (0, d)
theorem Dice.next_L (d : Dice) (n : Int) : (d.next n).2.L = d.L := by unfold Dice.next; split <;> rfl
theorem Dice.next_light {d : Dice} (h : d.light) (n : Int) : (d.next n).2.light := by unfold Dice.light; rw [d.next_L]; exact h
theorem Dice.next_lo (d : Dice) (n : Int) : 0 ≤ (d.next n).1 := by unfold Dice.next; split <;> simp [Mod_lo]
theorem Dice.next_hi (d : Dice) {n : Int} (h : 1 ≤ n) : (d.next n).1 < n := by unfold Dice.next; split <;> simp [Mod_hi _ _ h]; omega
theorem next_ok (d : Dice) (n : Int) (hn : n ≤ 4611686018427387904) (hd : d.light) : CALL 0 N.made_Dice_Next [.bp 0 0, I n] [d.obj] = some (I (d.next n).1, [(d.next n).2.obj]) := by
  refine CALL_of K.t_made_Dice_Next rfl ?_
  have hm := mod_ok (nth d.L d.at_) n hn
  unfold Dice.light at hd
  unfold Dice.next Dice.obj
  by_cases h1 : d.at_ < d.L.length
  · simp (disch := omega) only [go_sem, K.made_Dice_Next, ↓reduceIte, ↓if_pos, ↓if_neg, Int.add_sub_cancel, hm, Int.natCast_add]
  · simp (disch := omega) only [go_sem, K.made_Dice_Next, ↓reduceIte, ↓if_pos, ↓if_neg]
@[go_sem] theorem ids_dice (d : Dice) : idsObj (some d.obj) = [] := by simp only [Dice.obj, go_sem]
@[go_sem] theorem ren_dice (f : Nat → Option Nat) (d : Dice) : renObj f d.obj = some d.obj := by simp only [Dice.obj, go_sem]
@[go_sem] theorem old_dice (k : Nat) (d : Dice) (r : Heap) : heapOld k (d.obj :: r) = heapOld k r := by simp only [Dice.obj, go_sem]
def Dice.one (d : Dice) (n : Int) : Bool × Dice := (decide ((d.next n).1 = n - 1), (d.next n).2)
theorem Dice.one_light {d : Dice} (h : d.light) (n : Int) : (d.one n).2.light := Dice.next_light h n
theorem one_ok (d : Dice) (n : Int) (h1 : 0 ≤ n) (hn : n ≤ 4611686018427387904) (hd : d.light) : CALL 0 N.made_Dice_One [.bp 0 0, I n] [d.obj] = some (B (d.one n).1, [(d.one n).2.obj]) := by
  refine CALL_of K.t_made_Dice_One rfl ?_
  have hm := next_ok d n hn hd
  unfold Dice.one
  simp (disch := omega) only [go_sem, K.made_Dice_One, ↓reduceIte, hm]
def Dice.of (d : Dice) (l : List Int) : Int × Dice := (nth l (d.next l.length).1.toNat, (d.next l.length).2)
theorem Dice.of_light {d : Dice} (h : d.light) (l : List Int) : (d.of l).2.light := Dice.next_light h _
theorem Dice.of_mem (d : Dice) {l : List Int} (h : l ≠ []) : (d.of l).1 ∈ l := by
  unfold Dice.of
  have hl : 0 < l.length := List.length_pos_iff.2 h
  have := d.next_lo l.length
  have := d.next_hi (n := l.length) (by omega)
  exact nth_mem (by omega)
theorem of_ok (d : Dice) (l : List Int) (hl : l ≠ []) (hl2 : l.length ≤ 4294967296) (hd : d.light) : CALL 0 N.made_Dice_Of [.bp 0 0, .t (tL l)] [d.obj] = some (I (d.of l).1, [(d.of l).2.obj]) := by
  refine CALL_of K.t_made_Dice_Of rfl ?_
  have hm := next_ok d l.length (by omega) hd
  have h0 : 0 < l.length := List.length_pos_iff.2 hl
  have h1 := d.next_lo l.length
  have h2 := d.next_hi (n := l.length) (by omega)
  unfold Dice.of
  simp (disch := omega) only [go_sem, K.made_Dice_Of, ↓reduceIte, hm]
def Dice.someN (d : Dice) : Nat → List Int × Dice
  | 0 => ([], d)
  | k + 1 => (if ((d.someN k).2.next 3).1 = 0 then (d.someN k).1 ++ [(k : Int)] else (d.someN k).1, ((d.someN k).2.next 3).2)
theorem Dice.someN_light {d : Dice} (h : d.light) : ∀ n, (d.someN n).2.light
  | 0 => h
  | n + 1 => Dice.next_light (Dice.someN_light h n) 3
theorem Dice.someN_len (d : Dice) : ∀ n, (d.someN n).1.length ≤ n
  | 0 => Nat.le_refl _
  | n + 1 => by
    have := d.someN_len n
    unfold Dice.someN
    simp only
    split <;> simp <;> omega
theorem some_ok (d : Dice) (n : Nat) (hn : n ≤ 1000000) (hd : d.light) : CALL 0 N.made_Dice_Some [.bp 0 0, I n] [d.obj] = some (.t (tL (d.someN n).1), [(d.someN n).2.obj]) := by
  refine CALL_of K.t_made_Dice_Some rfl ?_
  have hlen := d.someN_len
  have loop : exS CALL K.made_Dice_Some_l1 ⟨[.bp 0 0, I n, .nil, .ref 1 0 0, I 0], [d.obj, .arr 1 false 0 []]⟩ =
      some (.exit 0, ⟨[.bp 0 0, I n, .und, .ref 1 0 (d.someN n).1.length, I n], [(d.someN n).2.obj, .arr 1 false 0 (((d.someN n).1.map (T.int .i64)).map .t)]⟩) := by
    refine loop_up (fun j => ⟨[.bp 0 0, I n, .und, .ref 1 0 (d.someN j).1.length, I j], [(d.someN j).2.obj, .arr 1 false 0 (((d.someN j).1.map (T.int .i64)).map .t)]⟩) n rfl ?_ ?_ (by simp)
    · intro j hj
      have hm := next_ok (d.someN j).2 3 (by omega) (Dice.someN_light hd j)
      have := hlen j
      by_cases h : ((d.someN j).2.next 3).1 = 0
      · simp (disch := omega) only [go_sem, K.made_Dice_Some_l1b, hm, h, Dice.someN, ↓reduceIte]
      · simp (disch := omega) only [go_sem, K.made_Dice_Some_l1b, hm, h, Dice.someN, ↓reduceIte]
    · simp (disch := omega) only [go_sem, K.made_Dice_Some_l1b, ↓reduceIte]
  simp (disch := omega) only [go_sem, K.made_Dice_Some, ↓reduceIte, loop]
end Go.Ev

namespace Go.Ev
open Go
variable [Lib] [Has1] [Has2]
theorem loop_first {gc : Bool} {dead : List Nat} {c : C} {vs : List D} {H : Heap} (s : Nat → St) (n : Nat) (p : Nat → Bool) (e : Nat → Ex × St) (eN : Ex × St)
    (h0 : (⟨dropV dead vs, H⟩ : St) = s 0) (hs : ∀ j, j < n → p j = false → roundC gc dead (s j).H.length (exS CALL c (s j)) = some (s (j + 1)))
    (he : ∀ j, j < n → p j = true → exS CALL c (s j) = some (e j) ∧ (e j).1 ≠ .normal) (hN : exS CALL c (s n) = some eN) (hn : eN.1 ≠ .normal) :
    exS CALL (.loop gc dead c) ⟨vs, H⟩ = some (match (List.range n).find? p with | some j => e j | none => eN) := by
  show loopC gc dead (exS CALL c) ⟨dropV dead vs, H⟩ = _
  rw [h0]
  cases hf : (List.range n).find? p with
  | none =>
    refine loopC_up s n (fun j hj => hs j hj ?_) (loopC_exit hN hn)
    have := List.find?_eq_none.1 hf j (List.mem_range.2 hj)
    simpa using this
  | some k =>
    obtain ⟨h1, as, bs, h2, h3⟩ := List.find?_eq_some_iff_append.1 hf
    have hk : k < n := List.mem_range.1 (List.mem_of_find?_eq_some hf)
    have hlt : ∀ j, j < k → p j = false := by
      intro j hj
      have hlen : as.length = k := by
        have h4 : (List.range n)[as.length]? = some k := by rw [h2]; simp
        have h5 : as.length < n := by
          have := congrArg List.length h2; simp at this; omega
        rw [List.getElem?_range h5] at h4
        exact Option.some.inj h4
      have : j ∈ as := by
        have h6 : (List.range n)[j]? = some j := List.getElem?_range (by omega)
        rw [h2, List.getElem?_append_left (by omega)] at h6
        exact List.mem_of_getElem? h6
      simpa using h3 j this
    obtain ⟨k1, k2⟩ := he k hk h1
    exact loopC_up s k (fun j hj => hs j (by omega) (hlt j hj)) (loopC_exit k1 k2)
def closeN {α : Type} (f : α → α × Bool) : Nat → α → α
  | 0, l => l
  | n + 1, l => if (f l).2 then closeN f n (f l).1 else (f l).1
theorem loop_again {α : Type} {gc : Bool} {dead : List Nat} {c : C} {vs : List D} {H : Heap} (S : α → Bool → St) (E : α → Ex × St) (f : α → α × Bool) (inv : α → Prop) (mes : α → Nat)
    (hinv : ∀ l, inv l → inv (f l).1 ∧ ((f l).2 = true → mes (f l).1 < mes l))
    (hs : ∀ l, inv l → roundC gc dead (S l true).H.length (exS CALL c (S l true)) = some (S (f l).1 (f l).2))
    (he : ∀ l, inv l → exS CALL c (S l false) = some (E l) ∧ (E l).1 ≠ .normal) (l : α) (hl : inv l) (h0 : (⟨dropV dead vs, H⟩ : St) = S l true) :
    exS CALL (.loop gc dead c) ⟨vs, H⟩ = some (E (closeN f (mes l + 1) l)) ∧ inv (closeN f (mes l + 1) l) := by
  have key : ∀ (n : Nat) (l : α), inv l → mes l < n → loopC gc dead (exS CALL c) (S l true) = some (E (closeN f n l)) ∧ inv (closeN f n l) := by
    intro n
    induction n with
    | zero => intro l _ h; omega
    | succ n ih =>
      intro l hl hm
      obtain ⟨h1, h2⟩ := hinv l hl
      have hr := hs l hl
      cases hf : (f l).2 with
      | true =>
        rw [hf] at hr
        obtain ⟨k1, k2⟩ := ih (f l).1 h1 (by have := h2 hf; omega)
        simp only [closeN, hf, if_true]
        exact ⟨loopC_step hr k1, k2⟩
      | false =>
        rw [hf] at hr
        obtain ⟨k1, k2⟩ := he (f l).1 h1
        simp only [closeN, hf, Bool.false_eq_true, if_false]
        exact ⟨loopC_step hr (loopC_exit k1 k2), h1⟩
  have := key (mes l + 1) l hl (Nat.lt_succ_self _)
  show loopC gc dead (exS CALL c) ⟨dropV dead vs, H⟩ = _ ∧ _
  rw [h0]; exact this
theorem find_any {n : Nat} {p : Nat → Bool} : ((List.range n).find? p).isSome = (List.range n).any p := by
  rw [List.isSome_find?]
theorem find_lt {n j : Nat} {p : Nat → Bool} (h : (List.range n).find? p = some j) : j < n ∧ p j = true := ⟨List.mem_range.1 (List.mem_of_find?_eq_some h), List.find?_some h⟩
def capsN (m : Nat) : List D := (List.range m).map fun i => .bp i 0
def boxesT (bs : List (List T)) : Heap := bs.map fun cs => .box (cs.map .t)
theorem boxesT_get {bs : List (List T)} {i : Nat} (h : i < bs.length) : (boxesT bs)[i]? = some (.box (bs[i].map .t)) := by simp [boxesT, h]
theorem boxesT_len (bs : List (List T)) : (boxesT bs).length = bs.length := by simp [boxesT]
theorem addNew_app : ∀ (l sel : List Nat), (sel ++ l).Nodup → addNew sel l = sel ++ l
  | [], sel, _ => by simp [addNew]
  | i :: r, sel, h => by
    have : sel.contains i = false := by
      rw [← Bool.not_eq_true, List.contains_iff_mem]
      intro hm
      have := List.nodup_append.1 h
      exact this.2.2 i hm i List.mem_cons_self rfl
    simp only [addNew, this, Bool.false_eq_true, if_false]
    rw [addNew_app r (sel ++ [i]) (by simpa using h)]
    simp
theorem idxOf_range' : ∀ (l : List Nat) (i k : Nat), l.Nodup → l[k]? = some i → idxOf l i = some k
  | [], i, k, _, h => by simp at h
  | a :: l, i, 0, _, h => by simp at h; simp [idxOf, h]
  | a :: l, i, k + 1, hn, h => by
    simp at h
    have hne : a ≠ i := fun e => (List.nodup_cons.1 hn).1 (e ▸ List.mem_of_getElem? h)
    simp only [idxOf, if_neg hne, idxOf_range' l i k (List.nodup_cons.1 hn).2 h, Option.map_some]
theorem idxOf_range {m i : Nat} (h : i < m) : idxOf (List.range m) i = some i := idxOf_range' _ _ _ List.nodup_range (List.getElem?_range h)
theorem mapO_id {α : Type} {f : α → Option α} : ∀ {l : List α}, (∀ x ∈ l, f x = some x) → mapO f l = some l
  | [], _ => rfl
  | a :: l, h => by
    simp only [mapO, h a List.mem_cons_self, Option.bind_some, mapO_id fun x hx => h x (List.mem_cons_of_mem _ hx), Option.map_some]
theorem renObj_pure (f : Nat → Option Nat) (cs : List T) : renObj f (.box (cs.map .t)) = some (.box (cs.map .t)) := by
  simp only [renObj_box, mapO_ren_t, Option.map_some]
theorem pick_get' {H : Heap} : ∀ {l : List Nat} {hs : Heap}, l.length = hs.length → (∀ (k i : Nat) (o : Obj), l[k]? = some i → hs[k]? = some o → H[i]? = some o) → pick H l = some hs
  | [], [], _, _ => rfl
  | [], _ :: _, h, _ => by simp at h
  | _ :: _, [], h, _ => by simp at h
  | i :: l, o :: hs, h, hg => by
    rw [pick_cons, hg 0 i o rfl rfl, Option.bind_some, pickC_eq, pick_get' (l := l) (hs := hs) (by simpa using h) fun k i o hk ho => hg (k + 1) i o (by simpa using hk) (by simpa using ho)]
    rfl
theorem putBack_self {H : Heap} : ∀ {l : List Nat} {os : Heap}, (∀ (k i : Nat) (o : Obj), l[k]? = some i → os[k]? = some o → H[i]? = some o) → putBack H l os = H
  | [], os, _ => by cases os <;> rfl
  | i :: l, [], _ => rfl
  | i :: l, o :: os, hg => by
    simp only [putBack]
    rw [set_self (hg 0 i o rfl rfl)]
    exact putBack_self fun k i o hk ho => hg (k + 1) i o (by simpa using hk) (by simpa using ho)
theorem opCa_over (call : Oracle) (bs : List (List T)) (E : Heap) (f raw : Nat) (args : List D) {r : D} (h : call raw f args (boxesT bs) = some (r, boxesT bs)) (hr : pureD r = true)
    (ha : ∀ H : Heap, argsD H [] 0 args = some args ∧ frozenArrs H [] 0 args = []) (hids : addNew [] (idsL 8 args) = List.range bs.length)
    (hren : mapO (ren (idxOf (List.range bs.length)) 8) args = some args) : opCa (boxesT bs ++ E) call f raw [] args = some (r, boxesT bs ++ E) := by
  generalize hH : boxesT bs ++ E = H
  have hget : ∀ i (hi : i < bs.length), H[i]? = some (.box (bs[i].map .t)) := fun i hi => by
    rw [← hH, List.getElem?_append_left (by rw [boxesT_len]; exact hi), boxesT_get hi]
  obtain ⟨ha, hfz⟩ := ha H
  have hno : idsOf H (List.range bs.length) = [] := by
    simp only [idsOf, List.flatMap_eq_nil_iff, List.mem_range]
    intro i hi
    rw [hget i hi]
    exact idsL_t 8 bs[i]
  have hsel : reach H 3 (List.range bs.length) = List.range bs.length := by
    simp only [reach, hno, addNew]
  have hget2 : ∀ (k i : Nat) (o : Obj), (List.range bs.length)[k]? = some i → (boxesT bs)[k]? = some o → H[i]? = some o := by
    intro k i o hk ho
    have hkl : k < bs.length := by have := (List.getElem?_eq_some_iff.1 hk).1; simpa using this
    rw [List.getElem?_range hkl] at hk
    cases hk
    rw [boxesT_get hkl] at ho
    rw [hget k hkl, ← ho]
  have hpick : pick H (List.range bs.length) = some (boxesT bs) := pick_get' (by simp [boxesT_len]) hget2
  have hro : ∀ f : Nat → Option Nat, mapO (renObj f) (boxesT bs) = some (boxesT bs) := fun f => mapO_id fun o ho => by
    simp only [boxesT, List.mem_map] at ho
    obtain ⟨cs, _, rfl⟩ := ho
    exact renObj_pure f cs
  have hput : putBack H (List.range bs.length) (boxesT bs) = H := putBack_self hget2
  rw [opCa_gen, callG_eq, ha, Option.bind_some, callA_eq, hids, hsel, callS_eq, hren, Option.bind_some, hfz, callR_eq]
  simp only [pins]
  rw [hpick, Option.bind_some, callP_eq, hro, Option.bind_some, callQ_eq, h, Option.bind_some]
  cases hb : bs with
  | nil =>
    subst hb
    have hrr := ren_pure (f := backTo [] H.length) hr
    simp only [depth] at hrr
    simp only [List.length_nil, List.range_zero, boxesT, List.map_nil]
    unfold callW
    split
    · rfl
    · rw [callB_eq, hrr, Option.bind_some, callZ_eq]
      simp [mapO, callY, putBack]
  | cons b bt =>
    rw [← hb]
    have hne : List.range bs.length = 0 :: (List.range' 1 bt.length) := by rw [hb]; simp [List.range_eq_range', List.range'_succ]
    have hrr := ren_pure (f := backTo (List.range bs.length) H.length) hr
    simp only [depth] at hrr
    have hw : callW H H (List.range bs.length) (r, boxesT bs) = callB H H.length (List.range bs.length) (r, boxesT bs) := by
      rw [hne]; rfl
    rw [hw, callB_eq, hrr, Option.bind_some, callZ_eq, hro, Option.bind_some, callY_eq, List.length_range, List.take_of_length_le (by rw [boxesT_len]; exact Nat.le_refl _), hput,
      List.drop_eq_nil_of_le (by rw [boxesT_len]; exact Nat.le_refl _), List.append_nil]
theorem argsD_T (H : Heap) (cs : List D) (hc : ∀ i, argsD H [] i cs = some cs ∧ frozenArrs H [] i cs = []) : ∀ (ts : List T) (i : Nat), argsD H [] i (ts.map .t ++ cs) = some (ts.map .t ++ cs) ∧ frozenArrs H [] i (ts.map .t ++ cs) = []
  | [], i => hc i
  | t :: ts, i => by
    obtain ⟨h1, h2⟩ := argsD_T H cs hc ts (i + 1)
    simp only [List.map_cons, List.cons_append, argsD_cons, frozenArrs_cons, memB, argK_f, argD_t, Option.bind_some, argC_eq, h1, h2, frK_f, arrs_tt]
    exact ⟨rfl, rfl⟩
theorem argsD_bps (H : Heap) : ∀ (l : List Nat) (i : Nat), argsD H [] i (l.map fun i => .bp i 0) = some (l.map fun i => .bp i 0) ∧ frozenArrs H [] i (l.map fun i => .bp i 0) = []
  | [], i => ⟨rfl, rfl⟩
  | a :: l, i => by
    obtain ⟨h1, h2⟩ := argsD_bps H l (i + 1)
    simp only [List.map_cons, argsD_cons, frozenArrs_cons, memB, argK_f, argD_bp, Option.bind_some, argC_eq, h1, h2, frK_f, arrs_bp]
    exact ⟨rfl, rfl⟩
theorem idsL_caps (n m : Nat) : idsL n (capsN m) = List.range m := by
  simp only [idsL, capsN, List.flatMap_map]
  have : ∀ l : List Nat, (l.flatMap fun a => ids n (.bp a 0)) = l := by
    intro l
    induction l with
    | nil => rfl
    | cons a l ih => rw [List.flatMap_cons, ih, ids_bp]; rfl
  exact this _
theorem ren_caps (n m : Nat) : mapO (ren (idxOf (List.range m)) n) (capsN m) = some (capsN m) := mapO_id fun d hd => by
  simp only [capsN, List.mem_map, List.mem_range] at hd
  obtain ⟨k, hk, rfl⟩ := hd
  rw [ren_bp, idxOf_range hk]; rfl
theorem mapO_app {α β : Type} {f : α → Option β} : ∀ {a b : List α} {x y : List β}, mapO f a = some x → mapO f b = some y → mapO f (a ++ b) = some (x ++ y)
  | [], b, x, y, h1, h2 => by simp [mapO] at h1; subst h1; exact h2
  | c :: a, b, x, y, h1, h2 => by
    simp only [mapO, Option.bind_eq_some_iff, Option.map_eq_some_iff] at h1
    obtain ⟨z, hz, r, hr, rfl⟩ := h1
    simp only [List.cons_append, mapO, hz, Option.bind_some, mapO_app hr h2, Option.map_some]
theorem opCa_clos (call : Oracle) (bs : List (List T)) (E : Heap) (f raw : Nat) (ts : List T) {r : D} (h : call raw f (ts.map .t ++ capsN bs.length) (boxesT bs) = some (r, boxesT bs)) (hr : pureD r = true) :
    opCa (boxesT bs ++ E) call f raw [] (ts.map .t ++ capsN bs.length) = some (r, boxesT bs ++ E) :=
  opCa_over call bs E f raw _ h hr (fun H => argsD_T H _ (argsD_bps H _) ts 0)
    (by rw [idsL_app, idsL_t, List.nil_append, idsL_caps, addNew_app _ _ (by simpa using List.nodup_range), List.nil_append])
    (mapO_app (mapO_ren_t _ _ _) (ren_caps _ _))
theorem opCa_fn (call : Oracle) (bs : List (List T)) (E : Heap) (g f raw : Nat) (ts : List T) {r : D} (h : call raw f (ts.map .t ++ [.fn g (capsN bs.length)]) (boxesT bs) = some (r, boxesT bs)) (hr : pureD r = true) :
    opCa (boxesT bs ++ E) call f raw [] (ts.map .t ++ [.fn g (capsN bs.length)]) = some (r, boxesT bs ++ E) :=
  opCa_over call bs E f raw _ h hr (fun H => argsD_T H _ (fun i => ⟨rfl, rfl⟩) ts 0)
    (by rw [idsL_app, idsL_t, List.nil_append, idsL_cons, ids_fn, idsL_caps, idsL_nil, List.append_nil, addNew_app _ _ (by simpa using List.nodup_range), List.nil_append])
    (mapO_app (mapO_ren_t _ _ _) (by rw [mapO_cons, ren_fn, ren_caps]; rfl))
theorem clos_call {f : Nat} {bs : List (List T)} {x : T} {r : D} (E : Heap) (h : CALL 0 f (.t x :: capsN bs.length) (boxesT bs) = some (r, boxesT bs)) (hr : pureD r = true) :
    opCa (boxesT bs ++ E) CALL f 0 [] (.t x :: capsN bs.length) = some (r, boxesT bs ++ E) := opCa_clos CALL bs E f 0 [x] h hr
theorem clos_call0 {f : Nat} {bs : List (List T)} {x : T} {r : D} (h : CALL 0 f (.t x :: capsN bs.length) (boxesT bs) = some (r, boxesT bs)) (hr : pureD r = true) :
    opCa (boxesT bs) CALL f 0 [] (.t x :: capsN bs.length) = some (r, boxesT bs) := by
  have := clos_call [] h hr; rwa [List.append_nil] at this
theorem opCa_clos2 (call : Oracle) (bs : List (List T)) (g f raw : Nat) (x : T) {r : D} (h : call raw f [.t x, .fn g (capsN bs.length)] (boxesT bs) = some (r, boxesT bs)) (hr : pureD r = true) :
    opCa (boxesT bs) call f raw [] [.t x, .fn g (capsN bs.length)] = some (r, boxesT bs) := by
  have := opCa_fn call bs [] g f raw [x] h hr
  rwa [List.append_nil] at this
section
variable (bs : List (List T)) (o o' : Obj)
@[go_sem] theorem boxesT_length : (boxesT bs).length = bs.length := boxesT_len bs
@[go_sem] theorem boxes_last : (boxesT bs ++ [o])[bs.length]? = some o := by
  rw [List.getElem?_append_right (by rw [boxesT_len]; exact Nat.le_refl _), boxesT_len]; simp
@[go_sem] theorem boxes_set : (boxesT bs ++ [o]).set bs.length o' = boxesT bs ++ [o'] := by
  rw [List.set_append_right _ _ (by rw [boxesT_len]; exact Nat.le_refl _), boxesT_len]; simp
@[go_sem] theorem boxes_take : (boxesT bs ++ [o]).take bs.length = boxesT bs := by
  rw [List.take_append_of_le_length (by rw [boxesT_len]; exact Nat.le_refl _), List.take_of_length_le (by rw [boxesT_len]; exact Nat.le_refl _)]
@[go_sem] theorem boxes_take1 : (boxesT bs ++ [o]).take (bs.length + 1) = boxesT bs ++ [o] := List.take_of_length_le (by simp [boxesT_len])
@[go_sem] theorem boxes_take0 : (boxesT bs).take bs.length = boxesT bs := List.take_of_length_le (by simp [boxesT_len])
@[go_sem] theorem heapOld_app (k : Nat) (a b : Heap) : heapOld k (a ++ b) = (heapOld k a && heapOld k b) := by
  rw [← heapOld_eq, ← heapOld_eq, ← heapOld_eq, List.all_append]
@[go_sem] theorem heapOld_boxes (k : Nat) : heapOld k (boxesT bs) = true := by
  induction bs with
  | nil => rfl
  | cons b r ih =>
    show (allOld k 8 (b.map .t) && heapOld k (boxesT r)) = true
    rw [allOld_t, ih]; rfl
@[go_sem] theorem ltB_succ (n : Nat) : ltB n (n + 1) = true := by rw [ltB_iff]; simp
@[go_sem] theorem ltB_self (n : Nat) : ltB n n = false := by rw [ltB_iff]; simp
theorem allOld_capsN (k n m : Nat) (h : m ≤ k) : allOld k n (capsN m) = true := by
  unfold allOld capsN
  rw [List.all_eq_true]
  intro d hd
  obtain ⟨i, hi, rfl⟩ := List.mem_map.1 hd
  rw [old_bp, ltB_iff]
  have := List.mem_range.1 hi
  simp; omega
@[go_sem] theorem allOld_caps (n m : Nat) : allOld m n (capsN m) = true := allOld_capsN _ _ _ (Nat.le_refl _)
@[go_sem] theorem allOld_caps1 (n m : Nat) : allOld (m + 1) n (capsN m) = true := allOld_capsN _ _ _ (Nat.le_succ _)
end
def whereF (n : Nat) (p : Nat → Bool) : List Int := ((List.range n).filter p).map (fun (i : Nat) => (i : Int))
theorem whereF_succ (n : Nat) (p : Nat → Bool) : whereF (n + 1) p = if p n = true then whereF n p ++ [(n : Int)] else whereF n p := by
  unfold whereF
  rw [List.range_succ, List.filter_append, List.map_append]
  by_cases h : p n = true <;> simp [h]
theorem whereF_len (n : Nat) (p : Nat → Bool) : (whereF n p).length ≤ n := by
  unfold whereF
  rw [List.length_map]
  have := List.length_filter_le p (List.range n)
  simpa using this
theorem where_ok (n : Nat) (hn : n ≤ 1000000) (f : Nat) (bs : List (List T)) (p : Nat → Bool) (h : ∀ k, k < n → CALL 0 f (I k :: capsN bs.length) (boxesT bs) = some (B (p k), boxesT bs)) :
    CALL 0 N.lists_Where [I n, .fn f (capsN bs.length)] (boxesT bs) = some (.t (tL (whereF n p)), boxesT bs) := by
  refine CALL_of K.t_lists_Where rfl ?_
  have hlen := fun k => whereF_len k p
  have loop : exS CALL K.lists_Where_l1 ⟨[I n, .fn f (capsN bs.length), .nil, .ref bs.length 0 0, .und, I n, I 0], boxesT bs ++ [.arr 1 false 0 []]⟩ =
      some (.exit 0, ⟨[.und, .fn f (capsN bs.length), .und, .ref bs.length 0 (whereF n p).length, .und, I n, I n], boxesT bs ++ [.arr 1 false 0 (((whereF n p).map (T.int .i64)).map .t)]⟩) := by
    refine loop_up (fun j => ⟨[.und, .fn f (capsN bs.length), .und, .ref bs.length 0 (whereF j p).length, .und, I n, I j], boxesT bs ++ [.arr 1 false 0 (((whereF j p).map (T.int .i64)).map .t)]⟩) n rfl ?_ ?_ (by simp)
    · intro j hj
      have hc := clos_call [.arr 1 false 0 (((whereF j p).map (T.int .i64)).map .t)] (h j hj) rfl
      have := hlen j
      by_cases hp : p j = true
      · simp (disch := omega) only [go_sem, K.lists_Where_l1b, hc, hp, whereF_succ, ↓reduceIte]
      · simp (disch := omega) only [go_sem, K.lists_Where_l1b, hc, hp, whereF_succ, ↓reduceIte]
    · simp (disch := omega) only [go_sem, K.lists_Where_l1b, ↓reduceIte]
  simp (disch := omega) only [go_sem, K.lists_Where, ↓reduceIte, loop]
end Go.Ev

namespace Go.Ev
open Go
variable [Lib] [Has1] [Has2]
theorem cellsAre_map {α : Type} (sz : Nat) (f : α → T) (h : ∀ a, lenIs sz (f a).cells = true) : ∀ l : List α, cellsAre sz (l.map f) = true
  | [] => rfl
  | a :: l => by rw [List.map_cons, cellsAre_cons, h, cellsAre_map sz f h l]; rfl
@[go_sem] theorem cellsAre_int (k : IntKind) (l : List Int) : cellsAre 1 (l.map (.int k)) = true := cellsAre_map 1 _ (fun _ => rfl) l
theorem all_lenIs (sz : Nat) : ∀ ts : List T, (ts.all fun e => e.cells.length == sz) = cellsAre sz ts
  | [] => rfl
  | t :: ts => by
    rw [List.all_cons, cellsAre_cons, all_lenIs sz ts]
    congr 1
    rw [Bool.eq_iff_iff, lenIs_iff]; simp
section
variable (H : Heap) (sz : Nat) (ts : List T) (i j : Int)
@[go_sem] theorem opSc_hi : opSc H sz (some (.t (.sl ts))) (some none) (some (some i)) = if 0 ≤ i then (if i ≤ ts.length then (if cellsAre sz ts = true then some (.t (.sl (ts.take i.toNat)), H) else none) else none) else none := by
  simp only [opSc, Option.bind_some, sliceD, bound, all_lenIs, idx]
  by_cases h1 : 0 ≤ i
  · rw [if_pos h1, if_pos h1, Option.bind_some]
    by_cases h2 : i ≤ ts.length
    · rw [if_pos h2]
      by_cases h3 : cellsAre sz ts = true
      · rw [if_pos h3, if_pos ⟨by omega, by omega, h3⟩]; rfl
      · rw [if_neg h3, if_neg fun h => h3 h.2.2]; rfl
    · rw [if_neg h2, if_neg fun h => h2 (by omega)]; rfl
  · rw [if_neg h1, if_neg h1]; rfl
@[go_sem] theorem opSc_lo : opSc H sz (some (.t (.sl ts))) (some (some i)) (some none) = if 0 ≤ i then (if i ≤ ts.length then (if cellsAre sz ts = true then some (.t (.sl (ts.drop i.toNat)), H) else none) else none) else none := by
  simp only [opSc, Option.bind_some, sliceD, bound, all_lenIs, idx]
  by_cases h1 : 0 ≤ i
  · rw [if_pos h1, if_pos h1, Option.bind_some]
    by_cases h2 : i ≤ ts.length
    · rw [if_pos h2]
      by_cases h3 : cellsAre sz ts = true
      · rw [if_pos h3, if_pos ⟨by omega, by omega, h3⟩, List.take_of_length_le (by simp)]; rfl
      · rw [if_neg h3, if_neg fun h => h3 h.2.2]; rfl
    · rw [if_neg h2, if_neg fun h => h2 (by omega)]; rfl
  · rw [if_neg h1, if_neg h1]; rfl
@[go_sem] theorem opSc_lohi : opSc H sz (some (.t (.sl ts))) (some (some i)) (some (some j)) = if 0 ≤ i then (if i ≤ j then (if j ≤ ts.length then (if cellsAre sz ts = true then some (.t (.sl ((ts.drop i.toNat).take (j.toNat - i.toNat))), H) else none) else none) else none) else none := by
  simp only [opSc, Option.bind_some, sliceD, bound, all_lenIs, idx]
  by_cases h1 : 0 ≤ i
  · rw [if_pos h1, if_pos h1, Option.bind_some]
    by_cases h0 : i ≤ j
    · rw [if_pos h0, if_pos (by omega : 0 ≤ j), Option.bind_some]
      by_cases h2 : j ≤ ts.length
      · rw [if_pos h2]
        by_cases h3 : cellsAre sz ts = true
        · rw [if_pos h3, if_pos ⟨by omega, by omega, h3⟩]; rfl
        · rw [if_neg h3, if_neg fun h => h3 h.2.2]; rfl
      · rw [if_neg h2, if_neg fun h => h2 (by omega)]; rfl
    · rw [if_neg h0]
      by_cases h2 : 0 ≤ j
      · rw [if_pos h2, Option.bind_some, if_neg fun h => h0 (by omega)]; rfl
      · rw [if_neg h2]; rfl
  · rw [if_neg h1, if_neg h1]; rfl
end
def bsK (H : Heap) (l : List Nat) : Option T → Option (D × Heap)
  | some t => some (.t (.sl [t]), pins H l)
  | none => none
@[go_sem] theorem bsK_some (H : Heap) (l : List Nat) (t : T) : bsK H l (some t) = some (.t (.sl [t]), pins H l) := (rfl)
@[go_sem] theorem opBs_agg (H : Heap) (sz : Nat) (cs : List D) : opBs H sz [.agg cs] = if lenIs sz cs = true then bsK H (arrs H 8 (.agg cs)) (frz H 8 (.agg cs)) else none := by
  simp only [opBs, List.all_cons, List.all_nil, Bool.and_true, D.cells]
  by_cases h : lenIs sz cs = true
  · rw [if_pos h, if_pos (by simpa using lenIs_iff.1 h)]
    simp only [mapO, depth, List.flatMap_cons, List.flatMap_nil, List.append_nil]
    cases frz H 8 (.agg cs) <;> rfl
  · rw [if_neg h, if_neg (by intro e; exact h (lenIs_iff.2 (by simpa using e)))]
@[go_sem] theorem opBs_ref (H : Heap) (id ep n : Nat) : opBs H 1 [.ref id ep n] = bsK H (arrs H 8 (.ref id ep n)) (frz H 8 (.ref id ep n)) := by
  simp only [opBs, List.all_cons, List.all_nil, Bool.and_true, D.cells, List.length_cons, List.length_nil, beq_self_eq_true, if_true, mapO, depth, List.flatMap_cons, List.flatMap_nil, List.append_nil]
  cases frz H 8 (.ref id ep n) <;> rfl
def backR (H : Heap) (r : D) (os : Heap) : D × Heap := (r, H ++ os)
@[go_sem] theorem backR_eq (H : Heap) (r : D) (os : Heap) : backR H r os = (r, H ++ os) := (rfl)
def backQ (H : Heap) (os : Heap) (r : D) : Option (D × Heap) := (mapO (renObj (backTo [] H.length)) os).map (backR H r)
@[go_sem] theorem backQ_eq (H : Heap) (os : Heap) (r : D) : backQ H os r = (mapO (renObj (backTo [] H.length)) os).map (backR H r) := (rfl)
@[go_sem] theorem backP_new (H : Heap) (r : D) (o : Obj) (os : Heap) : backP H (r, o :: os) = (ren (backTo [] H.length) 8 r).bind (backQ H (o :: os)) := by
  simp only [backP, List.isEmpty_cons, Bool.and_false, Bool.false_eq_true, if_false]
  rfl
end Go.Ev

namespace Go.Ev
open Go
variable [Lib] [Has1] [Has2]
structure Place where
  h : Int
  surf : Bool
instance : Dat Place := ⟨⟨0, false⟩⟩
abbrev Place.e (p : Place) : T := .agg [tI p.h, .bool p.surf]
structure Road where
  frm : Int
  to : Int
  len : Int
  area : Int
  walk : Bool
  closed : Bool
  restL : Int
  restH : Int
  liftL : Int
  liftH : Int
instance : Dat Road := ⟨⟨0, 0, 0, 0, false, false, 0, 0, 0, 0⟩⟩
abbrev Road.e (r : Road) : T := .agg [tI r.frm, tI r.to, tI r.len, tI r.area, .bool r.walk, .bool r.closed, tI r.restL, tI r.restH, tI r.liftL, tI r.liftH]
structure Mine where
  places : List Place
  roads : List Road
instance : Dat Mine := ⟨⟨[], []⟩⟩
abbrev Mine.e (m : Mine) : T := .agg [.sl (m.places.map Place.e), .sl (m.roads.map Road.e)]
structure Road.ok (n : Nat) (r : Road) : Prop where
  f0 : 0 ≤ r.frm
  f1 : r.frm < n
  t0 : 0 ≤ r.to
  t1 : r.to < n
  ne : r.frm ≠ r.to
  l0 : 1 ≤ r.len
  l1 : r.len ≤ 100000
  a0 : 1 ≤ r.area
  a1 : r.area ≤ 1000
  r0 : 1 ≤ r.restL
  r1 : r.restL ≤ r.restH
  r2 : r.restH ≤ 262144
  i0 : -2199023255552 ≤ r.liftL
  i1 : r.liftL ≤ r.liftH
  i2 : r.liftH ≤ 2199023255552
structure Mine.ok (m : Mine) : Prop where
  np : m.places.length ≤ 64
  nr : m.roads.length ≤ 128
  hs : ∀ p ∈ m.places, -10000 ≤ p.h ∧ p.h ≤ 10000
  rs : ∀ r ∈ m.roads, r.ok m.places.length
theorem span01_ok (a b lo hi : Int) : CALL 0 N.ref01_Span [.t (.agg [tI a, tI b]), I lo, I hi] [] = some (B (decide (lo ≤ a ∧ a ≤ b ∧ b ≤ hi)), []) := by
  refine CALL_of K.t_ref01_Span rfl ?_
  by_cases h1 : lo ≤ a <;> by_cases h2 : a ≤ b <;> by_cases h3 : b ≤ hi <;> simp (disch := omega) only [go_sem, K.ref01_Span, ↓reduceIte, h1, h2, h3]
theorem check_ok {m : Mine} (h : m.ok) : CALL 0 N.ref01_Check [.t m.e] [] = some (I 0, []) := by
  refine CALL_of K.t_ref01_Check rfl ?_
  have np := h.np
  have nr := h.nr
  have loop1 : ∀ a b c d e : D, exS CALL K.ref01_Check_l1 ⟨[a, .bp 0 0, b, I 0, c, d, e], [.box [.t (.sl (m.places.map Place.e)), .t (.sl (m.roads.map Road.e))]]⟩ =
      some (.exit 0, ⟨[.und, .bp 0 0, .und, I m.places.length, .und, .und, .und], [.box [.t (.sl (m.places.map Place.e)), .t (.sl (m.roads.map Road.e))]]⟩) := by
    intro a b c d e
    refine loop_up (fun j => ⟨[.und, .bp 0 0, .und, I j, .und, .und, .und], [.box [.t (.sl (m.places.map Place.e)), .t (.sl (m.roads.map Road.e))]]⟩) m.places.length rfl ?_ ?_ (by simp)
    · intro j hj
      have hh := h.hs _ (nth_mem hj)
      simp (disch := omega) only [go_sem, K.ref01_Check_l1b, ↓reduceIte]
    · simp (disch := omega) only [go_sem, K.ref01_Check_l1b, ↓reduceIte]
  have loop2 : ∀ a b c d e : D, exS CALL K.ref01_Check_l2 ⟨[a, .bp 0 0, b, c, d, I 0, e], [.box [.t (.sl (m.places.map Place.e)), .t (.sl (m.roads.map Road.e))]]⟩ =
      some (.exit 2, ⟨[.und, .bp 0 0, .und, .und, .und, I m.roads.length, .und], [.box [.t (.sl (m.places.map Place.e)), .t (.sl (m.roads.map Road.e))]]⟩) := by
    intro a b c d e
    refine loop_up (fun j => ⟨[.und, .bp 0 0, .und, .und, .und, I j, .und], [.box [.t (.sl (m.places.map Place.e)), .t (.sl (m.roads.map Road.e))]]⟩) m.roads.length rfl ?_ ?_ (by simp)
    · intro j hj
      obtain ⟨f0, f1, t0, t1, ne, l0, l1, a0, a1, r0, r1, r2, i0, i1, i2⟩ := h.rs _ (nth_mem hj)
      have s1 := span01_ok (nth m.roads j).restL (nth m.roads j).restH 1 262144
      have s2 := span01_ok (nth m.roads j).liftL (nth m.roads j).liftH (-2199023255552) 2199023255552
      simp (disch := omega) only [go_sem] at s1 s2
      simp (disch := omega) only [go_sem, K.ref01_Check_l2b, ↓reduceIte, s1, s2]
    · simp (disch := omega) only [go_sem, K.ref01_Check_l2b, ↓reduceIte]
  simp (disch := omega) only [go_sem, K.ref01_Check, ↓reduceIte, loop1, loop2]
end Go.Ev

namespace Go.Ev
open Go
variable [Lib] [Has1] [Has2]
theorem any_nth {l : List Int} {p : Int → Bool} : ((List.range l.length).find? fun j => p (nth l j)).isSome = l.any p := by
  rw [List.isSome_find?, Bool.eq_iff_iff, List.any_eq_true, List.any_eq_true]
  constructor
  · rintro ⟨j, hj, h⟩
    exact ⟨_, nth_mem (List.mem_range.1 hj), h⟩
  · rintro ⟨x, hx, h⟩
    obtain ⟨j, hj⟩ := List.mem_iff_getElem?.1 hx
    exact ⟨j, List.mem_range.2 (List.getElem?_eq_some_iff.1 hj).1, by rw [nth_eq hj]; exact h⟩
theorem has_ok (l : List Int) (x : Int) (hl : l.length ≤ 4294967296) : CALL 0 N.ref23_Has [.t (tL l), I x] [] = some (B (decide (x ∈ l)), []) := by
  refine CALL_of K.t_ref23_Has rfl ?_
  have loop : ∀ a : D, exS CALL K.ref23_Has_l1 ⟨[.t (tL l), I x, a, I 0], []⟩ =
      some (match (List.range l.length).find? (fun j => decide (nth l j = x)) with
        | some j => (.ret, ⟨[.t (tL l), I x, B true, I j], []⟩)
        | none => (.exit 0, ⟨[.t (tL l), I x, .und, I l.length], []⟩)) := by
    intro a
    refine loop_first (fun j => ⟨[.t (tL l), I x, .und, I j], []⟩) l.length (fun j => decide (nth l j = x)) _ _ rfl ?_ ?_ ?_ (by simp)
    · intro j hj hp
      have hp : ¬ nth l j = x := of_decide_eq_false hp
      simp (disch := omega) only [go_sem, K.ref23_Has_l1b, ↓reduceIte]
    · intro j hj hp
      have hp : nth l j = x := of_decide_eq_true hp
      simp (disch := omega) only [go_sem, K.ref23_Has_l1b, ↓reduceIte, hp]
      simp
    · simp (disch := omega) only [go_sem, K.ref23_Has_l1b, ↓reduceIte]
  have e := any_nth (l := l) (p := fun y => decide (y = x))
  have e2 : l.any (fun y => decide (y = x)) = decide (x ∈ l) := by rw [Bool.eq_iff_iff]; simp
  rw [e2] at e
  simp only [go_sem, K.ref23_Has, ↓reduceIte, loop]
  cases hf : (List.range l.length).find? (fun j => decide (nth l j = x)) with
  | some j => rw [hf] at e; simp (disch := omega) only [go_sem, ↓reduceIte, ← e]
  | none => rw [hf] at e; simp (disch := omega) only [go_sem, ↓reduceIte, ← e, Option.isSome_none]
theorem same_ok (a b : List Int) (hl : a.length ≤ 4294967296) : CALL 0 N.ref23_SameInts [.t (tL a), .t (tL b)] [] = some (B (decide (a = b)), []) := by
  refine CALL_of K.t_ref23_SameInts rfl ?_
  by_cases hlen : a.length = b.length
  · have loop : ∀ c : D, exS CALL K.ref23_SameInts_l1 ⟨[.t (tL a), .t (tL b), c, I 0], []⟩ =
        some (match (List.range a.length).find? (fun j => decide (nth a j ≠ nth b j)) with
          | some j => (.ret, ⟨[.t (tL a), .t (tL b), B false, I j], []⟩)
          | none => (.exit 0, ⟨[.t (tL a), .t (tL b), .und, I a.length], []⟩)) := by
      intro c
      refine loop_first (fun j => ⟨[.t (tL a), .t (tL b), .und, I j], []⟩) a.length (fun j => decide (nth a j ≠ nth b j)) _ _ rfl ?_ ?_ ?_ (by simp)
      · intro j hj hp
        have hp : nth a j = nth b j := by simpa using hp
        simp (disch := omega) only [go_sem, K.ref23_SameInts_l1b, ↓reduceIte]
      · intro j hj hp
        have hp : nth a j ≠ nth b j := by simpa using hp
        simp (disch := omega) only [go_sem, K.ref23_SameInts_l1b, ↓reduceIte]
        simp
      · simp (disch := omega) only [go_sem, K.ref23_SameInts_l1b, ↓reduceIte]
    have e : (a = b) ↔ (List.range a.length).find? (fun j => decide (nth a j ≠ nth b j)) = none := by
      rw [List.find?_eq_none]
      constructor
      · intro h j _; simp [h]
      · intro h
        apply List.ext_getElem?
        intro j
        by_cases hj : j < a.length
        · rw [nth_some hj, nth_some (by omega)]
          have := h j (List.mem_range.2 hj)
          simpa using this
        · rw [List.getElem?_eq_none (by omega), List.getElem?_eq_none (by omega)]
    simp (disch := omega) only [go_sem, K.ref23_SameInts, ↓reduceIte, loop]
    cases hf : (List.range a.length).find? (fun j => decide (nth a j ≠ nth b j)) with
    | some j => rw [hf] at e; simp (disch := omega) only [go_sem, ↓reduceIte, e]; simp
    | none => rw [hf] at e; simp (disch := omega) only [go_sem, ↓reduceIte, e]
  · have hne : a ≠ b := fun h => hlen (by rw [h])
    simp (disch := omega) only [go_sem, K.ref23_SameInts, ↓reduceIte, hne]
def setB (l : List Int) (n : Int) : Bool := (List.range l.length).all fun j => decide (0 ≤ nth l j ∧ nth l j < n ∧ (0 < j → nth l (j - 1) < nth l j))
theorem find_all {n : Nat} {p : Nat → Bool} : ((List.range n).all p) = ((List.range n).find? fun j => !p j).isNone := by
  rw [← Option.not_isSome, List.isSome_find?, List.not_any_eq_all_not]
  simp
theorem set_ok (l : List Int) (n : Int) (hl : l.length ≤ 4294967296) : CALL 0 N.ref23_Set [.t (tL l), I n] [] = some (B (setB l n), []) := by
  refine CALL_of K.t_ref23_Set rfl ?_
  have loop : ∀ c : D, exS CALL K.ref23_Set_l1 ⟨[.t (tL l), I n, c, I 0], []⟩ =
      some (match (List.range l.length).find? (fun j => !decide (0 ≤ nth l j ∧ nth l j < n ∧ (0 < j → nth l (j - 1) < nth l j))) with
        | some j => (.ret, ⟨[.t (tL l), I n, B false, I j], []⟩)
        | none => (.exit 0, ⟨[.t (tL l), I n, .und, I l.length], []⟩)) := by
    intro c
    refine loop_first (fun j => ⟨[.t (tL l), I n, .und, I j], []⟩) l.length _ _ _ rfl ?_ ?_ ?_ (by simp)
    · intro j hj hp
      simp only [Bool.not_eq_false', decide_eq_true_eq] at hp
      obtain ⟨h1, h2, h3⟩ := hp
      cases j with
      | zero => simp (disch := omega) only [go_sem, K.ref23_Set_l1b, ↓reduceIte]
      | succ j =>
        have h3 := h3 (by omega)
        rw [Nat.add_sub_cancel] at h3
        simp (disch := omega) only [go_sem, K.ref23_Set_l1b, ↓reduceIte]
    · intro j hj hp
      simp only [Bool.not_eq_true', decide_eq_false_iff_not] at hp
      refine ⟨?_, by simp⟩
      by_cases h1 : 0 ≤ nth l j
      · by_cases h2 : nth l j < n
        · cases j with
          | zero => exact absurd ⟨h1, h2, fun h => absurd h (by omega)⟩ hp
          | succ j =>
            have h3 : ¬ nth l j < nth l (j + 1) := fun h => hp ⟨h1, h2, fun _ => by simpa using h⟩
            simp (disch := omega) only [go_sem, K.ref23_Set_l1b, ↓reduceIte]
        · simp (disch := omega) only [go_sem, K.ref23_Set_l1b, ↓reduceIte]
      · simp (disch := omega) only [go_sem, K.ref23_Set_l1b, ↓reduceIte]
    · simp (disch := omega) only [go_sem, K.ref23_Set_l1b, ↓reduceIte]
  have e : setB l n = _ := find_all
  simp only [go_sem, K.ref23_Set, ↓reduceIte, loop]
  cases hf : (List.range l.length).find? (fun j => !decide (0 ≤ nth l j ∧ nth l j < n ∧ (0 < j → nth l (j - 1) < nth l j))) with
  | some j => rw [hf] at e; simp (disch := omega) only [go_sem, ↓reduceIte, e, Option.isNone_some]
  | none => rw [hf] at e; simp (disch := omega) only [go_sem, ↓reduceIte, e, Option.isNone_none]
theorem in_ok (x lo hi : Int) : CALL 0 N.lists_In [I x, I lo, I hi] [] = some (B (decide (lo ≤ x ∧ x ≤ hi)), []) := by
  refine CALL_of K.t_lists_In rfl ?_
  by_cases h1 : lo ≤ x <;> by_cases h2 : x ≤ hi <;> simp (disch := omega) only [go_sem, K.lists_In, ↓reduceIte]
theorem index_ok (l : List Int) (x : Int) (hl : l.length ≤ 4294967296) : CALL 0 N.slices_Index_int_int [.t (tL l), I x] [] =
    some (I (match (List.range l.length).find? (fun j => decide (nth l j = x)) with | some j => (j : Int) | none => -1), []) := by
  refine CALL_of K.t_slices_Index_int_int rfl ?_
  have loop : ∀ a b : D, exS CALL K.slices_Index_int_int_l1 ⟨[.t (tL l), I x, a, b, I l.length, I 0], []⟩ =
      some (match (List.range l.length).find? (fun j => decide (nth l j = x)) with
        | some j => (.ret, ⟨[.t (tL l), I x, I j, I j, I l.length, I j], []⟩)
        | none => (.exit 0, ⟨[.t (tL l), I x, .und, .und, I l.length, I l.length], []⟩)) := by
    intro a b
    refine loop_first (fun j => ⟨[.t (tL l), I x, .und, .und, I l.length, I j], []⟩) l.length (fun j => decide (nth l j = x)) _ _ rfl ?_ ?_ ?_ (by simp)
    · intro j hj hp
      have hp : ¬ nth l j = x := of_decide_eq_false hp
      simp (disch := omega) only [go_sem, K.slices_Index_int_int_l1b, ↓reduceIte]
    · intro j hj hp
      have hp : nth l j = x := of_decide_eq_true hp
      simp (disch := omega) only [go_sem, K.slices_Index_int_int_l1b, ↓reduceIte, hp]
      simp
    · simp (disch := omega) only [go_sem, K.slices_Index_int_int_l1b, ↓reduceIte]
  simp (disch := omega) only [go_sem, K.slices_Index_int_int, ↓reduceIte, loop]
  cases hf : (List.range l.length).find? (fun j => decide (nth l j = x)) with
  | some j => simp (disch := omega) only [go_sem, ↓reduceIte]
  | none => simp (disch := omega) only [go_sem, ↓reduceIte]
theorem contains_ok (l : List Int) (x : Int) (hl : l.length ≤ 4294967296) : CALL 0 N.slices_Contains_int_int [.t (tL l), I x] [] = some (B (decide (x ∈ l)), []) := by
  refine CALL_of K.t_slices_Contains_int_int rfl ?_
  have h := index_ok l x hl
  have e := any_nth (l := l) (p := fun y => decide (y = x))
  have e2 : l.any (fun y => decide (y = x)) = decide (x ∈ l) := by rw [Bool.eq_iff_iff]; simp
  rw [e2] at e
  cases hf : (List.range l.length).find? (fun j => decide (nth l j = x)) with
  | some j => rw [hf] at e h; simp (disch := omega) only [go_sem, K.slices_Contains_int_int, ↓reduceIte, ← e, h]
  | none => rw [hf] at e h; simp (disch := omega) only [go_sem, K.slices_Contains_int_int, ↓reduceIte, ← e, h, Option.isSome_none]
theorem indexFunc_ok (l : List Int) (hl : l.length ≤ 4294967296) (f : Nat) (bs : List (List T)) (p : Int → Bool) (h : ∀ x, x ∈ l → CALL 0 f (I x :: capsN bs.length) (boxesT bs) = some (B (p x), boxesT bs)) :
    CALL 0 N.slices_IndexFunc_int_int [.t (tL l), .fn f (capsN bs.length)] (boxesT bs) =
    some (I (match (List.range l.length).find? (fun j => p (nth l j)) with | some j => (j : Int) | none => -1), boxesT bs) := by
  refine CALL_of K.t_slices_IndexFunc_int_int rfl ?_
  have loop : ∀ a b : D, exS CALL K.slices_IndexFunc_int_int_l1 ⟨[.t (tL l), .fn f (capsN bs.length), a, b, I l.length, I 0], boxesT bs⟩ =
      some (match (List.range l.length).find? (fun j => p (nth l j)) with
        | some j => (.ret, ⟨[.t (tL l), .fn f (capsN bs.length), I j, I j, I l.length, I j], boxesT bs⟩)
        | none => (.exit 0, ⟨[.t (tL l), .fn f (capsN bs.length), .und, .und, I l.length, I l.length], boxesT bs⟩)) := by
    intro a b
    refine loop_first (fun j => ⟨[.t (tL l), .fn f (capsN bs.length), .und, .und, I l.length, I j], boxesT bs⟩) l.length (fun j => p (nth l j)) _ _ rfl ?_ ?_ ?_ (by simp)
    · intro j hj hp
      have hc := clos_call0 (h _ (nth_mem hj)) rfl
      simp (disch := omega) only [go_sem, K.slices_IndexFunc_int_int_l1b, ↓reduceIte, hc, hp]
    · intro j hj hp
      have hc := clos_call0 (h _ (nth_mem hj)) rfl
      simp (disch := omega) only [go_sem, K.slices_IndexFunc_int_int_l1b, ↓reduceIte, hp, hc]
      simp
    · simp (disch := omega) only [go_sem, K.slices_IndexFunc_int_int_l1b, ↓reduceIte]
  simp (disch := omega) only [go_sem, K.slices_IndexFunc_int_int, ↓reduceIte, loop]
  cases hf : (List.range l.length).find? (fun j => p (nth l j)) with
  | some j => simp (disch := omega) only [go_sem, ↓reduceIte]
  | none => simp (disch := omega) only [go_sem, ↓reduceIte]
theorem containsFunc_ok (l : List Int) (hl : l.length ≤ 4294967296) (f : Nat) (bs : List (List T)) (p : Int → Bool) (h : ∀ x, x ∈ l → CALL 0 f (I x :: capsN bs.length) (boxesT bs) = some (B (p x), boxesT bs)) :
    CALL 0 N.slices_ContainsFunc_int_int [.t (tL l), .fn f (capsN bs.length)] (boxesT bs) = some (B (l.any p), boxesT bs) := by
  refine CALL_of K.t_slices_ContainsFunc_int_int rfl ?_
  have h := indexFunc_ok l hl f bs p h
  have hc := opCa_clos2 CALL bs f _ 0 (tL l) h rfl
  have e := any_nth (l := l) (p := p)
  cases hf : (List.range l.length).find? (fun j => p (nth l j)) with
  | some j => rw [hf] at e hc; simp (disch := omega) only [go_sem, K.slices_ContainsFunc_int_int, ↓reduceIte, ← e, hc]
  | none => rw [hf] at e hc; simp (disch := omega) only [go_sem, K.slices_ContainsFunc_int_int, ↓reduceIte, ← e, hc, Option.isSome_none]
end Go.Ev

namespace Go.Ev
open Go
variable [Lib] [Has1] [Has2]
theorem ends_ok (r : Road) (back : Bool) : CALL 0 N.ref03_ends [.t r.e, B back] [] = some (.tup [I (if back then r.to else r.frm), I (if back then r.frm else r.to)], []) := by
  refine CALL_of K.t_ref03_ends rfl ?_
  cases back <;> simp (disch := omega) only [go_sem, K.ref03_ends, ↓reduceIte]
def walkT (m : Mine) (k : Nat) (back : Bool) (up down level : Int) : Int :=
  let x := nth m.roads k
  if x.closed = true ∨ x.walk = false then -1 else
  let a := if back then x.to else x.frm
  let b := if back then x.frm else x.to
  let rise := (nth m.places b.toNat).h - (nth m.places a.toNat).h
  let speed := if -10 * rise > x.len then down else if 10 * rise > x.len then up else level
  (10 * x.len + speed - 1).tdiv speed
theorem tdiv_bd {a b : Int} (ha : 0 ≤ a) (hb : 1 ≤ b) : 0 ≤ a.tdiv b ∧ a.tdiv b ≤ a := by
  rw [Int.tdiv_eq_ediv_of_nonneg ha]
  exact ⟨Int.ediv_nonneg ha (by omega), Int.ediv_le_self _ ha⟩
theorem walked_ok {m : Mine} (h : m.ok) (k : Nat) (hk : k < m.roads.length) (back : Bool) (up down level : Int) (hu : 1 ≤ up) (hu2 : up ≤ 100) (hd : 1 ≤ down) (hd2 : down ≤ 100) (hl : 1 ≤ level) (hl2 : level ≤ 100) :
    CALL 0 N.ref03_walked [.t m.e, I k, B back, I up, I down, I level] [] = some (I (walkT m k back up down level), []) := by
  refine CALL_of K.t_ref03_walked rfl ?_
  have hc := check_ok h
  have nr := h.nr
  have np := h.np
  obtain ⟨f0, f1, t0, t1, -, l0, l1, -, -, -, -, -, -, -, -⟩ := h.rs _ (nth_mem hk)
  have he := ends_ok (nth m.roads k) back
  have b1 := h.hs _ (nth_mem (l := m.places) (j := (nth m.roads k).frm.toNat) (by omega))
  have b2 := h.hs _ (nth_mem (l := m.places) (j := (nth m.roads k).to.toNat) (by omega))
  unfold walkT
  generalize hx : nth m.roads k = x at *
  obtain ⟨frm, to, len, area, walk, closed, rl, rh, ll, lh⟩ := x
  simp only at f0 f1 t0 t1 l0 l1 b1 b2 he ⊢
  cases closed with
  | true => simp (disch := omega) only [go_sem, K.ref03_walked, ↓reduceIte, hc, hx]
  | false =>
    cases walk with
    | false => simp (disch := omega) only [go_sem, K.ref03_walked, ↓reduceIte, hc, hx]
    | true =>
      have g1 := tdiv_bd (a := 10 * len + up - 1) (b := up) (by omega) hu
      have g2 := tdiv_bd (a := 10 * len + down - 1) (b := down) (by omega) hd
      have g3 := tdiv_bd (a := 10 * len + level - 1) (b := level) (by omega) hl
      cases back with
      | true =>
        simp only [↓reduceIte] at he ⊢
        have w1 : IntKind.i64.wrap ((nth m.places frm.toNat).h - (nth m.places to.toNat).h) = (nth m.places frm.toNat).h - (nth m.places to.toNat).h := wrap_id (by omega) (by omega)
        by_cases c2 : len < -10 * ((nth m.places frm.toNat).h - (nth m.places to.toNat).h)
        · simp (disch := omega) only [go_sem, K.ref03_walked, ↓reduceIte, hc, hx, he, w1, gt_iff_lt]
        · by_cases c1 : len < 10 * ((nth m.places frm.toNat).h - (nth m.places to.toNat).h)
          · simp (disch := omega) only [go_sem, K.ref03_walked, ↓reduceIte, hc, hx, he, w1, gt_iff_lt]
          · simp (disch := omega) only [go_sem, K.ref03_walked, ↓reduceIte, hc, hx, he, w1, gt_iff_lt]
      | false =>
        simp only [Bool.false_eq_true, ↓reduceIte] at he ⊢
        have w1 : IntKind.i64.wrap ((nth m.places to.toNat).h - (nth m.places frm.toNat).h) = (nth m.places to.toNat).h - (nth m.places frm.toNat).h := wrap_id (by omega) (by omega)
        by_cases c2 : len < -10 * ((nth m.places to.toNat).h - (nth m.places frm.toNat).h)
        · simp (disch := omega) only [go_sem, K.ref03_walked, ↓reduceIte, hc, hx, he, w1, gt_iff_lt]
        · by_cases c1 : len < 10 * ((nth m.places to.toNat).h - (nth m.places frm.toNat).h)
          · simp (disch := omega) only [go_sem, K.ref03_walked, ↓reduceIte, hc, hx, he, w1, gt_iff_lt]
          · simp (disch := omega) only [go_sem, K.ref03_walked, ↓reduceIte, hc, hx, he, w1, gt_iff_lt]
theorem time_ok {m : Mine} (h : m.ok) (k : Nat) (hk : k < m.roads.length) (back : Bool) : CALL 0 N.ref03_Time [.t m.e, I k, B back] [] = some (I (walkT m k back 6 9 12), []) := by
  refine CALL_of K.t_ref03_Time rfl ?_
  have hw := walked_ok h k hk back 6 9 12 (by omega) (by omega) (by omega) (by omega) (by omega) (by omega)
  simp (disch := omega) only [go_sem, K.ref03_Time, ↓reduceIte, hw]
theorem walkT_lo {m : Mine} (h : m.ok) (k : Nat) (hk : k < m.roads.length) (back : Bool) : -1 ≤ walkT m k back 6 9 12 ∧ walkT m k back 6 9 12 ≤ 1000012 := by
  have l0 := (h.rs _ (nth_mem hk)).l0
  have l1 := (h.rs _ (nth_mem hk)).l1
  unfold walkT
  simp only
  split
  · omega
  · generalize hs : (if -10 * _ > (nth m.roads k).len then (9 : Int) else _) = s
    have h1 : 1 ≤ s ∧ s ≤ 12 := by
      rw [← hs]
      split
      · omega
      · split <;> omega
    have g1 := tdiv_bd (a := 10 * (nth m.roads k).len + s - 1) (b := s) (by omega) h1.1
    omega
def bnd (l : List Int) : Prop := ∀ x ∈ l, 0 ≤ x ∧ x ≤ 1099511627776
def lowerC (l : List Int) (p q : Nat) (walk t : Int) : Bool :=
  decide (0 ≤ walk) && decide (nth l p < 1099511627776) && decide (max t (nth l p + walk) ≤ 2147483648) && decide (max t (nth l p + walk) < nth l q)
def lowerF (l : List Int) (p q : Nat) (walk t : Int) : List Int := if lowerC l p q walk t = true then l.set q (max t (nth l p + walk)) else l
theorem lower_ok (l : List Int) (hb : bnd l) (hl : l.length ≤ 64) (p q : Int) (hp : 0 ≤ p) (hp2 : p < l.length) (hq : 0 ≤ q) (hq2 : q < l.length) (walk t : Int) (hw : walk ≤ 1000000000) (ht : t ≤ 1000000000000) (ht0 : -1000000000000 ≤ t) :
    CALL 0 N.ref25_lower [.ref 0 0 l.length, I p, I q, I walk, I t] [.arr 1 false 0 ((l.map (T.int .i64)).map .t)] =
      some (B (lowerC l p.toNat q.toNat walk t), [.arr 1 false 0 (((lowerF l p.toNat q.toNat walk t).map (T.int .i64)).map .t)]) := by
  refine CALL_of K.t_ref25_lower rfl ?_
  have b1 := hb _ (nth_mem (l := l) (j := p.toNat) (by omega))
  have b2 := hb _ (nth_mem (l := l) (j := q.toNat) (by omega))
  clear hb
  unfold lowerF lowerC
  by_cases c1 : 0 ≤ walk
  · by_cases c2 : nth l p.toNat < 1099511627776
    · by_cases c3 : max t (nth l p.toNat + walk) ≤ 2147483648
      · by_cases c4 : max t (nth l p.toNat + walk) < nth l q.toNat
        · simp (disch := omega) only [go_sem, K.ref25_lower, ↓reduceIte]
        · simp (disch := omega) only [go_sem, K.ref25_lower, ↓reduceIte]
      · simp (disch := omega) only [go_sem, K.ref25_lower, ↓reduceIte]
    · simp (disch := omega) only [go_sem, K.ref25_lower, ↓reduceIte]
  · simp (disch := omega) only [go_sem, K.ref25_lower, ↓reduceIte]
def inOK (into : Option (List Int)) (p : Int) : Bool := match into with
  | none => true
  | some l => decide (p ∈ l)
def intoD (into : Option (List Int)) : D := match into with
  | none => .nil
  | some l => .t (tL l)
def Road.src (r : Road) (back : Bool) : Int := if back then r.to else r.frm
def Road.dst (r : Road) (back : Bool) : Int := if back then r.frm else r.to
theorem Road.src_ok {n : Nat} {r : Road} (h : r.ok n) (back : Bool) : 0 ≤ r.src back ∧ r.src back < n := by
  unfold Road.src; have := h.f0; have := h.f1; have := h.t0; have := h.t1; cases back <;> simp <;> omega
theorem Road.dst_ok {n : Nat} {r : Road} (h : r.ok n) (back : Bool) : 0 ≤ r.dst back ∧ r.dst back < n := by
  unfold Road.dst; have := h.f0; have := h.f1; have := h.t0; have := h.t1; cases back <;> simp <;> omega
def halfF (m : Mine) (t : Int) (into : Option (List Int)) (k : Nat) (back : Bool) (l : List Int) : List Int × Bool :=
  if inOK into ((nth m.roads k).dst back) = true then
    (lowerF l ((nth m.roads k).src back).toNat ((nth m.roads k).dst back).toNat (walkT m k back 6 9 12) t, lowerC l ((nth m.roads k).src back).toNat ((nth m.roads k).dst back).toNat (walkT m k back 6 9 12) t)
  else (l, false)
def stepF (m : Mine) (t : Int) (into : Option (List Int)) (k : Nat) (s : List Int × Bool) : List Int × Bool :=
  let a := halfF m t into k false s.1
  let b := halfF m t into k true a.1
  (b.1, s.2 || a.2 || b.2)
def stepsF (m : Mine) (t : Int) (into : Option (List Int)) (l : List Int) : Nat → List Int × Bool
  | 0 => (l, false)
  | k + 1 => stepF m t into k (stepsF m t into l k)
def roundF (m : Mine) (t : Int) (into : Option (List Int)) (l : List Int) : List Int × Bool := stepsF m t into l m.roads.length
theorem lowerF_len (l : List Int) (p q : Nat) (w t : Int) : (lowerF l p q w t).length = l.length := by unfold lowerF; split <;> simp
theorem halfF_len (m : Mine) (t : Int) (into : Option (List Int)) (k : Nat) (back : Bool) (l : List Int) : (halfF m t into k back l).1.length = l.length := by
  unfold halfF; split
  · exact lowerF_len _ _ _ _ _
  · rfl
theorem stepsF_len (m : Mine) (t : Int) (into : Option (List Int)) (l : List Int) : ∀ k, (stepsF m t into l k).1.length = l.length
  | 0 => rfl
  | k + 1 => by simp only [stepsF, stepF, halfF_len, stepsF_len m t into l k]
theorem bnd_set {l : List Int} (h : bnd l) {q : Nat} {x : Int} (h0 : 0 ≤ x) (h1 : x ≤ 1099511627776) : bnd (l.set q x) := by
  intro y hy
  rcases List.mem_or_eq_of_mem_set hy with hy | hy
  · exact h y hy
  · subst hy; exact ⟨h0, h1⟩
theorem lowerF_bnd {l : List Int} (h : bnd l) {p q : Nat} (hp : p < l.length) {w t : Int} : bnd (lowerF l p q w t) := by
  unfold lowerF
  split
  · rename_i hc
    simp only [lowerC, Bool.and_eq_true, decide_eq_true_eq] at hc
    have := h _ (nth_mem hp)
    exact bnd_set h (by omega) (by omega)
  · exact h
section
variable {m : Mine} (h : m.ok) {t : Int} {into : Option (List Int)}
include h
theorem halfF_bnd {l : List Int} (hl : l.length = m.places.length) (hb : bnd l) {k : Nat} (hk : k < m.roads.length) (back : Bool) : bnd (halfF m t into k back l).1 := by
  have r1 := Road.src_ok (h.rs _ (nth_mem hk)) back
  unfold halfF
  split
  · exact lowerF_bnd hb (by omega)
  · exact hb
theorem stepsF_bnd {l : List Int} (hl : l.length = m.places.length) (hb : bnd l) : ∀ k, k ≤ m.roads.length → bnd (stepsF m t into l k).1
  | 0, _ => hb
  | k + 1, hk => by
    simp only [stepsF, stepF]
    exact halfF_bnd h (by rw [halfF_len, stepsF_len, hl]) (halfF_bnd h (by rw [stepsF_len, hl]) (stepsF_bnd hl hb k (by omega)) (by omega) _) (by omega) _
end
def sumN (l : List Int) : Nat := (l.map Int.toNat).sum
theorem sumN_set : ∀ {l : List Int} {q : Nat} {x : Int}, q < l.length → 0 ≤ x → x < nth l q → sumN (l.set q x) < sumN l
  | [], q, x, h, _, _ => by simp at h
  | a :: l, 0, x, _, h0, h1 => by
    have h1 : x < a := by simpa [nth] using h1
    simp only [sumN, List.set_cons_zero, List.map_cons, List.sum_cons]; omega
  | a :: l, q + 1, x, h, h0, h1 => by
    have := sumN_set (l := l) (q := q) (x := x) (by simpa using h) h0 (by simpa [nth] using h1)
    simp only [sumN, List.set_cons_succ, List.map_cons, List.sum_cons] at this ⊢; omega
theorem lowerF_sum {l : List Int} (hb : bnd l) {p q : Nat} (hp : p < l.length) (hq : q < l.length) {w t : Int} :
    (lowerC l p q w t = true → sumN (lowerF l p q w t) < sumN l) ∧ (lowerC l p q w t = false → lowerF l p q w t = l) := by
  unfold lowerF
  constructor
  · intro hc
    rw [if_pos hc]
    simp only [lowerC, Bool.and_eq_true, decide_eq_true_eq] at hc
    have := hb _ (nth_mem hp)
    exact sumN_set hq (by omega) hc.2
  · intro hc; rw [if_neg (by simp [hc])]
section
variable {m : Mine} (h : m.ok) {t : Int} {into : Option (List Int)}
include h
theorem halfF_sum {l : List Int} (hl : l.length = m.places.length) (hb : bnd l) {k : Nat} (hk : k < m.roads.length) (back : Bool) :
    ((halfF m t into k back l).2 = true → sumN (halfF m t into k back l).1 < sumN l) ∧ ((halfF m t into k back l).2 = false → (halfF m t into k back l).1 = l) := by
  have r1 := Road.src_ok (h.rs _ (nth_mem hk)) back
  have r2 := Road.dst_ok (h.rs _ (nth_mem hk)) back
  unfold halfF
  split
  · exact lowerF_sum hb (by omega) (by omega)
  · simp
theorem stepsF_sum {l : List Int} (hl : l.length = m.places.length) (hb : bnd l) : ∀ k, k ≤ m.roads.length →
    ((stepsF m t into l k).2 = true → sumN (stepsF m t into l k).1 < sumN l) ∧ ((stepsF m t into l k).2 = false → (stepsF m t into l k).1 = l)
  | 0, _ => ⟨fun h => by simp [stepsF] at h, fun _ => rfl⟩
  | k + 1, hk => by
    obtain ⟨i1, i2⟩ := stepsF_sum hl hb k (by omega)
    have hb1 := stepsF_bnd h (t := t) (into := into) hl hb k (by omega)
    have hl1 : (stepsF m t into l k).1.length = m.places.length := by rw [stepsF_len, hl]
    obtain ⟨a1, a2⟩ := halfF_sum h (t := t) (into := into) hl1 hb1 (k := k) (by omega) false
    have hb2 := halfF_bnd h (t := t) (into := into) hl1 hb1 (k := k) (by omega) false
    obtain ⟨c1, c2⟩ := halfF_sum h (t := t) (into := into) (by rw [halfF_len, hl1]) hb2 (k := k) (by omega) true
    simp only [stepsF, stepF]
    generalize stepsF m t into l k = s at *
    obtain ⟨sl, sb⟩ := s
    simp only at *
    generalize halfF m t into k false sl = a at *
    obtain ⟨al, ab⟩ := a
    simp only at *
    generalize halfF m t into k true al = b at *
    obtain ⟨bl, bb⟩ := b
    simp only at *
    cases sb <;> cases ab <;> cases bb <;> simp_all <;> omega
end
end Go.Ev

namespace Go.Ev
open Go
variable [Lib] [Has1] [Has2]
abbrev mineCells (m : Mine) : List D := [.t (.sl (m.places.map Place.e)), .t (.sl (m.roads.map Road.e))]
theorem eq_into (H : Heap) (into : Option (List Int)) (hi : ∀ l, into = some l → l ≠ []) : opEqk H .sl false (some (intoD into)) (some .nil) = some (B (into.isNone), H) := by
  cases into with
  | none => rfl
  | some l => exact opEqk_sl H _ (by simpa using hi l rfl)
@[go_sem] theorem old_intoD (k n : Nat) (into : Option (List Int)) : old k n (intoD into) = true := by
  cases into <;> simp only [intoD, go_sem]
theorem close_step {m : Mine} (h : m.ok) (t : Int) (ht : t ≤ 1000000000000) (ht0 : -1000000000000 ≤ t) (into : Option (List Int)) (hi : ∀ l, into = some l → l ≠ [] ∧ l.length ≤ 64) (l : List Int) (hl : l.length = m.places.length) (hb : bnd l)
    (k : Nat) (hk : k < m.roads.length) (ag : Bool) :
    roundC true [0, 1, 5, 9] 2 (exS CALL K.ref25_close_l2b ⟨[.und, .und, I t, intoD into, .bp 0 0, .und, .ref 1 0 l.length, B ag, I k, .und], [.box (mineCells m), .arr 1 false 0 ((l.map (T.int .i64)).map .t)]⟩) =
      some ⟨[.und, .und, I t, intoD into, .bp 0 0, .und, .ref 1 0 (stepF m t into k (l, ag)).1.length, B (stepF m t into k (l, ag)).2, I (k + 1), .und], [.box (mineCells m), .arr 1 false 0 (((stepF m t into k (l, ag)).1.map (T.int .i64)).map .t)]⟩ := by
  have np := h.np
  have nr := h.nr
  have t1 := time_ok h k hk false
  have t2 := time_ok h k hk true
  have w1 := (walkT_lo h k hk false).2
  have w2 := (walkT_lo h k hk true).2
  obtain ⟨f0, f1, t0, t1', -, -, -, -, -, -, -, -, -, -, -⟩ := h.rs _ (nth_mem hk)
  have e0 := fun H => eq_into H into fun l hl => (hi l hl).1
  have lw1 := lower_ok l hb (by omega) (nth m.roads k).frm (nth m.roads k).to f0 (by omega) t0 (by omega) (walkT m k false 6 9 12) t (by omega) ht ht0
  have lw2 := lower_ok l hb (by omega) (nth m.roads k).to (nth m.roads k).frm t0 (by omega) f0 (by omega) (walkT m k true 6 9 12) t (by omega) ht ht0
  have hl' : (lowerF l (nth m.roads k).frm.toNat (nth m.roads k).to.toNat (walkT m k false 6 9 12) t).length = l.length := lowerF_len ..
  have lw3 := lower_ok _ (lowerF_bnd hb (p := (nth m.roads k).frm.toNat) (q := (nth m.roads k).to.toNat) (w := walkT m k false 6 9 12) (t := t) (by omega)) (by omega) (nth m.roads k).to (nth m.roads k).frm t0 (by omega) f0 (by omega) (walkT m k true 6 9 12) t (by omega) ht ht0
  rw [hl'] at lw3
  simp only [stepF, halfF, Road.src, Road.dst, Bool.false_eq_true, ↓reduceIte]
  generalize hx : nth m.roads k = x at *
  obtain ⟨frm, to, len, area, walk, closed, rl, rh, ll, lh⟩ := x
  simp only at f0 f1 t0 t1' lw1 lw2 lw3 hl' ⊢
  generalize hw1 : walkT m k false 6 9 12 = v1 at *
  generalize hw2 : walkT m k true 6 9 12 = v2 at *
  clear hb
  cases into with
  | none =>
    simp only [intoD, inOK, ↓reduceIte, Option.isNone] at e0 ⊢
    cases c1 : lowerC l frm.toNat to.toNat v1 t <;> cases c2 : lowerC (lowerF l frm.toNat to.toNat v1 t) to.toNat frm.toNat v2 t <;> rw [c1] at lw1 <;> rw [c2] at lw3 <;>
    simp (disch := omega) only [go_sem, K.ref25_close_l2b, ↓reduceIte, hx, e0, t1, t2, lw1, lw3, lowerF_len, Nat.reduceAdd, Nat.reduceSub]
  | some s =>
    have hs := (hi s rfl).2
    have g1 := has_ok s to (by omega)
    have g2 := has_ok s frm (by omega)
    simp only [intoD, inOK, Option.isNone] at e0 ⊢
    by_cases m1 : to ∈ s <;> by_cases m2 : frm ∈ s
    · simp only [m1, m2, decide_true, ↓reduceIte] at g1 g2 ⊢
      cases c1 : lowerC l frm.toNat to.toNat v1 t <;> cases c2 : lowerC (lowerF l frm.toNat to.toNat v1 t) to.toNat frm.toNat v2 t <;> rw [c1] at lw1 <;> rw [c2] at lw3 <;>
      simp (disch := omega) only [go_sem, K.ref25_close_l2b, ↓reduceIte, hx, e0, t1, t2, lw1, lw3, g1, g2, c1, Bool.or_true, Bool.or_false, lowerF_len, Nat.reduceAdd, Nat.reduceSub]
    · simp only [m1, m2, decide_true, decide_false, ↓reduceIte] at g1 g2 ⊢
      cases c1 : lowerC l frm.toNat to.toNat v1 t <;> rw [c1] at lw1 <;> 
      simp (disch := omega) only [go_sem, K.ref25_close_l2b, ↓reduceIte, hx, e0, t1, t2, lw1, g1, g2, c1, Bool.or_true, Bool.or_false, lowerF_len, Nat.reduceAdd, Nat.reduceSub]
    · simp only [m1, m2, decide_true, decide_false, ↓reduceIte] at g1 g2 ⊢
      cases c1 : lowerC l to.toNat frm.toNat v2 t <;> rw [c1] at lw2 <;> 
      simp (disch := omega) only [go_sem, K.ref25_close_l2b, ↓reduceIte, hx, e0, t1, t2, lw2, g1, g2, c1, Bool.or_true, Bool.or_false, lowerF_len, Nat.reduceAdd, Nat.reduceSub]
    · simp only [m1, m2, decide_false, ↓reduceIte] at g1 g2 ⊢
      simp (disch := omega) only [go_sem, K.ref25_close_l2b, ↓reduceIte, hx, e0, t1, t2, g1, g2, Nat.reduceAdd, Nat.reduceSub]
theorem close_ok {m : Mine} (h : m.ok) (t : Int) (ht : t ≤ 1000000000000) (ht0 : -1000000000000 ≤ t) (into : Option (List Int)) (hi : ∀ l, into = some l → l ≠ [] ∧ l.length ≤ 64) (l : List Int) (hl : l.length = m.places.length) (hb : bnd l) :
    CALL 0 N.ref25_close [.t m.e, .t (tL l), I t, intoD into] [] = some (.t (tL (closeN (roundF m t into) (sumN l + 1) l)), []) ∧ (closeN (roundF m t into) (sumN l + 1) l).length = m.places.length ∧ bnd (closeN (roundF m t into) (sumN l + 1) l) := by
  have nr := h.nr
  have inner : ∀ (l : List Int), l.length = m.places.length → bnd l → ∀ (a b c d : D), exS CALL K.ref25_close_l2 ⟨[a, b, I t, intoD into, .bp 0 0, c, .ref 1 0 l.length, B false, I 0, d], [.box (mineCells m), .arr 1 false 0 ((l.map (T.int .i64)).map .t)]⟩ =
      some (.exit 2, ⟨[.und, .und, I t, intoD into, .bp 0 0, .und, .ref 1 0 l.length, B (roundF m t into l).2, I m.roads.length, .und], [.box (mineCells m), .arr 1 false 0 (((roundF m t into l).1.map (T.int .i64)).map .t)]⟩) := by
    intro l hl hb a b c d
    refine loop_up (fun j => ⟨[.und, .und, I t, intoD into, .bp 0 0, .und, .ref 1 0 (stepsF m t into l j).1.length, B (stepsF m t into l j).2, I j, .und], [.box (mineCells m), .arr 1 false 0 (((stepsF m t into l j).1.map (T.int .i64)).map .t)]⟩) m.roads.length rfl ?_ ?_ (by simp)
    · intro j hj
      have := close_step h t ht ht0 into hi (stepsF m t into l j).1 (by rw [stepsF_len, hl]) (stepsF_bnd h hl hb j (by omega)) j hj (stepsF m t into l j).2
      exact this
    · simp (disch := omega) only [go_sem, K.ref25_close_l2b, ↓reduceIte, roundF, stepsF_len]
  have outer := fun (a b c d e : D) => loop_again (gc := true) (dead := [0, 1, 5, 8, 9]) (c := K.ref25_close_l1b) (vs := [a, b, I t, intoD into, .bp 0 0, c, .ref 1 0 l.length, B true, d, e]) (H := [.box (mineCells m), .arr 1 false 0 ((l.map (T.int .i64)).map .t)])
    (fun l ag => ⟨[.und, .und, I t, intoD into, .bp 0 0, .und, .ref 1 0 l.length, B ag, .und, .und], [.box (mineCells m), .arr 1 false 0 ((l.map (T.int .i64)).map .t)]⟩)
    (fun l => (.exit 0, ⟨[.und, .und, I t, intoD into, .bp 0 0, .und, .ref 1 0 l.length, B false, .und, .und], [.box (mineCells m), .arr 1 false 0 ((l.map (T.int .i64)).map .t)]⟩))
    (roundF m t into) (fun l => l.length = m.places.length ∧ bnd l) sumN
    (fun l ⟨hl, hb⟩ => ⟨⟨by rw [roundF, stepsF_len, hl], stepsF_bnd h hl hb _ (Nat.le_refl _)⟩, (stepsF_sum h hl hb _ (Nat.le_refl _)).1⟩)
    (by
      rintro l ⟨hl, hb⟩
      have := inner l hl hb
      have e : (roundF m t into l).1.length = l.length := by rw [roundF, stepsF_len]
      simp (disch := omega) only [go_sem, K.ref25_close_l1b, ↓reduceIte, this, e])
    (by
      rintro l ⟨hl, hb⟩
      simp (disch := omega) only [go_sem, K.ref25_close_l1b, ↓reduceIte, reduceCtorEq, ne_eq, not_false_eq_true, and_self])
    l ⟨hl, hb⟩ rfl
  obtain ⟨-, o2⟩ := outer .und .und .und .und .und
  refine ⟨?_, o2⟩
  refine CALL_of K.t_ref25_close rfl ?_
  have o1 : ∀ a b c d e : D, exS CALL K.ref25_close_l1 ⟨[a, b, I t, intoD into, .bp 0 0, c, .ref 1 0 l.length, B true, d, e], [.box (mineCells m), .arr 1 false 0 ((l.map (T.int .i64)).map .t)]⟩ = _ := fun a b c d e => (outer a b c d e).1
  clear outer inner
  have np := h.np
  have o2 := o2.1
  generalize closeN (roundF m t into) (sumN l + 1) l = l2 at *
  cases into with
  | none =>
    simp only [intoD] at o1
    simp (disch := omega) only [go_sem, K.ref25_close, ↓reduceIte, o1, intoD]
  | some s =>
    simp only [intoD] at o1
    simp (disch := omega) only [go_sem, K.ref25_close, ↓reduceIte, o1, intoD]
end Go.Ev

namespace Go.Ev
open Go
variable [Lib] [Has1] [Has2]
structure Wh where
  time : Int
  frm : List Int
instance : Dat Wh := ⟨⟨0, []⟩⟩
abbrev Wh.e (w : Wh) : T := .agg [tI w.time, tL w.frm]
def closeF (m : Mine) (t : Int) (into : Option (List Int)) (l : List Int) : List Int := closeN (roundF m t into) (sumN l + 1) l
def inT (t : Int) : Prop := 0 ≤ t ∧ t ≤ 2147483648
instance (t : Int) : Decidable (inT t) := by unfold inT; infer_instance
def plT (x : Int) : Prop := x = 1099511627776 ∨ inT x
instance (t : Int) : Decidable (plT t) := by unfold plT; infer_instance
def plainB (w : Wh) (n : Int) : Bool := decide ((w.frm.length : Int) = n ∧ inT w.time) && (List.range w.frm.length).all fun j => decide (plT (nth w.frm j))
theorem plT_bnd {x : Int} (h : plT x) : 0 ≤ x ∧ x ≤ 1099511627776 := by unfold plT inT at h; omega
theorem inTime_ok (t : Int) : CALL 0 N.ref25_inTime [I t] [] = some (B (decide (inT t)), []) := by
  refine CALL_of K.t_ref25_inTime rfl ?_
  unfold inT
  by_cases h1 : 0 ≤ t <;> by_cases h2 : t ≤ 2147483648 <;> simp (disch := omega) only [go_sem, K.ref25_inTime, ↓reduceIte, h1, h2]
theorem Close_ok {m : Mine} (h : m.ok) (t : Int) (ht : inT t) (l : List Int) (hl : l.length = m.places.length) (hb : bnd l) :
    CALL 0 N.ref25_Close [.t m.e, .t (tL l), I t] [] = some (.t (tL (closeF m t none l)), []) := by
  refine CALL_of K.t_ref25_Close rfl ?_
  unfold inT at ht
  have := (close_ok h t (by omega) (by omega) none (by simp) l hl hb).1
  simp only [intoD] at this
  unfold closeF
  simp (disch := omega) only [go_sem, K.ref25_Close, ↓reduceIte, this]
theorem plain_ok (w : Wh) (n : Int) (hl : w.frm.length ≤ 4294967296) : CALL 0 N.ref25_Plain [.t w.e, I n] [] = some (B (plainB w n), []) := by
  refine CALL_of K.t_ref25_Plain rfl ?_
  obtain ⟨time, frm⟩ := w
  simp only at hl
  have loop : ∀ a b c : D, exS CALL K.ref25_Plain_l1 ⟨[a, b, .bp 0 0, c, I 0], [.box [I time, .t (tL frm)]]⟩ =
      some (match (List.range frm.length).find? (fun j => !decide (plT (nth frm j))) with
        | some j => (.ret, ⟨[.und, .und, .bp 0 0, B false, I j], [.box [I time, .t (tL frm)]]⟩)
        | none => (.exit 0, ⟨[.und, .und, .bp 0 0, .und, I frm.length], [.box [I time, .t (tL frm)]]⟩)) := by
    intro a b c
    refine loop_first (fun j => ⟨[.und, .und, .bp 0 0, .und, I j], [.box [I time, .t (tL frm)]]⟩) frm.length (fun j => !decide (plT (nth frm j))) _ _ rfl ?_ ?_ ?_ (by simp)
    · intro j hj hp
      have hp : plT (nth frm j) := by simpa using hp
      unfold plT inT at hp
      by_cases h1 : nth frm j = 1099511627776
      · simp (disch := omega) only [go_sem, K.ref25_Plain_l1b, ↓reduceIte, h1]
      · simp (disch := omega) only [go_sem, K.ref25_Plain_l1b, ↓reduceIte]
    · intro j hj hp
      have hp : ¬ plT (nth frm j) := by simpa using hp
      unfold plT inT at hp
      by_cases h2 : 0 ≤ nth frm j
      · simp (disch := omega) only [go_sem, K.ref25_Plain_l1b, ↓reduceIte]
        simp
      · simp (disch := omega) only [go_sem, K.ref25_Plain_l1b, ↓reduceIte]
        simp
    · simp (disch := omega) only [go_sem, K.ref25_Plain_l1b, ↓reduceIte]
  unfold plainB
  rw [find_all]
  by_cases h1 : (frm.length : Int) = n
  · by_cases h2 : 0 ≤ time
    · by_cases h3 : time ≤ 2147483648
      · have h4 : inT time := ⟨h2, h3⟩
        simp (disch := omega) only [go_sem, K.ref25_Plain, ↓reduceIte, loop, h1]
        cases hf : (List.range frm.length).find? (fun j => !decide (plT (nth frm j))) with
        | some j => simp (disch := omega) only [go_sem, ↓reduceIte, Option.isNone]
        | none => simp (disch := omega) only [go_sem, ↓reduceIte, Option.isNone, h4, and_self, decide_true]
      · have h4 : ¬ inT time := by unfold inT; omega
        simp (disch := omega) only [go_sem, K.ref25_Plain, ↓reduceIte, loop, h1, h4, and_false, decide_false]
    · have h4 : ¬ inT time := by unfold inT; omega
      simp (disch := omega) only [go_sem, K.ref25_Plain, ↓reduceIte, loop, h1, h4, and_false, decide_false]
  · simp (disch := omega) only [go_sem, K.ref25_Plain, ↓reduceIte, loop, h1, false_and, decide_false]
def validB (m : Mine) (w : Wh) : Bool := plainB w m.places.length && decide (closeF m w.time none w.frm = w.frm)
theorem plainB_spec {w : Wh} {n : Int} (h : plainB w n = true) : (w.frm.length : Int) = n ∧ inT w.time ∧ ∀ x ∈ w.frm, plT x := by
  simp only [plainB, Bool.and_eq_true, decide_eq_true_eq, List.all_eq_true, List.mem_range] at h
  refine ⟨h.1.1, h.1.2, fun x hx => ?_⟩
  obtain ⟨j, hj⟩ := List.mem_iff_getElem?.1 hx
  have := h.2 j (List.getElem?_eq_some_iff.1 hj).1
  rwa [nth_eq hj] at this
theorem closeF_len {m : Mine} (h : m.ok) (t : Int) (ht : inT t) (into : Option (List Int)) (hi : ∀ l, into = some l → l ≠ [] ∧ l.length ≤ 64) {l : List Int} (hl : l.length = m.places.length) (hb : bnd l) : (closeF m t into l).length = m.places.length := by
  unfold inT at ht
  exact (close_ok h t (by omega) (by omega) into hi l hl hb).2.1
theorem closeF_bnd {m : Mine} (h : m.ok) (t : Int) (ht : inT t) (into : Option (List Int)) (hi : ∀ l, into = some l → l ≠ [] ∧ l.length ≤ 64) {l : List Int} (hl : l.length = m.places.length) (hb : bnd l) : bnd (closeF m t into l) := by
  unfold inT at ht
  exact (close_ok h t (by omega) (by omega) into hi l hl hb).2.2
theorem valid_ok {m : Mine} (h : m.ok) (w : Wh) (hl : w.frm.length ≤ 4294967296) : CALL 0 N.ref25_Valid [.t m.e, .t w.e] [] = some (B (validB m w), []) := by
  refine CALL_of K.t_ref25_Valid rfl ?_
  have c := check_ok h
  have p := plain_ok w m.places.length hl
  have np := h.np
  unfold validB
  cases hp : plainB w m.places.length with
  | false =>
    rw [hp] at p
    obtain ⟨time, frm⟩ := w
    simp (disch := omega) only [go_sem, K.ref25_Valid, ↓reduceIte, c, p, Bool.false_and, Nat.reduceAdd, Nat.reduceSub]
  | true =>
    obtain ⟨h1, h2, h3⟩ := plainB_spec hp
    rw [hp] at p
    have hb : bnd w.frm := fun x hx => plT_bnd (h3 x hx)
    have cl := Close_ok h w.time h2 w.frm (by omega) hb
    have ln := closeF_len h w.time h2 none (by simp) (l := w.frm) (by omega) hb
    obtain ⟨time, frm⟩ := w
    simp only at *
    have sm := same_ok (closeF m time none frm) frm (by omega)
    simp (disch := omega) only [go_sem, K.ref25_Valid, ↓reduceIte, c, p, cl, sm, Bool.true_and, Nat.reduceAdd, Nat.reduceSub]
theorem copy_ok (w : Wh) (hl : w.frm.length ≤ 4294967296) : CALL 0 N.ref25_Copy [.t w.e] [] = some (.t w.e, []) := by
  refine CALL_of K.t_ref25_Copy rfl ?_
  obtain ⟨time, frm⟩ := w
  simp only at *
  simp (disch := omega) only [go_sem, K.ref25_Copy, ↓reduceIte, Nat.reduceAdd, Nat.reduceSub]
end Go.Ev

namespace Go.Ev
open Go
variable [Lib] [Has1] [Has2]
def neverL (n : Nat) : List Int := List.replicate n 1099511627776
theorem neverL_succ (n : Nat) : neverL (n + 1) = neverL n ++ [1099511627776] := List.replicate_succ'
@[simp] theorem neverL_len (n : Nat) : (neverL n).length = n := List.length_replicate
theorem neverL_bnd (n : Nat) : bnd (neverL n) := fun x hx => by rw [List.eq_of_mem_replicate hx]; omega
theorem never_loop (n : Nat) (hn : n ≤ 1000000) (a : D) : exS CALL K.ref25_never_l1 ⟨[I n, a, .ref 0 0 0, I 0], [.arr 1 false 0 []]⟩ =
      some (.exit 0, ⟨[I n, .und, .ref 0 0 n, I n], [.arr 1 false 0 (((neverL n).map (T.int .i64)).map .t)]⟩) := by
  refine loop_up (fun j => ⟨[I n, .und, .ref 0 0 (neverL j).length, I j], [.arr 1 false 0 (((neverL j).map (T.int .i64)).map .t)]⟩) n rfl ?_ ?_ (by simp)
  · intro j hj
    have := neverL_len j
    simp (disch := omega) only [go_sem, K.ref25_never_l1b, neverL_succ, ↓reduceIte]
  · simp (disch := omega) only [go_sem, K.ref25_never_l1b, ↓reduceIte, neverL_len]
theorem never_ok1 (n : Nat) (hn : n ≤ 1000000) : CALL 1 N.ref25_never [I n] [] = some (.ref 0 0 n, [.arr 1 false 0 (((neverL n).map (T.int .i64)).map .t)]) := by
  refine CALL_of K.t_ref25_never rfl ?_
  have := never_loop n hn
  simp (disch := omega) only [go_sem, K.ref25_never, ↓reduceIte, this]
def startF (m : Mine) (p t : Int) : Wh × Int :=
  if p < 0 ∨ (m.places.length : Int) ≤ p then (⟨0, []⟩, 3) else if inT t then (⟨t, closeF m t none ((neverL m.places.length).set p.toNat t)⟩, 0) else (⟨0, []⟩, 8)
theorem start_ok {m : Mine} (h : m.ok) (p t : Int) : CALL 0 N.ref25_Start [.t m.e, I p, I t] [] = some (.tup [.t (startF m p t).1.e, I (startF m p t).2], []) := by
  refine CALL_of K.t_ref25_Start rfl ?_
  have c := check_ok h
  have np := h.np
  have it := inTime_ok t
  have nl := neverL_len m.places.length
  have nv := never_ok1 m.places.length (by omega)
  unfold startF
  by_cases h1 : p < 0
  · simp (disch := omega) only [go_sem, K.ref25_Start, ↓reduceIte, c, h1, true_or]
    rfl
  · by_cases h2 : (m.places.length : Int) ≤ p
    · simp (disch := omega) only [go_sem, K.ref25_Start, ↓reduceIte, c, h1, h2, or_true]
      rfl
    · by_cases h3 : inT t
      · have b : bnd ((neverL m.places.length).set p.toNat t) := bnd_set (neverL_bnd _) h3.1 (by have := h3.2; omega)
        have cl := Close_ok h t h3 ((neverL m.places.length).set p.toNat t) (by simp) b
        simp only [h3, decide_true] at it
        simp (disch := omega) only [go_sem, K.ref25_Start, ↓reduceIte, c, h1, h2, or_self, h3, it, nv, neverL_len, cl]
      · simp only [h3, decide_false] at it
        simp (disch := omega) only [go_sem, K.ref25_Start, ↓reduceIte, c, h1, h2, or_self, h3, it]
        rfl
def possF (w : Wh) (t : Int) : List Int := whereF w.frm.length fun j => decide (nth w.frm j ≤ t)
def raiseF (w : Wh) (t : Int) : Wh × Int := if t < w.time ∨ 2147483648 < t then (w, 8) else (⟨t, w.frm⟩, 0)
theorem raise_ok (w : Wh) (t : Int) (hl : w.frm.length ≤ 1000000) : CALL 0 N.ref25_Raise [.t w.e, I t] [] = some (.tup [.t (raiseF w t).1.e, I (raiseF w t).2], []) := by
  refine CALL_of K.t_ref25_Raise rfl ?_
  have c := copy_ok w (by omega)
  obtain ⟨time, frm⟩ := w
  simp only [raiseF] at *
  by_cases h1 : t < time
  · simp (disch := omega) only [go_sem, K.ref25_Raise, ↓reduceIte, c, h1, true_or]
  · by_cases h2 : 2147483648 < t
    · simp (disch := omega) only [go_sem, K.ref25_Raise, ↓reduceIte, c, h1, h2, or_true]
    · simp (disch := omega) only [go_sem, K.ref25_Raise, ↓reduceIte, c, h1, h2, or_self]
def askedF (m : Mine) (w : Wh) (places : List Int) (a b : Int) : Int :=
  if validB m w = true ∧ places ≠ [] ∧ setB places m.places.length = true then (if inT a ∧ inT b ∧ a ≤ b then 0 else 8) else 6
theorem asked_ok {m : Mine} (h : m.ok) (w : Wh) (hl : w.frm.length ≤ 1000000) (places : List Int) (hp : places.length ≤ 1000000) (a b : Int) :
    CALL 0 N.ref25_asked [.t m.e, .t w.e, .t (tL places), I a, I b] [] = some (I (askedF m w places a b), []) := by
  refine CALL_of K.t_ref25_asked rfl ?_
  have v := valid_ok h w (by omega)
  have s := set_ok places m.places.length (by omega)
  have np := h.np
  have ia := inTime_ok a
  have ib := inTime_ok b
  obtain ⟨time, frm⟩ := w
  simp only at *
  unfold askedF
  cases hv : validB m ⟨time, frm⟩ with
  | false =>
    rw [hv] at v
    simp (disch := omega) only [go_sem, K.ref25_asked, ↓reduceIte, v, Bool.false_eq_true, false_and]
  | true =>
    rw [hv] at v
    cases places with
    | nil => simp (disch := omega) only [go_sem, K.ref25_asked, ↓reduceIte, v, ne_eq, not_true_eq_false, false_and, and_false, List.length_nil]
    | cons x xs =>
      have hne : 0 < (x :: xs).length := by simp
      generalize hx : x :: xs = l at *
      have hne2 : l ≠ [] := by intro e; rw [e] at hne; simp at hne
      cases hs : setB l m.places.length with
      | false =>
        rw [hs] at s
        simp (disch := omega) only [go_sem, K.ref25_asked, ↓reduceIte, v, s, hne2, ne_eq, not_false_eq_true, true_and, Bool.false_eq_true, and_false]
      | true =>
        rw [hs] at s
        by_cases h1 : inT a
        · by_cases h2 : inT b
          · simp only [h1, h2, decide_true] at ia ib
            by_cases h3 : a ≤ b
            · simp (disch := omega) only [go_sem, K.ref25_asked, ↓reduceIte, v, s, hne2, ia, ib, h1, h2, h3, ne_eq, not_false_eq_true, and_self]
            · simp (disch := omega) only [go_sem, K.ref25_asked, ↓reduceIte, v, s, hne2, ia, ib, h1, h2, h3, ne_eq, not_false_eq_true, and_self, and_false]
          · simp only [h1, h2, decide_true, decide_false] at ia ib
            simp (disch := omega) only [go_sem, K.ref25_asked, ↓reduceIte, v, s, hne2, ia, ib, h1, h2, ne_eq, not_false_eq_true, and_self, and_false, false_and]
        · simp only [h1, decide_false] at ia
          simp (disch := omega) only [go_sem, K.ref25_asked, ↓reduceIte, v, s, hne2, ia, h1, ne_eq, not_false_eq_true, and_self, and_false, false_and]
end Go.Ev

namespace Go.Ev
open Go
variable [Lib] [Has1] [Has2]
theorem setB_nth {l : List Int} {n : Int} (h : setB l n = true) {j : Nat} (hj : j < l.length) : 0 ≤ nth l j ∧ nth l j < n ∧ (0 < j → nth l (j - 1) < nth l j) := by
  simp only [setB, List.all_eq_true, List.mem_range, decide_eq_true_eq] at h
  exact h j hj
theorem setB_up {l : List Int} {n : Int} (h : setB l n = true) : ∀ {j : Nat}, j < l.length → (j : Int) ≤ nth l j
  | 0, hj => by have := setB_nth h hj; omega
  | j + 1, hj => by
    have h1 := setB_up h (j := j) (by omega)
    have := (setB_nth h hj).2.2 (by omega)
    simp only [Nat.add_sub_cancel] at this
    omega
theorem setB_len {l : List Int} {n : Nat} (h : setB l n = true) : l.length ≤ n := by
  cases hl : l.length with
  | zero => omega
  | succ k =>
    have h1 := setB_up h (j := k) (by omega)
    have h2 := (setB_nth h (j := k) (by omega)).2.1
    omega
def seeStep (w : Wh) (t p : Int) (s : List Int × Bool) : List Int × Bool := if nth w.frm p.toNat ≤ t then (s.1.set p.toNat (nth w.frm p.toNat), true) else s
def seeN (w : Wh) (l : List Int) (t : Int) (n : Nat) : Nat → List Int × Bool
  | 0 => (neverL n, false)
  | j + 1 => seeStep w t (nth l j) (seeN w l t n j)
theorem seeN_len (w : Wh) (l : List Int) (t : Int) (n : Nat) : ∀ j, (seeN w l t n j).1.length = n
  | 0 => neverL_len n
  | j + 1 => by
    have := seeN_len w l t n j
    simp only [seeN, seeStep]
    split <;> simp [this]
theorem seeN_bnd {w : Wh} (hw : bnd w.frm) (l : List Int) (t : Int) {n : Nat} (hl : ∀ p ∈ l, 0 ≤ p ∧ p < w.frm.length) : ∀ j, j ≤ l.length → bnd (seeN w l t n j).1
  | 0, _ => neverL_bnd n
  | j + 1, hj => by
    have := seeN_bnd hw l t hl (n := n) j (by omega)
    simp only [seeN, seeStep]
    split
    · have hp := hl _ (nth_mem (l := l) (j := j) (by omega))
      have := hw _ (nth_mem (l := w.frm) (j := (nth l j).toNat) (by omega))
      exact bnd_set (by assumption) this.1 this.2
    · exact this
def seeF (m : Mine) (w : Wh) (l : List Int) (a b : Int) : Wh × Int :=
  if askedF m w l a b ≠ 0 then (w, askedF m w l a b) else if a < w.time then (w, 42) else
  if (seeN w l b m.places.length l.length).2 = true then (⟨b, closeF m a none (seeN w l b m.places.length l.length).1⟩, 0) else (w, 43)
theorem askedF_0 {m : Mine} {w : Wh} {l : List Int} {a b : Int} (h : askedF m w l a b = 0) : validB m w = true ∧ l ≠ [] ∧ setB l m.places.length = true ∧ inT a ∧ inT b ∧ a ≤ b := by
  unfold askedF at h
  split at h
  · rename_i h1
    split at h
    · rename_i h2; exact ⟨h1.1, h1.2.1, h1.2.2, h2⟩
    · omega
  · omega
theorem validB_spec {m : Mine} {w : Wh} (h : validB m w = true) : w.frm.length = m.places.length ∧ inT w.time ∧ (∀ x ∈ w.frm, plT x) ∧ closeF m w.time none w.frm = w.frm := by
  simp only [validB, Bool.and_eq_true, decide_eq_true_eq] at h
  obtain ⟨h1, h2, h3⟩ := plainB_spec h.1
  exact ⟨by omega, h2, h3, h.2⟩
theorem see_ok {m : Mine} (h : m.ok) (w : Wh) (hl : w.frm.length ≤ 1000000) (l : List Int) (hp : l.length ≤ 1000000) (a b : Int) :
    CALL 0 N.ref25_See [.t m.e, .t w.e, .t (tL l), I a, I b] [] = some (.tup [.t (seeF m w l a b).1.e, I (seeF m w l a b).2], []) := by
  refine CALL_of K.t_ref25_See rfl ?_
  have as := asked_ok h w hl l hp a b
  have cp := copy_ok w (by omega)
  have np := h.np
  have nv := never_ok1 m.places.length (by omega)
  have nl := neverL_len m.places.length
  unfold seeF
  by_cases h0 : askedF m w l a b = 0
  · obtain ⟨v1, v2, v3, v4, v5, v6⟩ := askedF_0 h0
    obtain ⟨w1, w2, w3, w4⟩ := validB_spec v1
    have hlen := setB_len v3
    rw [h0] at as ⊢
    obtain ⟨time, frm⟩ := w
    simp only at *
    by_cases h1 : a < time
    · simp (disch := omega) only [go_sem, K.ref25_See, ↓reduceIte, as, cp, h1, ne_eq, not_true_eq_false]
    · have hbw : bnd (Wh.frm ⟨time, frm⟩) := fun x hx => plT_bnd (w3 x hx)
      have hb := seeN_bnd hbw l b (n := m.places.length) (fun p hp => by
        obtain ⟨j, hj⟩ := List.mem_iff_getElem?.1 hp
        have := setB_nth v3 (List.getElem?_eq_some_iff.1 hj).1
        rw [nth_eq hj] at this
        simp only
        omega) l.length (Nat.le_refl _)
      have ln := seeN_len ⟨time, frm⟩ l b m.places.length
      have loop : ∀ x y z u v : D, exS CALL K.ref25_See_l1 ⟨[x, y, .t (tL l), I a, I b, .bp 0 0, .bp 1 0, .bp 2 0, z, u, .ref 3 0 m.places.length, B false, I 0, v], [.box (mineCells m), .box [I time, .t (tL frm)], .box [I 0, .nil], .arr 1 false 0 (((neverL m.places.length).map (T.int .i64)).map .t)]⟩ =
          some (.exit 0, ⟨[.und, .und, .t (tL l), I a, I b, .bp 0 0, .bp 1 0, .bp 2 0, .und, .und, .ref 3 0 m.places.length, B (seeN ⟨time, frm⟩ l b m.places.length l.length).2, I l.length, .und], [.box (mineCells m), .box [I time, .t (tL frm)], .box [I 0, .nil], .arr 1 false 0 ((((seeN ⟨time, frm⟩ l b m.places.length l.length).1).map (T.int .i64)).map .t)]⟩) := by
        intro x y z u v
        refine loop_up (fun j => ⟨[.und, .und, .t (tL l), I a, I b, .bp 0 0, .bp 1 0, .bp 2 0, .und, .und, .ref 3 0 m.places.length, B (seeN ⟨time, frm⟩ l b m.places.length j).2, I j, .und], [.box (mineCells m), .box [I time, .t (tL frm)], .box [I 0, .nil], .arr 1 false 0 ((((seeN ⟨time, frm⟩ l b m.places.length j).1).map (T.int .i64)).map .t)]⟩) l.length rfl ?_ ?_ (by simp)
        · intro j hj
          obtain ⟨p1, p2, -⟩ := setB_nth v3 hj
          have lj := ln j
          by_cases hc : nth frm (nth l j).toNat ≤ b
          · simp (disch := omega) only [go_sem, K.ref25_See_l1b, ↓reduceIte, seeN, seeStep, hc]
          · simp (disch := omega) only [go_sem, K.ref25_See_l1b, ↓reduceIte, seeN, seeStep, hc]
        · simp (disch := omega) only [go_sem, K.ref25_See_l1b, ↓reduceIte]
      have cl := Close_ok h a v4 _ (ln l.length) hb
      have ln := ln l.length
      simp (disch := omega) only [go_sem, K.ref25_See, ↓reduceIte, as, h1, nv, loop, ne_eq, not_true_eq_false]
      cases hs : (seeN ⟨time, frm⟩ l b m.places.length l.length).2 with
      | true => simp (disch := omega) only [go_sem, ↓reduceIte, ln, cl]
      | false => simp (disch := omega) only [go_sem, ↓reduceIte, cp, Bool.false_eq_true]
  · obtain ⟨time, frm⟩ := w
    simp only at *
    simp (disch := omega) only [go_sem, K.ref25_See, ↓reduceIte, as, cp, h0, ne_eq, not_false_eq_true]
end Go.Ev

namespace Go.Ev
open Go
variable [Lib] [Has1] [Has2]
def absN (l0 l : List Int) : Nat → List Int
  | 0 => l0
  | j + 1 => (absN l0 l j).set (nth l j).toNat 1099511627776
theorem absN_len (l0 l : List Int) : ∀ j, (absN l0 l j).length = l0.length
  | 0 => rfl
  | j + 1 => by simp only [absN, List.length_set, absN_len l0 l j]
theorem absN_bnd {l0 : List Int} (h : bnd l0) (l : List Int) : ∀ j, bnd (absN l0 l j)
  | 0 => h
  | j + 1 => bnd_set (absN_bnd h l j) (by omega) (by omega)
def absF (m : Mine) (w : Wh) (l : List Int) (a b bl : Int) : Wh × Int :=
  if askedF m w l a b ≠ 0 then (w, askedF m w l a b) else if ¬ inT bl then (w, 8) else if b < w.time then (w, 42) else if b - max a w.time ≤ bl then (w, 0) else
  (⟨b, closeF m b none (closeF m (b - bl) (some l) (absN w.frm l l.length))⟩, 0)
theorem abs_ok {m : Mine} (h : m.ok) (w : Wh) (hl : w.frm.length ≤ 1000000) (l : List Int) (hp : l.length ≤ 1000000) (a b bl : Int) :
    CALL 0 N.ref25_Absent [.t m.e, .t w.e, .t (tL l), I a, I b, I bl] [] = some (.tup [.t (absF m w l a b bl).1.e, I (absF m w l a b bl).2], []) := by
  refine CALL_of K.t_ref25_Absent rfl ?_
  have as := asked_ok h w hl l hp a b
  have cp := copy_ok w (by omega)
  have ib := inTime_ok bl
  have np := h.np
  unfold absF
  by_cases h0 : askedF m w l a b = 0
  · obtain ⟨v1, v2, v3, v4, v5, v6⟩ := askedF_0 h0
    obtain ⟨w1, w2, w3, w4⟩ := validB_spec v1
    have hlen := setB_len v3
    rw [h0] at as ⊢
    obtain ⟨time, frm⟩ := w
    simp only at *
    by_cases h1 : inT bl
    · by_cases h2 : b < time
      · simp only [h1, decide_true] at ib
        simp (disch := omega) only [go_sem, K.ref25_Absent, ↓reduceIte, as, ib, cp, h1, h2, ne_eq, not_true_eq_false, not_false_eq_true]
      · simp only [h1, decide_true] at ib
        unfold inT at v4 v5 w2 h1
        by_cases h3 : b - max a time ≤ bl
        · simp (disch := omega) only [go_sem, K.ref25_Absent, ↓reduceIte, as, ib, cp, h1, h2, h3, ne_eq, not_true_eq_false, not_false_eq_true, inT, and_self]
        · have hb : bnd frm := fun x hx => plT_bnd (w3 x hx)
          have ln := absN_len frm l
          have lb := absN_bnd hb l
          have loop : ∀ x y z u v w : D, exS CALL K.ref25_Absent_l1 ⟨[x, y, .t (tL l), z, I b, I bl, .bp 0 0, u, .bp 2 0, v, w, .ref 3 0 frm.length, I 0], [.box (mineCells m), .box [I time, .t (tL frm)], .box [I 0, .nil], .arr 1 false 0 ((frm.map (T.int .i64)).map .t)]⟩ =
              some (.exit 0, ⟨[.und, .und, .t (tL l), .und, I b, I bl, .bp 0 0, .und, .bp 2 0, .und, .und, .ref 3 0 frm.length, I l.length], [.box (mineCells m), .box [I time, .t (tL frm)], .box [I 0, .nil], .arr 1 false 0 (((absN frm l l.length).map (T.int .i64)).map .t)]⟩) := by
            intro x y z u v w
            refine loop_up (fun j => ⟨[.und, .und, .t (tL l), .und, I b, I bl, .bp 0 0, .und, .bp 2 0, .und, .und, .ref 3 0 frm.length, I j], [.box (mineCells m), .box [I time, .t (tL frm)], .box [I 0, .nil], .arr 1 false 0 (((absN frm l j).map (T.int .i64)).map .t)]⟩) l.length rfl ?_ ?_ (by simp)
            · intro j hj
              obtain ⟨p1, p2, -⟩ := setB_nth v3 hj
              have lj := ln j
              simp (disch := omega) only [go_sem, K.ref25_Absent_l1b, ↓reduceIte, absN]
            · simp (disch := omega) only [go_sem, K.ref25_Absent_l1b, ↓reduceIte]
          have hi : ∀ s, some l = some s → s ≠ [] ∧ s.length ≤ 64 := by
            intro s hs; cases hs; exact ⟨v2, by omega⟩
          have ln := ln l.length
          have lb := lb l.length
          have t1 : inT (b - bl) := by unfold inT; omega
          have c1 := close_ok h (b - bl) (by omega) (by omega) (some l) hi _ (by omega) lb
          simp only [intoD] at c1
          have c2 := Close_ok h b v5 (closeF m (b - bl) (some l) (absN frm l l.length)) (closeF_len h _ t1 _ hi (by omega) lb) (closeF_bnd h _ t1 _ hi (by omega) lb)
          have c3 := c1.1
          unfold closeF at c2 ⊢
          clear c1
          simp (disch := omega) only [go_sem, K.ref25_Absent, ↓reduceIte, as, ib, loop, c2, c3, ln, h1, h2, h3, ne_eq, not_true_eq_false, not_false_eq_true, inT, and_self, Nat.reduceAdd, Nat.reduceSub]
    · simp only [h1, decide_false] at ib
      simp (disch := omega) only [go_sem, K.ref25_Absent, ↓reduceIte, as, ib, cp, h1, ne_eq, not_true_eq_false, not_false_eq_true]
  · obtain ⟨time, frm⟩ := w
    simp only at *
    simp (disch := omega) only [go_sem, K.ref25_Absent, ↓reduceIte, as, cp, h0, ne_eq, not_false_eq_true]
def minN (a b : List Int) : Nat → List Int
  | 0 => []
  | j + 1 => minN a b j ++ [min (nth a j) (nth b j)]
theorem minN_len (a b : List Int) : ∀ j, (minN a b j).length = j
  | 0 => rfl
  | j + 1 => by simp [minN, minN_len a b j]
def joinF (a b : Wh) : Wh × Int := if a.frm.length = b.frm.length then (⟨max a.time b.time, minN a.frm b.frm a.frm.length⟩, 0) else (⟨0, []⟩, 6)
theorem join_ok (a b : Wh) (ha : a.frm.length ≤ 1000000) : CALL 0 N.ref25_Join [.t a.e, .t b.e] [] = some (.tup [.t (joinF a b).1.e, I (joinF a b).2], []) := by
  refine CALL_of K.t_ref25_Join rfl ?_
  obtain ⟨t1, l1⟩ := a
  obtain ⟨t2, l2⟩ := b
  simp only [joinF] at *
  by_cases hl : l1.length = l2.length
  · have ln := minN_len l1 l2
    have loop : ∀ x y z : D, exS CALL K.ref25_Join_l1 ⟨[x, y, .bp 0 0, .bp 1 0, .bp 2 0, z, .bp 3 0, I 0], [.box [I t1, .t (tL l1)], .box [I t2, .t (tL l2)], .box [I 0, .nil], .box [I (max t1 t2), .ref 5 0 0], .arr 1 false 0 [], .arr 1 false 0 []]⟩ =
        some (.exit 0, ⟨[.und, .und, .bp 0 0, .bp 1 0, .bp 2 0, .und, .bp 3 0, I l1.length], [.box [I t1, .t (tL l1)], .box [I t2, .t (tL l2)], .box [I 0, .nil], .box [I (max t1 t2), .ref 5 0 l1.length], .arr 1 false 0 [], .arr 1 false 0 (((minN l1 l2 l1.length).map (T.int .i64)).map .t)]⟩) := by
      intro x y z
      refine loop_up (fun j => ⟨[.und, .und, .bp 0 0, .bp 1 0, .bp 2 0, .und, .bp 3 0, I j], [.box [I t1, .t (tL l1)], .box [I t2, .t (tL l2)], .box [I 0, .nil], .box [I (max t1 t2), .ref 5 0 j], .arr 1 false 0 [], .arr 1 false 0 (((minN l1 l2 j).map (T.int .i64)).map .t)]⟩) l1.length rfl ?_ ?_ (by simp)
      · intro j hj
        have lj := ln j
        simp (disch := omega) only [go_sem, K.ref25_Join_l1b, ↓reduceIte, minN, Nat.reduceAdd, Nat.reduceSub]
        done
      · simp (disch := omega) only [go_sem, K.ref25_Join_l1b, ↓reduceIte]
    have ln := ln l1.length
    simp (disch := omega) only [go_sem, K.ref25_Join, ↓reduceIte, loop]
  · simp (disch := omega) only [go_sem, K.ref25_Join, ↓reduceIte, hl]
    rfl
end Go.Ev

namespace Go.Ev
open Go
variable [Lib] [Has1] [Has2]
structure Spn where
  low : Int
  high : Int
instance : Dat Spn := ⟨⟨0, 0⟩⟩
abbrev Spn.e (f : Spn) : T := .agg [tI f.low, tI f.high]
abbrev tS (l : List Spn) : T := .sl (l.map Spn.e)
def Spn.ok (f : Spn) : Prop := -1125899906842624 ≤ f.low ∧ f.high ≤ 1125899906842624 ∧ f.low ≤ f.high
instance (f : Spn) : Decidable f.ok := by unfold Spn.ok; infer_instance
theorem span28_ok (f : Spn) : CALL 0 N.ref28_Span [.t f.e] [] = some (B (decide f.ok), []) := by
  refine CALL_of K.t_ref28_Span rfl ?_
  unfold Spn.ok
  by_cases h1 : -1125899906842624 ≤ f.low <;> by_cases h2 : f.high ≤ 1125899906842624 <;> by_cases h3 : f.low ≤ f.high <;> simp (disch := omega) only [go_sem, K.ref28_Span, ↓reduceIte, h1, h2, h3]
def flowsB (m : Mine) (l : List Spn) : Bool := (List.range l.length).all (fun j => decide (nth l j).ok) && decide (l.length = m.roads.length)
theorem flowsB_spec {m : Mine} {l : List Spn} (h : flowsB m l = true) : l.length = m.roads.length ∧ ∀ j, j < l.length → (nth l j).ok := by
  simp only [flowsB, Bool.and_eq_true, decide_eq_true_eq, List.all_eq_true, List.mem_range] at h
  exact ⟨h.2, h.1⟩
theorem flows_ok (m : Mine) (hm : m.roads.length ≤ 1000000) (l : List Spn) (hl : l.length ≤ 1000000) : CALL 0 N.ref28_Flows [.t m.e, .t (tS l)] [] = some (B (flowsB m l), []) := by
  refine CALL_of K.t_ref28_Flows rfl ?_
  have loop : ∀ a b : D, exS CALL K.ref28_Flows_l1 ⟨[a, .t (tS l), .bp 0 0, b, I 0], [.box (mineCells m)]⟩ =
      some (match (List.range l.length).find? (fun j => !decide (nth l j).ok) with
        | some j => (.ret, ⟨[.und, .t (tS l), .bp 0 0, B false, I j], [.box (mineCells m)]⟩)
        | none => (.exit 0, ⟨[.und, .t (tS l), .bp 0 0, .und, I l.length], [.box (mineCells m)]⟩)) := by
    intro a b
    refine loop_first (fun j => ⟨[.und, .t (tS l), .bp 0 0, .und, I j], [.box (mineCells m)]⟩) l.length (fun j => !decide (nth l j).ok) _ _ rfl ?_ ?_ ?_ (by simp)
    · intro j hj hp
      have s := span28_ok (nth l j)
      have hp : (nth l j).ok := by simpa using hp
      simp only [hp, decide_true] at s
      simp (disch := omega) only [go_sem, K.ref28_Flows_l1b, ↓reduceIte, s]
    · intro j hj hp
      have s := span28_ok (nth l j)
      have hp : ¬ (nth l j).ok := by simpa using hp
      simp only [hp, decide_false] at s
      simp (disch := omega) only [go_sem, K.ref28_Flows_l1b, ↓reduceIte, s]
      simp
    · simp (disch := omega) only [go_sem, K.ref28_Flows_l1b, ↓reduceIte]
  unfold flowsB
  rw [find_all]
  simp (disch := omega) only [go_sem, K.ref28_Flows, ↓reduceIte, loop]
  cases hf : (List.range l.length).find? (fun j => !decide (nth l j).ok) with
  | some j => simp (disch := omega) only [go_sem, ↓reduceIte, Option.isNone, Bool.false_and]
  | none =>
    by_cases he : l.length = m.roads.length
    · simp (disch := omega) only [go_sem, ↓reduceIte, Option.isNone, he, Bool.true_and, decide_true]
    · simp (disch := omega) only [go_sem, ↓reduceIte, Option.isNone, he, Bool.true_and, decide_false]
def travelF (x : Road) (f : Spn) (back : Bool) : Int :=
  if x.closed = true then -1 else
  let g := if back then -f.low else f.high
  let out := if 0 < g then (x.len * x.area * 1000).tdiv g else -1
  if (if back then f.low < 500 * x.area else -500 * x.area < f.high) ∧ (out < 0 ∨ x.len < out) then x.len else out
theorem travelF_bd {n : Nat} {x : Road} (h : x.ok n) {f : Spn} (back : Bool) : -1 ≤ travelF x f back ∧ travelF x f back ≤ 100000000000 := by
  have l0 := h.l0; have l1 := h.l1; have a0 := h.a0; have a1 := h.a1
  have hm : 0 ≤ x.len * x.area := Int.mul_nonneg (by omega) (by omega)
  have hm2 : x.len * x.area ≤ 100000 * 1000 := Int.mul_le_mul l1 a1 (by omega) (by omega)
  unfold travelF
  simp only
  split
  · omega
  · have key : ∀ g : Int, -1 ≤ (if 0 < g then (x.len * x.area * 1000).tdiv g else -1) ∧ (if 0 < g then (x.len * x.area * 1000).tdiv g else -1) ≤ 100000000000 := by
      intro g
      split
      · have := tdiv_bd (a := x.len * x.area * 1000) (b := g) (by omega) (by omega)
        omega
      · omega
    cases back with
    | false =>
      have k := key f.high
      simp only [Bool.false_eq_true, ↓reduceIte]
      generalize (if 0 < f.high then (x.len * x.area * 1000).tdiv f.high else -1) = o at *
      split <;> omega
    | true =>
      have k := key (-f.low)
      simp only [↓reduceIte]
      generalize (if 0 < -f.low then (x.len * x.area * 1000).tdiv (-f.low) else -1) = o at *
      split <;> omega
theorem travel_ok {m : Mine} (h : m.ok) (k : Nat) (hk : k < m.roads.length) (f : Spn) (hf : f.ok) (back : Bool) :
    CALL 0 N.ref28_Travel [.t m.e, I k, .t f.e, B back] [] = some (I (travelF (nth m.roads k) f back), []) := by
  refine CALL_of K.t_ref28_Travel rfl ?_
  have nr := h.nr
  have ok := h.rs _ (nth_mem hk)
  obtain ⟨lo, hi⟩ := f
  unfold Spn.ok at hf
  unfold travelF
  generalize hx : nth m.roads k = x at *
  have l0 := ok.l0; have l1 := ok.l1; have a0 := ok.a0; have a1 := ok.a1
  obtain ⟨frm, to, len, area, walk, closed, rl, rh, ll, lh⟩ := x
  simp only at l0 l1 a0 a1 hf ⊢
  clear ok
  have hm : 0 ≤ len * area := Int.mul_nonneg (by omega) (by omega)
  have hm2 : len * area ≤ 100000 * 1000 := Int.mul_le_mul l1 a1 (by omega) (by omega)
  cases closed with
  | true => simp (disch := omega) only [go_sem, K.ref28_Travel, ↓reduceIte, hx]
  | false =>
    cases back with
    | false =>
      by_cases c1 : 0 < hi
      · have g1 := tdiv_bd (a := len * area * 1000) (b := hi) (by omega) (by omega)
        by_cases c2 : len < (len * area * 1000).tdiv hi
        · simp (disch := omega) only [go_sem, K.ref28_Travel, ↓reduceIte, hx, c1, c2, and_self, or_true, and_true, Bool.false_eq_true]
        · simp (disch := omega) only [go_sem, K.ref28_Travel, ↓reduceIte, hx, c1, c2, and_self, or_false, and_true, and_false, Bool.false_eq_true]
      · by_cases c2 : -500 * area < hi
        · simp (disch := omega) only [go_sem, K.ref28_Travel, ↓reduceIte, hx, c1, c2, and_self, true_or, and_true, Bool.false_eq_true]
        · simp (disch := omega) only [go_sem, K.ref28_Travel, ↓reduceIte, hx, c1, c2, false_and, Bool.false_eq_true]
    | true =>
      have w : IntKind.i64.wrap (-lo) = -lo := wrap_id (by omega) (by omega)
      by_cases c1 : 0 < -lo
      · have g1 := tdiv_bd (a := len * area * 1000) (b := -lo) (by omega) (by omega)
        by_cases c2 : len < (len * area * 1000).tdiv (-lo)
        · simp (disch := omega) only [go_sem, K.ref28_Travel, ↓reduceIte, hx, c1, c2, w, Int.zero_sub, and_self, or_true, and_true, Bool.false_eq_true]
        · simp (disch := omega) only [go_sem, K.ref28_Travel, ↓reduceIte, hx, c1, c2, w, Int.zero_sub, and_self, or_false, and_true, and_false, Bool.false_eq_true]
      · by_cases c2 : lo < 500 * area
        · simp (disch := omega) only [go_sem, K.ref28_Travel, ↓reduceIte, hx, c1, c2, w, Int.zero_sub, and_self, true_or, and_true, Bool.false_eq_true]
        · simp (disch := omega) only [go_sem, K.ref28_Travel, ↓reduceIte, hx, c1, c2, w, Int.zero_sub, false_and, Bool.false_eq_true]
end Go.Ev

namespace Go.Ev
open Go
variable [Lib] [Has1] [Has2]
def downC (l : List Int) (p q : Nat) (t : Int) : Bool := decide (0 ≤ t ∧ nth l p + t < nth l q)
def downF (l : List Int) (p q : Nat) (t : Int) : List Int := if downC l p q t = true then l.set q (nth l p + t) else l
def smHalf (m : Mine) (fl : List Spn) (k : Nat) (back : Bool) (l : List Int) : List Int × Bool :=
  (downF l ((nth m.roads k).src back).toNat ((nth m.roads k).dst back).toNat (travelF (nth m.roads k) (nth fl k) back), downC l ((nth m.roads k).src back).toNat ((nth m.roads k).dst back).toNat (travelF (nth m.roads k) (nth fl k) back))
def smStep (m : Mine) (fl : List Spn) (k : Nat) (s : List Int × Bool) : List Int × Bool :=
  let a := smHalf m fl k false s.1
  let b := smHalf m fl k true a.1
  (b.1, s.2 || a.2 || b.2)
def smSteps (m : Mine) (fl : List Spn) (l : List Int) : Nat → List Int × Bool
  | 0 => (l, false)
  | k + 1 => smStep m fl k (smSteps m fl l k)
def smRound (m : Mine) (fl : List Spn) (l : List Int) : List Int × Bool := smSteps m fl l m.roads.length
theorem downF_len (l : List Int) (p q : Nat) (t : Int) : (downF l p q t).length = l.length := by unfold downF; split <;> simp
theorem smHalf_len (m : Mine) (fl : List Spn) (k : Nat) (back : Bool) (l : List Int) : (smHalf m fl k back l).1.length = l.length := downF_len ..
theorem smSteps_len (m : Mine) (fl : List Spn) (l : List Int) : ∀ k, (smSteps m fl l k).1.length = l.length
  | 0 => rfl
  | k + 1 => by simp only [smSteps, smStep, smHalf_len, smSteps_len m fl l k]
theorem downF_bnd {l : List Int} (h : bnd l) {p q : Nat} (hp : p < l.length) (hq : q < l.length) {t : Int} : bnd (downF l p q t) := by
  unfold downF
  split
  · rename_i hc
    simp only [downC, decide_eq_true_eq] at hc
    have h1 := h _ (nth_mem hp)
    have h2 := h _ (nth_mem hq)
    exact bnd_set h (by omega) (by omega)
  · exact h
theorem downF_sum {l : List Int} (hb : bnd l) {p q : Nat} (hp : p < l.length) (hq : q < l.length) {t : Int} :
    (downC l p q t = true → sumN (downF l p q t) < sumN l) ∧ (downC l p q t = false → downF l p q t = l) := by
  unfold downF
  constructor
  · intro hc
    rw [if_pos hc]
    simp only [downC, decide_eq_true_eq] at hc
    have := hb _ (nth_mem hp)
    exact sumN_set hq (by omega) hc.2
  · intro hc; rw [if_neg (by simp [hc])]
section
variable {m : Mine} (h : m.ok) {fl : List Spn}
include h
theorem smHalf_bnd {l : List Int} (hl : l.length = m.places.length) (hb : bnd l) {k : Nat} (hk : k < m.roads.length) (back : Bool) : bnd (smHalf m fl k back l).1 := by
  have r1 := Road.src_ok (h.rs _ (nth_mem hk)) back
  have r2 := Road.dst_ok (h.rs _ (nth_mem hk)) back
  exact downF_bnd hb (by omega) (by omega)
theorem smSteps_bnd {l : List Int} (hl : l.length = m.places.length) (hb : bnd l) : ∀ k, k ≤ m.roads.length → bnd (smSteps m fl l k).1
  | 0, _ => hb
  | k + 1, hk => by
    simp only [smSteps, smStep]
    exact smHalf_bnd h (by rw [smHalf_len, smSteps_len, hl]) (smHalf_bnd h (by rw [smSteps_len, hl]) (smSteps_bnd hl hb k (by omega)) (by omega) _) (by omega) _
theorem smHalf_sum {l : List Int} (hl : l.length = m.places.length) (hb : bnd l) {k : Nat} (hk : k < m.roads.length) (back : Bool) :
    ((smHalf m fl k back l).2 = true → sumN (smHalf m fl k back l).1 < sumN l) ∧ ((smHalf m fl k back l).2 = false → (smHalf m fl k back l).1 = l) := by
  have r1 := Road.src_ok (h.rs _ (nth_mem hk)) back
  have r2 := Road.dst_ok (h.rs _ (nth_mem hk)) back
  exact downF_sum hb (by omega) (by omega)
theorem smSteps_sum {l : List Int} (hl : l.length = m.places.length) (hb : bnd l) : ∀ k, k ≤ m.roads.length →
    ((smSteps m fl l k).2 = true → sumN (smSteps m fl l k).1 < sumN l) ∧ ((smSteps m fl l k).2 = false → (smSteps m fl l k).1 = l)
  | 0, _ => ⟨fun h => by simp [smSteps] at h, fun _ => rfl⟩
  | k + 1, hk => by
    obtain ⟨i1, i2⟩ := smSteps_sum hl hb k (by omega)
    have hb1 := smSteps_bnd h (fl := fl) hl hb k (by omega)
    have hl1 : (smSteps m fl l k).1.length = m.places.length := by rw [smSteps_len, hl]
    obtain ⟨a1, a2⟩ := smHalf_sum h (fl := fl) hl1 hb1 (k := k) (by omega) false
    have hb2 := smHalf_bnd h (fl := fl) hl1 hb1 (k := k) (by omega) false
    obtain ⟨c1, c2⟩ := smHalf_sum h (fl := fl) (by rw [smHalf_len, hl1]) hb2 (k := k) (by omega) true
    simp only [smSteps, smStep]
    generalize smSteps m fl l k = s at *
    obtain ⟨sl, sb⟩ := s
    simp only at *
    generalize smHalf m fl k false sl = a at *
    obtain ⟨al, ab⟩ := a
    simp only at *
    generalize smHalf m fl k true al = b at *
    obtain ⟨bl, bb⟩ := b
    simp only at *
    cases sb <;> cases ab <;> cases bb <;> simp_all <;> omega
end
theorem sm_step {m : Mine} (h : m.ok) (fl : List Spn) (hfl : fl.length = m.roads.length) (hf : ∀ j, j < fl.length → (nth fl j).ok) (l : List Int) (hl : l.length = m.places.length) (hb : bnd l)
    (k : Nat) (hk : k < m.roads.length) (ag : Bool) :
    roundC true [0, 2, 4, 8, 9, 10, 11] 2 (exS CALL K.ref28_Close_l2b ⟨[.und, .t (tS fl), .und, .bp 0 0, .und, .ref 1 0 l.length, B ag, I k, .und, .und, .und, .und], [.box (mineCells m), .arr 1 false 0 ((l.map (T.int .i64)).map .t)]⟩) =
      some ⟨[.und, .t (tS fl), .und, .bp 0 0, .und, .ref 1 0 l.length, B (smStep m fl k (l, ag)).2, I (k + 1), .und, .und, .und, .und], [.box (mineCells m), .arr 1 false 0 (((smStep m fl k (l, ag)).1.map (T.int .i64)).map .t)]⟩ := by
  have np := h.np
  have nr := h.nr
  have t1 := travel_ok h k hk (nth fl k) (hf k (by omega)) false
  have t2 := travel_ok h k hk (nth fl k) (hf k (by omega)) true
  have w1 := travelF_bd (h.rs _ (nth_mem hk)) (f := nth fl k) false
  have w2 := travelF_bd (h.rs _ (nth_mem hk)) (f := nth fl k) true
  have r1 := Road.src_ok (h.rs _ (nth_mem hk)) false
  have r2 := Road.dst_ok (h.rs _ (nth_mem hk)) false
  simp only [Road.src, Road.dst, Bool.false_eq_true, ↓reduceIte] at r1 r2
  obtain ⟨f0, f1⟩ := r1
  obtain ⟨t0, t1'⟩ := r2
  have b1 := hb _ (nth_mem (l := l) (j := (nth m.roads k).frm.toNat) (by omega))
  have b2 := hb _ (nth_mem (l := l) (j := (nth m.roads k).to.toNat) (by omega))
  simp only [smStep, smHalf, Road.src, Road.dst, Bool.false_eq_true, ↓reduceIte]
  generalize hw1 : travelF (nth m.roads k) (nth fl k) false = v1 at *
  generalize hw2 : travelF (nth m.roads k) (nth fl k) true = v2 at *
  have hb3 := downF_bnd hb (p := (nth m.roads k).frm.toNat) (q := (nth m.roads k).to.toNat) (t := v1) (by omega) (by omega)
  have ln : (downF l (nth m.roads k).frm.toNat (nth m.roads k).to.toNat v1).length = l.length := downF_len ..
  have b3 := hb3 _ (nth_mem (j := (nth m.roads k).frm.toNat) (by omega))
  have b4 := hb3 _ (nth_mem (j := (nth m.roads k).to.toNat) (by omega))
  generalize hx : nth m.roads k = x at *
  obtain ⟨frm, to, len, area, walk, closed, rl, rh, ll, lh⟩ := x
  simp only at f0 f1 t0 t1' b1 b2 b3 b4 ln hb3 ⊢
  clear hb hb3 hf
  by_cases c1 : 0 ≤ v1 ∧ nth l frm.toNat + v1 < nth l to.toNat
  · have e1 : downC l frm.toNat to.toNat v1 = true := decide_eq_true c1
    have e2 : downF l frm.toNat to.toNat v1 = l.set to.toNat (nth l frm.toNat + v1) := by unfold downF; rw [if_pos e1]
    rw [e2] at ln b3 b4 ⊢
    obtain ⟨c1, c1'⟩ := c1
    by_cases c2 : 0 ≤ v2
    · by_cases c3 : nth (l.set to.toNat (nth l frm.toNat + v1)) to.toNat + v2 < nth (l.set to.toNat (nth l frm.toNat + v1)) frm.toNat
      · simp (disch := omega) only [go_sem, K.ref28_Close_l2b, ↓reduceIte, hx, t1, t2, e1, downF, downC, c1, c1', c2, c3, and_self, decide_true, Bool.or_true]
      · simp (disch := omega) only [go_sem, K.ref28_Close_l2b, ↓reduceIte, hx, t1, t2, e1, downF, downC, c1, c1', c2, c3, and_self, and_false, decide_true, decide_false, Bool.or_true, Bool.or_false, Bool.false_eq_true]
    · simp (disch := omega) only [go_sem, K.ref28_Close_l2b, ↓reduceIte, hx, t1, t2, e1, downF, downC, c1, c1', c2, and_self, false_and, decide_true, decide_false, Bool.or_true, Bool.or_false, Bool.false_eq_true]
  · have e1 : downC l frm.toNat to.toNat v1 = false := decide_eq_false c1
    have e2 : downF l frm.toNat to.toNat v1 = l := by unfold downF; rw [if_neg (by simp [e1])]
    rw [e2] at ln b3 b4 ⊢
    by_cases c4 : 0 ≤ v1
    · have c5 : ¬ nth l frm.toNat + v1 < nth l to.toNat := fun h => c1 ⟨c4, h⟩
      by_cases c2 : 0 ≤ v2
      · by_cases c3 : nth l to.toNat + v2 < nth l frm.toNat
        · simp (disch := omega) only [go_sem, K.ref28_Close_l2b, ↓reduceIte, hx, t1, t2, e1, downF, downC, c4, c5, c2, c3, and_self, decide_true, Bool.or_true]
        · simp (disch := omega) only [go_sem, K.ref28_Close_l2b, ↓reduceIte, hx, t1, t2, e1, downF, downC, c4, c5, c2, c3, and_self, and_false, decide_true, decide_false, Bool.or_true, Bool.or_false, Bool.false_eq_true]
      · simp (disch := omega) only [go_sem, K.ref28_Close_l2b, ↓reduceIte, hx, t1, t2, e1, downF, downC, c4, c5, c2, and_self, false_and, decide_true, decide_false, Bool.or_true, Bool.or_false, Bool.false_eq_true]
    · by_cases c2 : 0 ≤ v2
      · by_cases c3 : nth l to.toNat + v2 < nth l frm.toNat
        · simp (disch := omega) only [go_sem, K.ref28_Close_l2b, ↓reduceIte, hx, t1, t2, e1, downF, downC, c4, c2, c3, and_self, false_and, decide_false, decide_true, Bool.or_true]
        · simp (disch := omega) only [go_sem, K.ref28_Close_l2b, ↓reduceIte, hx, t1, t2, e1, downF, downC, c4, c2, c3, and_self, and_false, false_and, decide_true, decide_false, Bool.or_true, Bool.or_false, Bool.false_eq_true]
      · simp (disch := omega) only [go_sem, K.ref28_Close_l2b, ↓reduceIte, hx, t1, t2, e1, downF, downC, c4, c2, and_self, false_and, decide_true, decide_false, Bool.or_true, Bool.or_false, Bool.false_eq_true]
def capN (l : List Int) : Nat → List Int
  | 0 => l
  | j + 1 => if 2147483648 < nth (capN l j) j then (capN l j).set j 1099511627776 else capN l j
theorem capN_len (l : List Int) : ∀ j, (capN l j).length = l.length
  | 0 => rfl
  | j + 1 => by
    have := capN_len l j
    simp only [capN]; split <;> simp [this]
def closeS (m : Mine) (fl : List Spn) (l : List Int) : List Int := capN (closeN (smRound m fl) (sumN l + 1) l) m.places.length
theorem closeS_ok {m : Mine} (h : m.ok) (fl : List Spn) (hfl : flowsB m fl = true) (l : List Int) (hl : l.length = m.places.length) (hb : bnd l) :
    CALL 0 N.ref28_Close [.t m.e, .t (tS fl), .t (tL l)] [] = some (.t (tL (closeS m fl l)), []) ∧ (closeN (smRound m fl) (sumN l + 1) l).length = m.places.length ∧ bnd (closeN (smRound m fl) (sumN l + 1) l) := by
  have nr := h.nr
  have np := h.np
  obtain ⟨fl1, fl2⟩ := flowsB_spec hfl
  have inner : ∀ (l : List Int), l.length = m.places.length → bnd l → ∀ (a b c d e f g : D), exS CALL K.ref28_Close_l2 ⟨[a, .t (tS fl), b, .bp 0 0, c, .ref 1 0 l.length, B false, I 0, d, e, f, g], [.box (mineCells m), .arr 1 false 0 ((l.map (T.int .i64)).map .t)]⟩ =
      some (.exit 2, ⟨[.und, .t (tS fl), .und, .bp 0 0, .und, .ref 1 0 l.length, B (smRound m fl l).2, I m.roads.length, .und, .und, .und, .und], [.box (mineCells m), .arr 1 false 0 (((smRound m fl l).1.map (T.int .i64)).map .t)]⟩) := by
    intro l hl hb a b c d e f g
    refine loop_up (fun j => ⟨[.und, .t (tS fl), .und, .bp 0 0, .und, .ref 1 0 (smSteps m fl l j).1.length, B (smSteps m fl l j).2, I j, .und, .und, .und, .und], [.box (mineCells m), .arr 1 false 0 (((smSteps m fl l j).1.map (T.int .i64)).map .t)]⟩) m.roads.length rfl ?_ ?_ (by simp)
    · intro j hj
      have := sm_step h fl fl1 fl2 (smSteps m fl l j).1 (by rw [smSteps_len, hl]) (smSteps_bnd h hl hb j (by omega)) j hj (smSteps m fl l j).2
      have e : (smSteps m fl l (j + 1)).1.length = (smSteps m fl l j).1.length := by rw [smSteps_len, smSteps_len]
      rw [e]
      exact this
    · simp (disch := omega) only [go_sem, K.ref28_Close_l2b, ↓reduceIte, smRound, smSteps_len]
  have outer := fun (a b c d e f g h' : D) => loop_again (gc := true) (dead := [0, 2, 4, 7, 8, 9, 10, 11]) (c := K.ref28_Close_l1b) (vs := [a, .t (tS fl), b, .bp 0 0, c, .ref 1 0 l.length, B true, d, e, f, g, h']) (H := [.box (mineCells m), .arr 1 false 0 ((l.map (T.int .i64)).map .t)])
    (fun l ag => ⟨[.und, .t (tS fl), .und, .bp 0 0, .und, .ref 1 0 l.length, B ag, .und, .und, .und, .und, .und], [.box (mineCells m), .arr 1 false 0 ((l.map (T.int .i64)).map .t)]⟩)
    (fun l => (.exit 0, ⟨[.und, .t (tS fl), .und, .bp 0 0, .und, .ref 1 0 l.length, B false, .und, .und, .und, .und, .und], [.box (mineCells m), .arr 1 false 0 ((l.map (T.int .i64)).map .t)]⟩))
    (smRound m fl) (fun l => l.length = m.places.length ∧ bnd l) sumN
    (fun l ⟨hl, hb⟩ => ⟨⟨by rw [smRound, smSteps_len, hl], smSteps_bnd h hl hb _ (Nat.le_refl _)⟩, (smSteps_sum h hl hb _ (Nat.le_refl _)).1⟩)
    (by
      rintro l ⟨hl, hb⟩
      have := inner l hl hb
      have e : (smRound m fl l).1.length = l.length := by rw [smRound, smSteps_len]
      simp (disch := omega) only [go_sem, K.ref28_Close_l1b, ↓reduceIte, this, e])
    (by
      rintro l ⟨hl, hb⟩
      simp (disch := omega) only [go_sem, K.ref28_Close_l1b, ↓reduceIte, reduceCtorEq, ne_eq, not_false_eq_true, and_self])
    l ⟨hl, hb⟩ rfl
  obtain ⟨-, o2⟩ := outer .und .und .und .und .und .und .und .und
  refine ⟨?_, o2⟩
  refine CALL_of K.t_ref28_Close rfl ?_
  have o1 : ∀ a b c d e f g h' : D, exS CALL K.ref28_Close_l1 ⟨[a, .t (tS fl), b, .bp 0 0, c, .ref 1 0 l.length, B true, d, e, f, g, h'], [.box (mineCells m), .arr 1 false 0 ((l.map (T.int .i64)).map .t)]⟩ = _ := fun a b c d e f g h' => (outer a b c d e f g h').1
  clear outer inner
  have o2 := o2.1
  unfold closeS
  generalize closeN (smRound m fl) (sumN l + 1) l = l2 at *
  have ln := capN_len l2
  have o3 : ∀ a b c d e f g h' i j : D, exS CALL K.ref28_Close_l3 ⟨[a, b, c, d, e, .ref 1 0 l2.length, f, g, h', i, j, I 0], [.box (mineCells m), .arr 1 false 0 ((l2.map (T.int .i64)).map .t)]⟩ =
      some (.exit 4, ⟨[.und, .und, .und, .und, .und, .ref 1 0 l2.length, .und, .und, .und, .und, .und, I l2.length], [.box (mineCells m), .arr 1 false 0 (((capN l2 l2.length).map (T.int .i64)).map .t)]⟩) := by
    intro a b c d e f g h' i j
    refine loop_up (fun j => ⟨[.und, .und, .und, .und, .und, .ref 1 0 l2.length, .und, .und, .und, .und, .und, I j], [.box (mineCells m), .arr 1 false 0 (((capN l2 j).map (T.int .i64)).map .t)]⟩) l2.length rfl ?_ ?_ (by simp)
    · intro j hj
      have lj := ln j
      by_cases hc : 2147483648 < nth (capN l2 j) j
      · simp (disch := omega) only [go_sem, K.ref28_Close_l3b, ↓reduceIte, capN, hc]
      · simp (disch := omega) only [go_sem, K.ref28_Close_l3b, ↓reduceIte, capN, hc]
    · simp (disch := omega) only [go_sem, K.ref28_Close_l3b, ↓reduceIte]
  have ln := ln l2.length
  rw [← o2]
  simp (disch := omega) only [go_sem, K.ref28_Close, ↓reduceIte, o1, o3]
end Go.Ev

namespace Go.Ev
open Go
variable [Lib] [Has1] [Has2]
def plS (t x : Int) : Prop := x = 1099511627776 ∨ (t ≤ x ∧ x ≤ 2147483648)
instance (t x : Int) : Decidable (plS t x) := by unfold plS; infer_instance
def validS (m : Mine) (s : Wh) : Bool := (List.range s.frm.length).all (fun j => decide (plS s.time (nth s.frm j))) && decide (s.frm.length = m.places.length ∧ inT s.time)
theorem validS_ok {m : Mine} (h : m.ok) (s : Wh) (hl : s.frm.length ≤ 1000000) : CALL 0 N.ref28_Valid [.t m.e, .t s.e] [] = some (B (validS m s), []) := by
  refine CALL_of K.t_ref28_Valid rfl ?_
  have c := check_ok h
  have np := h.np
  obtain ⟨time, frm⟩ := s
  simp only at hl
  have loop : ∀ a b c : D, exS CALL K.ref28_Valid_l1 ⟨[a, b, .bp 0 0, .bp 1 0, c, I 0], [.box (mineCells m), .box [I time, .t (tL frm)]]⟩ =
      some (match (List.range frm.length).find? (fun j => !decide (plS time (nth frm j))) with
        | some j => (.ret, ⟨[.und, .und, .bp 0 0, .bp 1 0, B false, I j], [.box (mineCells m), .box [I time, .t (tL frm)]]⟩)
        | none => (.exit 0, ⟨[.und, .und, .bp 0 0, .bp 1 0, .und, I frm.length], [.box (mineCells m), .box [I time, .t (tL frm)]]⟩)) := by
    intro a b c
    refine loop_first (fun j => ⟨[.und, .und, .bp 0 0, .bp 1 0, .und, I j], [.box (mineCells m), .box [I time, .t (tL frm)]]⟩) frm.length (fun j => !decide (plS time (nth frm j))) _ _ rfl ?_ ?_ ?_ (by simp)
    · intro j hj hp
      have hp : plS time (nth frm j) := by simpa using hp
      unfold plS at hp
      by_cases h1 : nth frm j = 1099511627776
      · simp (disch := omega) only [go_sem, K.ref28_Valid_l1b, ↓reduceIte, h1]
      · simp (disch := omega) only [go_sem, K.ref28_Valid_l1b, ↓reduceIte]
    · intro j hj hp
      have hp : ¬ plS time (nth frm j) := by simpa using hp
      unfold plS at hp
      by_cases h2 : time ≤ nth frm j
      · simp (disch := omega) only [go_sem, K.ref28_Valid_l1b, ↓reduceIte]
        simp
      · simp (disch := omega) only [go_sem, K.ref28_Valid_l1b, ↓reduceIte]
        simp
    · simp (disch := omega) only [go_sem, K.ref28_Valid_l1b, ↓reduceIte]
  unfold validS
  rw [find_all]
  simp (disch := omega) only [go_sem, K.ref28_Valid, ↓reduceIte, loop]
  cases hf : (List.range frm.length).find? (fun j => !decide (plS time (nth frm j))) with
  | some j => simp (disch := omega) only [go_sem, ↓reduceIte, Option.isNone, Bool.false_and]
  | none =>
    by_cases h1 : frm.length = m.places.length
    · by_cases h2 : 0 ≤ time
      · by_cases h3 : time ≤ 2147483648
        · have h4 : inT time := ⟨h2, h3⟩
          simp (disch := omega) only [go_sem, ↓reduceIte, Option.isNone, c, h1, h4, and_self, decide_true, Bool.true_and]
        · have h4 : ¬ inT time := by unfold inT; omega
          simp (disch := omega) only [go_sem, ↓reduceIte, Option.isNone, c, h1, h4, and_false, decide_false, Bool.true_and]
      · have h4 : ¬ inT time := by unfold inT; omega
        simp (disch := omega) only [go_sem, ↓reduceIte, Option.isNone, c, h1, h4, and_false, decide_false, Bool.true_and]
    · simp (disch := omega) only [go_sem, ↓reduceIte, Option.isNone, c, h1, false_and, decide_false, Bool.true_and]
theorem copyS_ok (w : Wh) (hl : w.frm.length ≤ 4294967296) : CALL 0 N.ref28_Copy [.t w.e] [] = some (.t w.e, []) := by
  refine CALL_of K.t_ref28_Copy rfl ?_
  obtain ⟨time, frm⟩ := w
  simp only at *
  simp (disch := omega) only [go_sem, K.ref28_Copy, ↓reduceIte, Nat.reduceAdd, Nat.reduceSub]
def initS (l : List Int) (t : Int) (n : Nat) : List Int := (List.range n).map fun (p : Nat) => if (p : Int) ∈ l then t else 1099511627776
theorem initS_succ (l : List Int) (t : Int) (n : Nat) : initS l t (n + 1) = initS l t n ++ [if (n : Int) ∈ l then t else 1099511627776] := by
  unfold initS; rw [List.range_succ, List.map_append]; rfl
@[simp] theorem initS_len (l : List Int) (t : Int) (n : Nat) : (initS l t n).length = n := by simp [initS]
theorem initS_bnd (l : List Int) {t : Int} (ht : inT t) (n : Nat) : bnd (initS l t n) := by
  intro x hx
  simp only [initS, List.mem_map] at hx
  obtain ⟨p, -, rfl⟩ := hx
  unfold inT at ht
  split <;> omega
def startS (m : Mine) (fl : List Spn) (l : List Int) (t : Int) : Wh × Int :=
  if flowsB m fl = false then (⟨0, []⟩, 6) else if setB l m.places.length = false then (⟨0, []⟩, 3) else if ¬ inT t then (⟨0, []⟩, 8) else
  (⟨t, closeS m fl (initS l t m.places.length)⟩, 0)
theorem startS_ok {m : Mine} (h : m.ok) (fl : List Spn) (hfl : fl.length ≤ 1000000) (l : List Int) (hl : l.length ≤ 1000000) (t : Int) :
    CALL 0 N.ref28_Start [.t m.e, .t (tS fl), .t (tL l), I t] [] = some (.tup [.t (startS m fl l t).1.e, I (startS m fl l t).2], []) := by
  refine CALL_of K.t_ref28_Start rfl ?_
  have c := check_ok h
  have np := h.np
  have nr := h.nr
  have f := flows_ok m (by omega) fl (by omega)
  have s := set_ok l m.places.length (by omega)
  unfold startS
  cases hf : flowsB m fl with
  | false =>
    rw [hf] at f
    simp (disch := omega) only [go_sem, K.ref28_Start, ↓reduceIte, c, f]
    rfl
  | true =>
    rw [hf] at f
    cases hs : setB l m.places.length with
    | false =>
      rw [hs] at s
      simp (disch := omega) only [go_sem, K.ref28_Start, ↓reduceIte, c, f, s, Bool.true_eq_false]
      rfl
    | true =>
      rw [hs] at s
      by_cases h1 : 0 ≤ t
      · by_cases h2 : t ≤ 2147483648
        · have ht : inT t := ⟨h1, h2⟩
          have cl := (closeS_ok h fl hf (initS l t m.places.length) (initS_len ..) (initS_bnd l ht _)).1
          have ln := initS_len l t
          have loop : ∀ a b : D, exS CALL K.ref28_Start_l1 ⟨[a, .t (tS fl), .t (tL l), I t, .bp 0 0, .bp 1 0, b, .ref 2 0 0, I 0], [.box (mineCells m), .box [I 0, .nil], .arr 1 false 0 []]⟩ =
              some (.exit 1, ⟨[.und, .t (tS fl), .t (tL l), I t, .bp 0 0, .bp 1 0, .und, .ref 2 0 m.places.length, I m.places.length], [.box (mineCells m), .box [I 0, .nil], .arr 1 false 0 (((initS l t m.places.length).map (T.int .i64)).map .t)]⟩) := by
            intro a b
            refine loop_up (fun j => ⟨[.und, .t (tS fl), .t (tL l), I t, .bp 0 0, .bp 1 0, .und, .ref 2 0 j, I j], [.box (mineCells m), .box [I 0, .nil], .arr 1 false 0 (((initS l t j).map (T.int .i64)).map .t)]⟩) m.places.length rfl ?_ ?_ (by simp)
            · intro j hj
              have g := has_ok l j (by omega)
              have lj := ln j
              by_cases hm : (j : Int) ∈ l
              · simp only [hm, decide_true] at g
                simp (disch := omega) only [go_sem, K.ref28_Start_l1b, ↓reduceIte, g, hm, initS_succ]
              · simp only [hm, decide_false] at g
                simp (disch := omega) only [go_sem, K.ref28_Start_l1b, ↓reduceIte, g, hm, initS_succ]
            · simp (disch := omega) only [go_sem, K.ref28_Start_l1b, ↓reduceIte]
          have ln := ln m.places.length
          simp (disch := omega) only [go_sem, K.ref28_Start, ↓reduceIte, c, f, s, ht, loop, cl, Bool.true_eq_false, not_true_eq_false]
        · have ht : ¬ inT t := by unfold inT; omega
          simp (disch := omega) only [go_sem, K.ref28_Start, ↓reduceIte, c, f, s, ht, Bool.true_eq_false, not_false_eq_true]
          rfl
      · have ht : ¬ inT t := by unfold inT; omega
        simp (disch := omega) only [go_sem, K.ref28_Start, ↓reduceIte, c, f, s, ht, Bool.true_eq_false, not_false_eq_true]
        rfl
end Go.Ev

namespace Go.Ev
open Go
variable [Lib] [Has1] [Has2]
def chHalf (m : Mine) (fl : List Spn) (frm : List Int) (t : Int) (k : Nat) (back : Bool) (l : List Int) : List Int :=
  if nth frm ((nth m.roads k).src back).toNat ≤ t ∧ 0 ≤ travelF (nth m.roads k) (nth fl k) back then l.set ((nth m.roads k).dst back).toNat (min (nth l ((nth m.roads k).dst back).toNat) t) else l
def chStep (m : Mine) (fl : List Spn) (frm : List Int) (t : Int) (k : Nat) (l : List Int) : List Int := chHalf m fl frm t k true (chHalf m fl frm t k false l)
def chN (m : Mine) (fl : List Spn) (frm : List Int) (t : Int) : Nat → List Int
  | 0 => frm
  | k + 1 => chStep m fl frm t k (chN m fl frm t k)
def maxN (t : Int) (l : List Int) : Nat → List Int
  | 0 => l
  | k + 1 => (maxN t l k).set k (max (nth (maxN t l k) k) t)
theorem chHalf_len (m : Mine) (fl : List Spn) (frm : List Int) (t : Int) (k : Nat) (back : Bool) (l : List Int) : (chHalf m fl frm t k back l).length = l.length := by
  unfold chHalf; split <;> simp
theorem chN_len (m : Mine) (fl : List Spn) (frm : List Int) (t : Int) : ∀ k, (chN m fl frm t k).length = frm.length
  | 0 => rfl
  | k + 1 => by simp only [chN, chStep, chHalf_len, chN_len m fl frm t k]
theorem maxN_len (t : Int) (l : List Int) : ∀ k, (maxN t l k).length = l.length
  | 0 => rfl
  | k + 1 => by simp only [maxN, List.length_set, maxN_len t l k]
theorem chHalf_bnd {m : Mine} (h : m.ok) (fl : List Spn) (frm : List Int) {t : Int} (ht : inT t) {k : Nat} (hk : k < m.roads.length) (back : Bool) {l : List Int} (hl : l.length = m.places.length) (hb : bnd l) : bnd (chHalf m fl frm t k back l) := by
  have r2 := Road.dst_ok (h.rs _ (nth_mem hk)) back
  unfold chHalf
  split
  · have := hb _ (nth_mem (l := l) (j := ((nth m.roads k).dst back).toNat) (by omega))
    unfold inT at ht
    exact bnd_set hb (by omega) (by omega)
  · exact hb
theorem chN_bnd {m : Mine} (h : m.ok) (fl : List Spn) {frm : List Int} (hl : frm.length = m.places.length) (hb : bnd frm) {t : Int} (ht : inT t) : ∀ k, k ≤ m.roads.length → bnd (chN m fl frm t k)
  | 0, _ => hb
  | k + 1, hk => chHalf_bnd h fl frm ht (by omega) _ (by rw [chHalf_len, chN_len, hl]) (chHalf_bnd h fl frm ht (by omega) _ (by rw [chN_len, hl]) (chN_bnd h fl hl hb ht k (by omega)))
theorem maxN_bnd {t : Int} (ht : inT t) {l : List Int} (hb : bnd l) : ∀ k, k ≤ l.length → bnd (maxN t l k)
  | 0, _ => hb
  | k + 1, hk => by
    have ih := maxN_bnd ht hb k (by omega)
    have := ih _ (nth_mem (l := maxN t l k) (j := k) (by rw [maxN_len]; omega))
    unfold inT at ht
    exact bnd_set ih (by omega) (by omega)
def changeS (m : Mine) (old : List Spn) (next : Mine) (fl : List Spn) (s : Wh) (t : Int) : Wh × Int :=
  if validS m s = false ∨ flowsB m old = false ∨ flowsB next fl = false ∨ next.places.length ≠ m.places.length then (s, 6) else
  if t < s.time ∨ 2147483648 < t then (s, 8) else (⟨t, closeS next fl (maxN t (chN m old s.frm t m.roads.length) m.places.length)⟩, 0)
theorem validS_spec {m : Mine} {s : Wh} (h : validS m s = true) : s.frm.length = m.places.length ∧ inT s.time ∧ ∀ x ∈ s.frm, plS s.time x := by
  simp only [validS, Bool.and_eq_true, decide_eq_true_eq, List.all_eq_true, List.mem_range] at h
  refine ⟨h.2.1, h.2.2, fun x hx => ?_⟩
  obtain ⟨j, hj⟩ := List.mem_iff_getElem?.1 hx
  have := h.1 j (List.getElem?_eq_some_iff.1 hj).1
  rwa [nth_eq hj] at this
theorem ch_step {m : Mine} (h : m.ok) (old : List Spn) (fl1 : old.length = m.roads.length) (fl2 : ∀ j, j < old.length → (nth old j).ok) (time t : Int) (ht : inT t) (frm l : List Int) (hl0 : frm.length = m.places.length) (hl : l.length = m.places.length)
    (k : Nat) (hk : k < m.roads.length) (H3 : List D) (r : D) (hr : Go.Ev.old 5 8 r = true) (h3 : allOld 5 8 H3 = true) :
    roundC true [0, 2, 4, 10, 13, 14] 5 (exS CALL K.ref28_Change_l1b ⟨[.und, .t (tS old), .und, r, .und, I t, .bp 0 0, .bp 1 0, .bp 2 0, .bp 3 0, .und, .ref 4 0 l.length, I k, .und, .und], [.box (mineCells m), .box H3, .box [I time, .t (tL frm)], .box [I 0, .nil], .arr 1 false 0 ((l.map (T.int .i64)).map .t)]⟩) =
      some ⟨[.und, .t (tS old), .und, r, .und, I t, .bp 0 0, .bp 1 0, .bp 2 0, .bp 3 0, .und, .ref 4 0 l.length, I (k + 1), .und, .und], [.box (mineCells m), .box H3, .box [I time, .t (tL frm)], .box [I 0, .nil], .arr 1 false 0 (((chStep m old frm t k l).map (T.int .i64)).map .t)]⟩ := by
  have np := h.np
  have nr := h.nr
  have t1 := travel_ok h k hk (nth old k) (fl2 k (by omega)) false
  have t2 := travel_ok h k hk (nth old k) (fl2 k (by omega)) true
  have r1 := Road.src_ok (h.rs _ (nth_mem hk)) false
  have r2 := Road.dst_ok (h.rs _ (nth_mem hk)) false
  simp only [Road.src, Road.dst, Bool.false_eq_true, ↓reduceIte] at r1 r2
  obtain ⟨f0, f1⟩ := r1
  obtain ⟨t0, t1'⟩ := r2
  unfold inT at ht
  simp only [chStep, chHalf, Road.src, Road.dst, Bool.false_eq_true, ↓reduceIte]
  generalize hw1 : travelF (nth m.roads k) (nth old k) false = v1 at *
  generalize hw2 : travelF (nth m.roads k) (nth old k) true = v2 at *
  generalize hx : nth m.roads k = x at *
  obtain ⟨a, b, len, area, walk, closed, rl, rh, ll, lh⟩ := x
  simp only at f0 f1 t0 t1' ⊢
  clear hw1 hw2 fl2
  have ln : (l.set b.toNat (min (nth l b.toNat) t)).length = l.length := List.length_set ..
  by_cases c1 : nth frm a.toNat ≤ t
  · by_cases c2 : 0 ≤ v1
    · by_cases c3 : nth frm b.toNat ≤ t
      · by_cases c4 : 0 ≤ v2
        · simp (disch := omega) only [go_sem, K.ref28_Change_l1b, ↓reduceIte, hx, t1, t2, c1, c2, c3, c4, and_self, hr, h3]
        · simp (disch := omega) only [go_sem, K.ref28_Change_l1b, ↓reduceIte, hx, t1, t2, c1, c2, c3, c4, and_self, and_false, hr, h3]
      · simp (disch := omega) only [go_sem, K.ref28_Change_l1b, ↓reduceIte, hx, t1, t2, c1, c2, c3, and_self, false_and, hr, h3]
    · by_cases c3 : nth frm b.toNat ≤ t
      · by_cases c4 : 0 ≤ v2
        · simp (disch := omega) only [go_sem, K.ref28_Change_l1b, ↓reduceIte, hx, t1, t2, c1, c2, c3, c4, and_self, and_false, hr, h3]
        · simp (disch := omega) only [go_sem, K.ref28_Change_l1b, ↓reduceIte, hx, t1, t2, c1, c2, c3, c4, and_self, and_false, hr, h3]
      · simp (disch := omega) only [go_sem, K.ref28_Change_l1b, ↓reduceIte, hx, t1, t2, c1, c2, c3, and_self, false_and, and_false, hr, h3]
  · by_cases c3 : nth frm b.toNat ≤ t
    · by_cases c4 : 0 ≤ v2
      · simp (disch := omega) only [go_sem, K.ref28_Change_l1b, ↓reduceIte, hx, t1, t2, c1, c3, c4, and_self, and_false, false_and, hr, h3]
      · simp (disch := omega) only [go_sem, K.ref28_Change_l1b, ↓reduceIte, hx, t1, t2, c1, c3, c4, and_self, and_false, false_and, hr, h3]
    · simp (disch := omega) only [go_sem, K.ref28_Change_l1b, ↓reduceIte, hx, t1, t2, c1, c3, and_self, false_and, hr, h3]
theorem changeS_ok {m : Mine} (h : m.ok) (old : List Spn) (ho : old.length ≤ 1000000) {next : Mine} (hn : next.ok) (fl : List Spn) (hfl : fl.length ≤ 1000000) (s : Wh) (hs : s.frm.length ≤ 1000000) (t : Int) :
    CALL 0 N.ref28_Change [.t m.e, .t (tS old), .t next.e, .t (tS fl), .t s.e, I t] [] = some (.tup [.t (changeS m old next fl s t).1.e, I (changeS m old next fl s t).2], []) := by
  refine CALL_of K.t_ref28_Change rfl ?_
  have c := copyS_ok s (by omega)
  have v := validS_ok h s hs
  have nr := h.nr
  have nr2 := hn.nr
  have np := h.np
  have np2 := hn.np
  have f1 := flows_ok m (by omega) old ho
  have f2 := flows_ok next (by omega) fl hfl
  have ck := check_ok hn
  unfold changeS
  cases hv : validS m s with
  | false =>
    rw [hv] at v
    obtain ⟨time, frm⟩ := s
    simp only at *
    simp (disch := omega) only [go_sem, K.ref28_Change, ↓reduceIte, c, v, true_or]
  | true =>
    rw [hv] at v
    obtain ⟨s1, s2, s3⟩ := validS_spec hv
    cases ho : flowsB m old with
    | false =>
      rw [ho] at f1
      obtain ⟨time, frm⟩ := s
      simp only at *
      simp (disch := omega) only [go_sem, K.ref28_Change, ↓reduceIte, c, v, f1, true_or, or_true]
    | true =>
      rw [ho] at f1
      obtain ⟨o1, o2⟩ := flowsB_spec ho
      cases hf : flowsB next fl with
      | false =>
        rw [hf] at f2
        obtain ⟨time, frm⟩ := s
        simp only at *
        simp (disch := omega) only [go_sem, K.ref28_Change, ↓reduceIte, c, v, f1, f2, ck, true_or, or_true]
      | true =>
        rw [hf] at f2
        by_cases hp : next.places.length = m.places.length
        · by_cases h1 : t < s.time
          · obtain ⟨time, frm⟩ := s
            simp only at *
            simp (disch := omega) only [go_sem, K.ref28_Change, ↓reduceIte, c, v, f1, f2, ck, hp, h1, true_or, ne_eq, not_true_eq_false, or_self, Bool.true_eq_false]
          · by_cases h2 : 2147483648 < t
            · obtain ⟨time, frm⟩ := s
              simp only at *
              simp (disch := omega) only [go_sem, K.ref28_Change, ↓reduceIte, c, v, f1, f2, ck, hp, h1, h2, or_true, ne_eq, not_true_eq_false, or_self, Bool.true_eq_false]
            · have ht : inT t := by unfold inT at s2 ⊢; omega
              obtain ⟨time, frm⟩ := s
              simp only at s1 s2 s3 c v h1 hs ⊢
              have hb : bnd frm := fun x hx => by
                have := s3 x hx
                unfold plS at this; unfold inT at s2; omega
              have l1 : ∀ a b c d e f : D, exS CALL K.ref28_Change_l1 ⟨[a, .t (tS old), b, .t (tS fl), c, I t, .bp 0 0, .bp 1 0, .bp 2 0, .bp 3 0, d, .ref 4 0 frm.length, I 0, e, f], [.box (mineCells m), .box (mineCells next), .box [I time, .t (tL frm)], .box [I 0, .nil], .arr 1 false 0 ((frm.map (T.int .i64)).map .t)]⟩ =
                  some (.exit 0, ⟨[.und, .t (tS old), .und, .t (tS fl), .und, I t, .bp 0 0, .bp 1 0, .bp 2 0, .bp 3 0, .und, .ref 4 0 frm.length, I m.roads.length, .und, .und], [.box (mineCells m), .box (mineCells next), .box [I time, .t (tL frm)], .box [I 0, .nil], .arr 1 false 0 (((chN m old frm t m.roads.length).map (T.int .i64)).map .t)]⟩) := by
                intro a b c d e f
                refine loop_up (fun j => ⟨[.und, .t (tS old), .und, .t (tS fl), .und, I t, .bp 0 0, .bp 1 0, .bp 2 0, .bp 3 0, .und, .ref 4 0 frm.length, I j, .und, .und], [.box (mineCells m), .box (mineCells next), .box [I time, .t (tL frm)], .box [I 0, .nil], .arr 1 false 0 (((chN m old frm t j).map (T.int .i64)).map .t)]⟩) m.roads.length rfl ?_ ?_ (by simp)
                · intro j hj
                  have st := ch_step h old o1 o2 time t ht frm (chN m old frm t j) s1 (by rw [chN_len, s1]) j hj (mineCells next) (.t (tS fl)) rfl rfl
                  rw [chN_len] at st
                  exact st
                · simp (disch := omega) only [go_sem, K.ref28_Change_l1b, ↓reduceIte]
              have lc := chN_len m old frm t m.roads.length
              have bc := chN_bnd h old s1 hb ht m.roads.length (Nat.le_refl _)
              generalize hL : chN m old frm t m.roads.length = L at *
              have lm := maxN_len t L
              have l2 : ∀ a b c d e f g h' i : D, exS CALL K.ref28_Change_l2 ⟨[a, b, c, .t (tS fl), d, I t, e, .bp 1 0, f, .bp 3 0, g, .ref 4 0 L.length, h', i, I 0], [.box (mineCells m), .box (mineCells next), .box [I time, .t (tL frm)], .box [I 0, .nil], .arr 1 false 0 ((L.map (T.int .i64)).map .t)]⟩ =
                  some (.exit 2, ⟨[.und, .und, .und, .t (tS fl), .und, I t, .und, .bp 1 0, .und, .bp 3 0, .und, .ref 4 0 L.length, .und, .und, I L.length], [.box (mineCells m), .box (mineCells next), .box [I time, .t (tL frm)], .box [I 0, .nil], .arr 1 false 0 (((maxN t L L.length).map (T.int .i64)).map .t)]⟩) := by
                intro a b c d e f g h' i
                refine loop_up (fun j => ⟨[.und, .und, .und, .t (tS fl), .und, I t, .und, .bp 1 0, .und, .bp 3 0, .und, .ref 4 0 L.length, .und, .und, I j], [.box (mineCells m), .box (mineCells next), .box [I time, .t (tL frm)], .box [I 0, .nil], .arr 1 false 0 (((maxN t L j).map (T.int .i64)).map .t)]⟩) L.length rfl ?_ ?_ (by simp)
                · intro j hj
                  have lj := lm j
                  simp (disch := omega) only [go_sem, K.ref28_Change_l2b, ↓reduceIte, maxN]
                · simp (disch := omega) only [go_sem, K.ref28_Change_l2b, ↓reduceIte]
              have lm := lm L.length
              have bm := maxN_bnd ht bc L.length (Nat.le_refl _)
              have cl := (closeS_ok hn fl hf (maxN t L L.length) (by omega) bm).1
              have e : m.places.length = frm.length := by omega
              rw [lc] at l2 cl lm
              simp (disch := omega) only [go_sem, K.ref28_Change, ↓reduceIte, c, v, f1, f2, ck, hp, h1, h2, e, or_false, ne_eq, not_true_eq_false, or_self, Bool.true_eq_false, l1, l2, cl]
              done
        · obtain ⟨time, frm⟩ := s
          simp only at *
          simp (disch := omega) only [go_sem, K.ref28_Change, ↓reduceIte, c, v, f1, f2, ck, hp, not_false_eq_true, ne_eq, or_true]
end Go.Ev

namespace Go.Ev
open Go
variable [Lib] [Has1] [Has2]
theorem loop_find {gc : Bool} {dead : List Nat} {c : C} {vs : List D} {H : Heap} (s : Nat → St) (n : Nat) (p : Nat → Bool) (P : Nat → Ex × St → Prop) (eN : Ex × St)
    (h0 : (⟨dropV dead vs, H⟩ : St) = s 0) (hs : ∀ j, j < n → p j = false → roundC gc dead (s j).H.length (exS CALL c (s j)) = some (s (j + 1)))
    (he : ∀ j, j < n → p j = true → ∃ q, exS CALL c (s j) = some q ∧ q.1 ≠ .normal ∧ P j q) (hN : exS CALL c (s n) = some eN) (hn : eN.1 ≠ .normal) :
    ((List.range n).find? p = none ∧ exS CALL (.loop gc dead c) ⟨vs, H⟩ = some eN) ∨ ∃ j q, (List.range n).find? p = some j ∧ exS CALL (.loop gc dead c) ⟨vs, H⟩ = some q ∧ P j q := by
  classical
  let e : Nat → Ex × St := fun j => if h : j < n ∧ p j = true then Classical.choose (he j h.1 h.2) else eN
  have h2 : ∀ j, j < n → p j = true → exS CALL c (s j) = some (e j) ∧ (e j).1 ≠ .normal ∧ P j (e j) := by
    intro j hj hp
    have e1 : e j = Classical.choose (he j hj hp) := dif_pos ⟨hj, hp⟩
    rw [e1]
    exact Classical.choose_spec (he j hj hp)
  have := loop_first s n p e eN h0 hs (fun j hj hp => ⟨(h2 j hj hp).1, (h2 j hj hp).2.1⟩) hN hn
  cases hf : (List.range n).find? p with
  | none => rw [hf] at this; exact .inl ⟨rfl, this⟩
  | some j =>
    rw [hf] at this
    obtain ⟨h3, h4⟩ := find_lt hf
    exact .inr ⟨j, e j, rfl, this, (h2 j h3 h4).2.2⟩
def lessB (a b : List Int) : Bool := match (List.range (min a.length b.length)).find? (fun j => decide (nth a j ≠ nth b j)) with
  | some j => decide (nth a j < nth b j)
  | none => decide (a.length < b.length)
theorem less_ok (a b : List Int) (ha : a.length ≤ 1000000) (hb : b.length ≤ 1000000) : CALL 0 N.ref26_Less [.t (tL a), .t (tL b)] [] = some (B (lessB a b), []) := by
  refine CALL_of K.t_ref26_Less rfl ?_
  have loop : ∀ c : D, exS CALL K.ref26_Less_l1 ⟨[.t (tL a), .t (tL b), c, I 0], []⟩ =
      some (match (List.range (min a.length b.length)).find? (fun j => decide (nth a j ≠ nth b j)) with
        | some j => (.ret, ⟨[.t (tL a), .t (tL b), B (decide (nth a j < nth b j)), I j], []⟩)
        | none => (.exit 0, ⟨[.t (tL a), .t (tL b), .und, I (min a.length b.length : Nat)], []⟩)) := by
    intro c
    refine loop_first (fun j => ⟨[.t (tL a), .t (tL b), .und, I j], []⟩) (min a.length b.length) (fun j => decide (nth a j ≠ nth b j)) _ _ rfl ?_ ?_ ?_ (by simp)
    · intro j hj hp
      have hp : nth a j = nth b j := by simpa using hp
      simp (disch := omega) only [go_sem, K.ref26_Less_l1b, ↓reduceIte]
    · intro j hj hp
      have hp : nth a j ≠ nth b j := by simpa using hp
      refine ⟨?_, by simp⟩
      by_cases h1 : nth a j < nth b j
      · simp (disch := omega) only [go_sem, K.ref26_Less_l1b, ↓reduceIte, h1, decide_true]
      · simp (disch := omega) only [go_sem, K.ref26_Less_l1b, ↓reduceIte, h1, decide_false]
    · by_cases h1 : a.length ≤ b.length
      · have e : min a.length b.length = a.length := by omega
        rw [e]
        simp (disch := omega) only [go_sem, K.ref26_Less_l1b, ↓reduceIte]
      · have e : min a.length b.length = b.length := by omega
        rw [e]
        simp (disch := omega) only [go_sem, K.ref26_Less_l1b, ↓reduceIte]
  unfold lessB
  simp (disch := omega) only [go_sem, K.ref26_Less, ↓reduceIte, loop]
  cases hf : (List.range (min a.length b.length)).find? (fun j => decide (nth a j ≠ nth b j)) with
  | some j => simp (disch := omega) only [go_sem, ↓reduceIte]
  | none =>
    by_cases h1 : a.length < b.length
    · simp (disch := omega) only [go_sem, ↓reduceIte, h1, decide_true]
    · simp (disch := omega) only [go_sem, ↓reduceIte, h1, decide_false]
def bearerF (l : List Int) (x : Int) : Int := match (List.range l.length).find? (fun j => decide (nth l j = x)) with
  | some j => j
  | none => -1
theorem bearer_ok (l : List Int) (x : Int) (hl : l.length ≤ 1000000) : CALL 0 N.ref26_bearer [.t (tL l), I x] [] = some (I (bearerF l x), []) := by
  refine CALL_of K.t_ref26_bearer rfl ?_
  have loop : ∀ c : D, exS CALL K.ref26_bearer_l1 ⟨[.t (tL l), I x, c, I 0], []⟩ =
      some (match (List.range l.length).find? (fun j => decide (nth l j = x)) with
        | some j => (.ret, ⟨[.t (tL l), I x, I j, I j], []⟩)
        | none => (.exit 0, ⟨[.t (tL l), I x, .und, I l.length], []⟩)) := by
    intro c
    refine loop_first (fun j => ⟨[.t (tL l), I x, .und, I j], []⟩) l.length (fun j => decide (nth l j = x)) _ _ rfl ?_ ?_ ?_ (by simp)
    · intro j hj hp
      have hp : ¬ nth l j = x := by simpa using hp
      simp (disch := omega) only [go_sem, K.ref26_bearer_l1b, ↓reduceIte]
    · intro j hj hp
      have hp : nth l j = x := by simpa using hp
      refine ⟨?_, by simp⟩
      simp (disch := omega) only [go_sem, K.ref26_bearer_l1b, ↓reduceIte, hp]
    · simp (disch := omega) only [go_sem, K.ref26_bearer_l1b, ↓reduceIte]
  unfold bearerF
  simp (disch := omega) only [go_sem, K.ref26_bearer, ↓reduceIte, loop]
  cases hf : (List.range l.length).find? (fun j => decide (nth l j = x)) with
  | some j => simp (disch := omega) only [go_sem, ↓reduceIte]
  | none => simp (disch := omega) only [go_sem, ↓reduceIte]
theorem bearerF_lt {l : List Int} {x : Int} (h : 0 ≤ bearerF l x) : bearerF l x < l.length ∧ nth l (bearerF l x).toNat = x := by
  unfold bearerF at h ⊢
  cases hf : (List.range l.length).find? (fun j => decide (nth l j = x)) with
  | some j =>
    obtain ⟨h1, h2⟩ := find_lt hf
    simp only [Int.toNat_natCast]
    exact ⟨by omega, of_decide_eq_true h2⟩
  | none => rw [hf] at h; simp at h
def properN (l : List Int) (j : Nat) : Bool := decide (1 ≤ nth l j ∧ nth l j ≤ 65535 ∧ bearerF (l.take j) (nth l j) < 0)
def properB (l : List Int) : Bool := (List.range l.length).all (properN l)
theorem proper_ok (l : List Int) (hl : l.length ≤ 1000000) : CALL 0 N.ref26_proper [.t (tL l)] [] = some (B (properB l), []) := by
  refine CALL_of K.t_ref26_proper rfl ?_
  have loop : ∀ c : D, exS CALL K.ref26_proper_l1 ⟨[.t (tL l), c, I 0], []⟩ =
      some (match (List.range l.length).find? (fun j => !properN l j) with
        | some j => (.ret, ⟨[.t (tL l), B false, I j], []⟩)
        | none => (.exit 0, ⟨[.t (tL l), .und, I l.length], []⟩)) := by
    intro c
    refine loop_first (fun j => ⟨[.t (tL l), .und, I j], []⟩) l.length (fun j => !properN l j) _ _ rfl ?_ ?_ ?_ (by simp)
    · intro j hj hp
      have hp : properN l j = true := by simpa using hp
      have b := bearer_ok (l.take j) (nth l j) (by rw [List.length_take]; omega)
      simp only [properN, decide_eq_true_eq] at hp
      simp only [tL, List.map_take] at b
      simp (disch := omega) only [go_sem, K.ref26_proper_l1b, ↓reduceIte, b]
    · intro j hj hp
      have hp : properN l j = false := by simpa using hp
      have b := bearer_ok (l.take j) (nth l j) (by rw [List.length_take]; omega)
      simp only [properN, decide_eq_false_iff_not] at hp
      simp only [tL, List.map_take] at b
      refine ⟨?_, by simp⟩
      by_cases h1 : nth l j < 1
      · simp (disch := omega) only [go_sem, K.ref26_proper_l1b, ↓reduceIte, b]
      · by_cases h2 : 65535 < nth l j
        · simp (disch := omega) only [go_sem, K.ref26_proper_l1b, ↓reduceIte, b]
        · simp (disch := omega) only [go_sem, K.ref26_proper_l1b, ↓reduceIte, b]
    · simp (disch := omega) only [go_sem, K.ref26_proper_l1b, ↓reduceIte]
  unfold properB
  rw [find_all]
  simp (disch := omega) only [go_sem, K.ref26_proper, ↓reduceIte, loop]
  cases hf : (List.range l.length).find? (fun j => !properN l j) with
  | some j => simp (disch := omega) only [go_sem, ↓reduceIte, Option.isNone]
  | none => simp (disch := omega) only [go_sem, ↓reduceIte, Option.isNone]
end Go.Ev

namespace Go.Ev
open Go
variable [Lib] [Has1] [Has2]
structure World where
  tags : List Int
  whr : List Wh
instance : Dat World := ⟨⟨[], []⟩⟩
abbrev World.e (x : World) : T := .agg [tL x.tags, .sl (x.whr.map Wh.e)]
structure Bel where
  worlds : List World
instance : Dat Bel := ⟨⟨[]⟩⟩
abbrev Bel.e (b : Bel) : T := .agg [.sl (b.worlds.map World.e)]
def World.sz (x : World) : Prop := x.tags.length ≤ 1000000 ∧ x.whr.length ≤ 1000000 ∧ ∀ w ∈ x.whr, w.frm.length ≤ 1000000
def Bel.sz (b : Bel) : Prop := b.worlds.length ≤ 1000000 ∧ ∀ x ∈ b.worlds, x.sz
@[go_sem] theorem cellsAre_wh (l : List Wh) : cellsAre 2 (l.map Wh.e) = true := cellsAre_map 2 _ (fun _ => rfl) l
@[go_sem] theorem cellsAre_world (l : List World) : cellsAre 2 (l.map World.e) = true := cellsAre_map 2 _ (fun _ => rfl) l
@[go_sem] theorem appOK_wh (l : List Wh) : appOK 2 (l.map Wh.e) = true := by cases l <;> rfl
@[go_sem] theorem appOK_world (l : List World) : appOK 2 (l.map World.e) = true := by cases l <;> rfl
theorem copyWorld_loop (x : World) (h : x.sz) (a : D) : exS CALL K.ref26_CopyWorld_l1 ⟨[a, .bp 0 0, .bp 1 0, .bp 3 0, I 0], [.box [.t (tL x.tags), .t (.sl (x.whr.map Wh.e))], .box [.nil, .nil], .arr 1 false 0 ((x.tags.map (T.int .i64)).map .t), .box [.ref 2 0 x.tags.length, .ref 5 0 0], .arr 2 false 0 [], .arr 2 false 0 []]⟩ =
    some (.exit 0, ⟨[.und, .bp 0 0, .bp 1 0, .bp 3 0, I x.whr.length], [.box [.t (tL x.tags), .t (.sl (x.whr.map Wh.e))], .box [.nil, .nil], .arr 1 false 0 ((x.tags.map (T.int .i64)).map .t), .box [.ref 2 0 x.tags.length, .ref 5 0 x.whr.length], .arr 2 false 0 [], .arr 2 false 0 ((x.whr.map Wh.e).map .t)]⟩) := by
  obtain ⟨tags, whr⟩ := x
  obtain ⟨h1, h2, h3⟩ := h
  simp only at h1 h2 h3 ⊢
  have tk : whr.take whr.length = whr := by simp
  refine loop_up (fun j => ⟨[.und, .bp 0 0, .bp 1 0, .bp 3 0, I j], [.box [.t (tL tags), .t (.sl (whr.map Wh.e))], .box [.nil, .nil], .arr 1 false 0 ((tags.map (T.int .i64)).map .t), .box [.ref 2 0 tags.length, .ref 5 0 (whr.take j).length], .arr 2 false 0 [], .arr 2 false 0 (((whr.take j).map Wh.e).map .t)]⟩) whr.length rfl ?_ ?_ (by simp)
  · intro j hj
    have c := copy_ok (nth whr j) (by have := h3 _ (nth_mem hj); omega)
    have lt : (whr.take j).length = j := by rw [List.length_take]; omega
    generalize hx : nth whr j = w at *
    obtain ⟨time, frm⟩ := w
    have tk : whr.take (j + 1) = whr.take j ++ [⟨time, frm⟩] := by rw [take_nth hj, hx]
    generalize whr.take j = pre at *
    simp (disch := omega) only [go_sem, K.ref26_CopyWorld_l1b, ↓reduceIte, hx, c, lt, tk, Nat.reduceAdd, Nat.reduceSub]
  · simp (disch := omega) only [go_sem, K.ref26_CopyWorld_l1b, ↓reduceIte, tk]
theorem copyWorld_ok (x : World) (h : x.sz) : CALL 0 N.ref26_CopyWorld [.t x.e] [] = some (.t x.e, []) := by
  refine CALL_of K.t_ref26_CopyWorld rfl ?_
  have loop := copyWorld_loop x h
  obtain ⟨tags, whr⟩ := x
  obtain ⟨h1, h2, h3⟩ := h
  simp only at h1 h2 h3 loop ⊢
  simp (disch := omega) only [go_sem, K.ref26_CopyWorld, ↓reduceIte, loop]
theorem copyWorld_ok1 (x : World) (h : x.sz) : CALL 1 N.ref26_CopyWorld [.t x.e] [] = some (.agg [.ref 0 0 x.tags.length, .ref 1 0 x.whr.length], [.arr 1 false 0 ((x.tags.map (T.int .i64)).map .t), .arr 2 false 0 ((x.whr.map Wh.e).map .t)]) := by
  refine CALL_of K.t_ref26_CopyWorld rfl ?_
  have loop := copyWorld_loop x h
  obtain ⟨tags, whr⟩ := x
  obtain ⟨h1, h2, h3⟩ := h
  simp only at h1 h2 h3 loop ⊢
  simp (disch := omega) only [go_sem, K.ref26_CopyWorld, ↓reduceIte, loop]
theorem copyBel_loop (l : List World) (h1 : l.length ≤ 1000000) (h2 : ∀ x ∈ l, x.sz) (a : D) : exS CALL K.ref26_Copy_l1 ⟨[a, .bp 0 0, .bp 1 0, .bp 2 0, I 0], [.box [.t (.sl (l.map World.e))], .box [.nil], .box [.ref 3 0 0], .arr 2 false 0 []]⟩ =
    some (.exit 0, ⟨[.und, .bp 0 0, .bp 1 0, .bp 2 0, I l.length], [.box [.t (.sl (l.map World.e))], .box [.nil], .box [.ref 3 0 l.length], .arr 2 false 0 ((l.map World.e).map .t)]⟩) := by
  have tk : l.take l.length = l := by simp
  refine loop_up (fun j => ⟨[.und, .bp 0 0, .bp 1 0, .bp 2 0, I j], [.box [.t (.sl (l.map World.e))], .box [.nil], .box [.ref 3 0 (l.take j).length], .arr 2 false 0 (((l.take j).map World.e).map .t)]⟩) l.length rfl ?_ ?_ (by simp)
  · intro j hj
    have c := copyWorld_ok (nth l j) (h2 _ (nth_mem hj))
    have lt : (l.take j).length = j := by rw [List.length_take]; omega
    generalize hx : nth l j = w at *
    obtain ⟨tags, whr⟩ := w
    have tk : l.take (j + 1) = l.take j ++ [⟨tags, whr⟩] := by rw [take_nth hj, hx]
    generalize l.take j = pre at *
    simp (disch := omega) only [go_sem, K.ref26_Copy_l1b, ↓reduceIte, hx, c, lt, tk, Nat.reduceAdd, Nat.reduceSub]
  · simp (disch := omega) only [go_sem, K.ref26_Copy_l1b, ↓reduceIte, tk]
theorem copyBel_ok (b : Bel) (h : b.sz) : CALL 0 N.ref26_Copy [.t b.e] [] = some (.t b.e, []) := by
  refine CALL_of K.t_ref26_Copy rfl ?_
  obtain ⟨h1, h2⟩ := h
  have loop := copyBel_loop b.worlds h1 h2
  obtain ⟨l⟩ := b
  simp only at h1 h2 loop ⊢
  simp (disch := omega) only [go_sem, K.ref26_Copy, ↓reduceIte, loop]
theorem copyBel_ok1 (b : Bel) (h : b.sz) : CALL 1 N.ref26_Copy [.t b.e] [] = some (.agg [.ref 0 0 b.worlds.length], [.arr 2 false 0 ((b.worlds.map World.e).map .t)]) := by
  refine CALL_of K.t_ref26_Copy rfl ?_
  obtain ⟨h1, h2⟩ := h
  have loop := copyBel_loop b.worlds h1 h2
  obtain ⟨l⟩ := b
  simp only at h1 h2 loop ⊢
  simp (disch := omega) only [go_sem, K.ref26_Copy, ↓reduceIte, loop]
def whoB (m : Mine) (first : List Int) (x : World) (k : Nat) : Bool := decide (0 ≤ bearerF first (nth x.tags k)) && validB m (nth x.whr k)
def worldB (m : Mine) (ws : List World) (first : List Int) (i : Nat) : Bool :=
  decide ((nth ws i).tags.length = first.length ∧ (nth ws i).whr.length = first.length) && properB (nth ws i).tags && (decide (i = 0) || lessB (nth ws (i - 1)).tags (nth ws i).tags) && (List.range (nth ws i).tags.length).all (whoB m first (nth ws i))
def belB (m : Mine) (b : Bel) : Bool :=
  decide (1 ≤ b.worlds.length ∧ b.worlds.length ≤ 24) && decide (1 ≤ (nth b.worlds 0).tags.length ∧ (nth b.worlds 0).tags.length ≤ 12) && (List.range b.worlds.length).all (worldB m b.worlds (nth b.worlds 0).tags)
theorem worldB_step {m : Mine} (h : m.ok) (ws : List World) (first : List Int) (hf : first.length ≤ 1000000) (hs : ∀ x ∈ ws, x.sz) (i : Nat) (hi : i < ws.length) (hl : ws.length ≤ 1000000) :
    (worldB m ws first i = true → roundC true [0, 1, 4, 7, 8] 2 (exS CALL K.ref26_Valid_l1b ⟨[.und, .und, .bp 0 0, .bp 1 0, .und, .t (tL first), I i, .und, .und], [.box (mineCells m), .box [.t (.sl (ws.map World.e))]]⟩) = some ⟨[.und, .und, .bp 0 0, .bp 1 0, .und, .t (tL first), I (i + 1), .und, .und], [.box (mineCells m), .box [.t (.sl (ws.map World.e))]]⟩) ∧
    (worldB m ws first i = false → ∃ q, exS CALL K.ref26_Valid_l1b ⟨[.und, .und, .bp 0 0, .bp 1 0, .und, .t (tL first), I i, .und, .und], [.box (mineCells m), .box [.t (.sl (ws.map World.e))]]⟩ = some q ∧ q.1 = .ret ∧ q.2.vs[4]? = some (B false)) := by
  have np := h.np
  have sz := hs _ (nth_mem hi)
  have sz0 : 0 < i → (nth ws (i - 1)).sz := fun h0 => hs _ (nth_mem (by omega))
  unfold worldB
  generalize hy : nth ws (i - 1) = y at *
  generalize hx : nth ws i = x at *
  obtain ⟨tags, whr⟩ := x
  obtain ⟨ptags, pwhr⟩ := y
  obtain ⟨s1, s2, s3⟩ := sz
  simp only at s1 s2 s3 sz0 ⊢
  have p := proper_ok tags s1
  have inner : tags.length = first.length → whr.length = first.length → ∀ a b c : D,
      ((List.range tags.length).all (whoB m first ⟨tags, whr⟩) = true ∧ exS CALL K.ref26_Valid_l2 ⟨[a, b, .bp 0 0, .bp 1 0, c, .t (tL first), I i, .bp 2 0, I 0], [.box (mineCells m), .box [.t (.sl (ws.map World.e))], .box [.t (tL tags), .t (.sl (whr.map Wh.e))]]⟩ =
        some (.exit 2, ⟨[.und, .und, .bp 0 0, .bp 1 0, .und, .t (tL first), I i, .bp 2 0, I tags.length], [.box (mineCells m), .box [.t (.sl (ws.map World.e))], .box [.t (tL tags), .t (.sl (whr.map Wh.e))]]⟩)) ∨
      ((List.range tags.length).all (whoB m first ⟨tags, whr⟩) = false ∧ ∃ j, exS CALL K.ref26_Valid_l2 ⟨[a, b, .bp 0 0, .bp 1 0, c, .t (tL first), I i, .bp 2 0, I 0], [.box (mineCells m), .box [.t (.sl (ws.map World.e))], .box [.t (tL tags), .t (.sl (whr.map Wh.e))]]⟩ =
        some (.ret, ⟨[.und, .und, .bp 0 0, .bp 1 0, B false, .t (tL first), I i, .bp 2 0, j], [.box (mineCells m), .box [.t (.sl (ws.map World.e))], .box [.t (tL tags), .t (.sl (whr.map Wh.e))]]⟩)) := by
    intro l1 l2 a b c
    have := loop_first (gc := true) (dead := [0, 1, 4]) (c := K.ref26_Valid_l2b) (vs := [a, b, .bp 0 0, .bp 1 0, c, .t (tL first), I i, .bp 2 0, I 0]) (H := [.box (mineCells m), .box [.t (.sl (ws.map World.e))], .box [.t (tL tags), .t (.sl (whr.map Wh.e))]])
      (fun j => ⟨[.und, .und, .bp 0 0, .bp 1 0, .und, .t (tL first), I i, .bp 2 0, I j], [.box (mineCells m), .box [.t (.sl (ws.map World.e))], .box [.t (tL tags), .t (.sl (whr.map Wh.e))]]⟩) tags.length (fun j => !whoB m first ⟨tags, whr⟩ j)
      (fun j => (.ret, ⟨[.und, .und, .bp 0 0, .bp 1 0, B false, .t (tL first), I i, .bp 2 0, I j], [.box (mineCells m), .box [.t (.sl (ws.map World.e))], .box [.t (tL tags), .t (.sl (whr.map Wh.e))]]⟩))
      (.exit 2, ⟨[.und, .und, .bp 0 0, .bp 1 0, .und, .t (tL first), I i, .bp 2 0, I tags.length], [.box (mineCells m), .box [.t (.sl (ws.map World.e))], .box [.t (tL tags), .t (.sl (whr.map Wh.e))]]⟩) rfl
      (by
        intro j hj hp
        have hp : whoB m first ⟨tags, whr⟩ j = true := by simpa using hp
        have b := bearer_ok first (nth tags j) hf
        have v := valid_ok h (nth whr j) (by have := s3 _ (nth_mem (l := whr) (j := j) (by omega)); omega)
        simp only [whoB, Bool.and_eq_true, decide_eq_true_eq] at hp
        rw [hp.2] at v
        have hp := hp.1
        simp (disch := omega) only [go_sem, K.ref26_Valid_l2b, ↓reduceIte, b, v])
      (by
        intro j hj hp
        have hp : whoB m first ⟨tags, whr⟩ j = false := by simpa using hp
        have b := bearer_ok first (nth tags j) hf
        have v := valid_ok h (nth whr j) (by have := s3 _ (nth_mem (l := whr) (j := j) (by omega)); omega)
        refine ⟨?_, by simp⟩
        by_cases c1 : bearerF first (nth tags j) < 0
        · simp (disch := omega) only [go_sem, K.ref26_Valid_l2b, ↓reduceIte, b, v]
        · have : validB m (nth whr j) = false := by
            simp only [whoB, Bool.and_eq_false_iff, decide_eq_false_iff_not] at hp
            rcases hp with hp | hp
            · exact absurd (by omega) hp
            · exact hp
          rw [this] at v
          simp (disch := omega) only [go_sem, K.ref26_Valid_l2b, ↓reduceIte, b, v])
      (by simp (disch := omega) only [go_sem, K.ref26_Valid_l2b, ↓reduceIte]) (by simp)
    cases hf : (List.range tags.length).find? (fun j => !whoB m first ⟨tags, whr⟩ j) with
    | none => rw [hf] at this; exact .inl ⟨by rw [find_all, hf]; rfl, this⟩
    | some j => rw [hf] at this; exact .inr ⟨by rw [find_all, hf]; rfl, ⟨_, this⟩⟩
  by_cases l1 : tags.length = first.length
  · by_cases l2 : whr.length = first.length
    · cases hp : properB tags with
      | false =>
        rw [hp] at p
        refine ⟨fun h => by simp [hp] at h, fun _ => ?_⟩
        simp (disch := omega) only [go_sem, K.ref26_Valid_l1b, ↓reduceIte, hx, p]
        refine ⟨_, rfl, ?_, ?_⟩ <;> rfl
      | true =>
        rw [hp] at p
        have inner := inner l1 l2
        cases i with
        | zero =>
          simp only [q_cast_zero] at inner
          simp only [l1, l2, and_self, decide_true, Bool.true_and, Bool.true_or] at inner ⊢
          rcases inner .und .und .und with ⟨e, -⟩ | ⟨e, -⟩
          · refine ⟨fun _ => ?_, fun h => by rw [e] at h; exact absurd h (by simp)⟩
            have inner := fun a b c => ((inner a b c).resolve_right fun h => by rw [e] at h; exact absurd h.1 (by simp)).2
            simp (disch := omega) only [go_sem, K.ref26_Valid_l1b, ↓reduceIte, hx, p, inner]
          · refine ⟨fun h => by rw [e] at h; exact absurd h (by simp), fun _ => ?_⟩
            have inner : ∀ a b c, _ := fun a b c => ((inner a b c).resolve_left fun h => by rw [e] at h; exact absurd h.1 (by simp)).2
            obtain ⟨j, inner⟩ := inner .und .und .und
            simp (disch := omega) only [go_sem, K.ref26_Valid_l1b, ↓reduceIte, hx, p, inner]
            refine ⟨_, rfl, ?_, ?_⟩ <;> rfl
        | succ i =>
          simp only [q_cast_add, q_cast_one] at inner
          rw [Nat.add_sub_cancel] at hy
          have ls := less_ok ptags tags (sz0 (by omega)).1 s1
          cases hl : lessB ptags tags with
          | false =>
            rw [hl] at ls
            refine ⟨fun h => by simp at h, fun _ => ?_⟩
            simp (disch := omega) only [go_sem, K.ref26_Valid_l1b, ↓reduceIte, hx, p, hy, ls]
            refine ⟨_, rfl, ?_, ?_⟩ <;> rfl
          | true =>
            rw [hl] at ls
            simp only [l1, l2, and_self, decide_true, Bool.true_and, Bool.or_true] at inner ⊢
            rcases inner .und .und .und with ⟨e, -⟩ | ⟨e, -⟩
            · refine ⟨fun _ => ?_, fun h => by rw [e] at h; exact absurd h (by simp)⟩
              have inner := fun a b c => ((inner a b c).resolve_right fun h => by rw [e] at h; exact absurd h.1 (by simp)).2
              simp (disch := omega) only [go_sem, K.ref26_Valid_l1b, ↓reduceIte, hx, hy, ls, p, inner]
            · refine ⟨fun h => by rw [e] at h; exact absurd h (by simp), fun _ => ?_⟩
              have inner : ∀ a b c, _ := fun a b c => ((inner a b c).resolve_left fun h => by rw [e] at h; exact absurd h.1 (by simp)).2
              obtain ⟨j, inner⟩ := inner .und .und .und
              simp (disch := omega) only [go_sem, K.ref26_Valid_l1b, ↓reduceIte, hx, hy, ls, p, inner]
              refine ⟨_, rfl, ?_, ?_⟩ <;> rfl
    · refine ⟨fun h => by simp [l2] at h, fun _ => ?_⟩
      simp (disch := omega) only [go_sem, K.ref26_Valid_l1b, ↓reduceIte, hx, p]
      refine ⟨_, rfl, ?_, ?_⟩ <;> rfl
  · refine ⟨fun h => by simp [l1] at h, fun _ => ?_⟩
    simp (disch := omega) only [go_sem, K.ref26_Valid_l1b, ↓reduceIte, hx, p]
    refine ⟨_, rfl, ?_, ?_⟩ <;> rfl
theorem belB_ok {m : Mine} (h : m.ok) (b : Bel) (hs : b.sz) : CALL 0 N.ref26_Valid [.t m.e, .t b.e] [] = some (B (belB m b), []) := by
  refine CALL_of K.t_ref26_Valid rfl ?_
  obtain ⟨h1, h2⟩ := hs
  have ck := check_ok h
  obtain ⟨ws⟩ := b
  unfold belB
  simp only at h1 h2 ⊢
  by_cases c1 : ws.length < 1
  · simp (disch := omega) only [go_sem, K.ref26_Valid, ↓reduceIte, show ¬ (1 ≤ ws.length ∧ ws.length ≤ 24) by omega, decide_false, Bool.false_and]
  · by_cases c2 : 24 < ws.length
    · simp (disch := omega) only [go_sem, K.ref26_Valid, ↓reduceIte, show ¬ (1 ≤ ws.length ∧ ws.length ≤ 24) by omega, decide_false, Bool.false_and]
    · have c3 : 1 ≤ ws.length ∧ ws.length ≤ 24 := by omega
      have sz := h2 _ (nth_mem (l := ws) (j := 0) (by omega))
      have i0 : (ws.map World.e)[0]? = some (nth ws 0).e := map_nth _ (by omega)
      generalize hx : nth ws 0 = x at *
      obtain ⟨first, whr⟩ := x
      have hf := sz.1
      simp only at hf ⊢
      by_cases c4 : first.length < 1
      · simp (disch := omega) only [go_sem, K.ref26_Valid, ↓reduceIte, ck, hx, c3, and_self, show ¬ (1 ≤ first.length ∧ first.length ≤ 12) by omega, decide_true, decide_false, Bool.true_and, Bool.false_and]
      · by_cases c5 : 12 < first.length
        · simp (disch := omega) only [go_sem, K.ref26_Valid, ↓reduceIte, ck, hx, c3, and_self, show ¬ (1 ≤ first.length ∧ first.length ≤ 12) by omega, decide_true, decide_false, Bool.true_and, Bool.false_and]
        · have loop := fun a b c d e => loop_find (gc := true) (dead := [0, 1, 4, 7, 8]) (c := K.ref26_Valid_l1b) (vs := [a, b, .bp 0 0, .bp 1 0, c, .t (tL first), I 0, d, e]) (H := [.box (mineCells m), .box [.t (.sl (ws.map World.e))]])
            (fun j => ⟨[.und, .und, .bp 0 0, .bp 1 0, .und, .t (tL first), I j, .und, .und], [.box (mineCells m), .box [.t (.sl (ws.map World.e))]]⟩) ws.length (fun j => !worldB m ws first j) (fun _ q => q.1 = .ret ∧ q.2.vs[4]? = some (B false))
            (.exit 0, ⟨[.und, .und, .bp 0 0, .bp 1 0, .und, .t (tL first), I ws.length, .und, .und], [.box (mineCells m), .box [.t (.sl (ws.map World.e))]]⟩) rfl
            (fun j hj hp => (worldB_step h ws first hf h2 j hj h1).1 (by simpa using hp))
            (fun j hj hp => by
              obtain ⟨q, q1, q2, q3⟩ := (worldB_step h ws first hf h2 j hj h1).2 (by simpa using hp)
              exact ⟨q, q1, by rw [q2]; simp, q2, q3⟩)
            (by simp (disch := omega) only [go_sem, K.ref26_Valid_l1b, ↓reduceIte]) (by simp)
          rw [find_all]
          rcases loop (.t m.e) (.t (Bel.e ⟨ws⟩)) (B false) .und .und with ⟨e1, e2⟩ | ⟨j, ⟨x, vs, H⟩, e1, e2, e3, e4⟩
          · have e2 : exS CALL K.ref26_Valid_l1 ⟨[.t m.e, .t (Bel.e ⟨ws⟩), .bp 0 0, .bp 1 0, B false, .t (tL first), I 0, .und, .und], [.box (mineCells m), .box [.t (.sl (ws.map World.e))]]⟩ = _ := e2
            simp (disch := omega) only [go_sem, K.ref26_Valid, ↓reduceIte, ck, hx, c3, and_self, show (1 ≤ first.length ∧ first.length ≤ 12) by omega, decide_true, decide_false, Bool.true_and, e1, e2, Option.isNone]
          · have e2 : exS CALL K.ref26_Valid_l1 ⟨[.t m.e, .t (Bel.e ⟨ws⟩), .bp 0 0, .bp 1 0, B false, .t (tL first), I 0, .und, .und], [.box (mineCells m), .box [.t (.sl (ws.map World.e))]]⟩ = _ := e2
            simp only at e3 e4
            subst e3
            simp (disch := omega) only [go_sem, K.ref26_Valid, ↓reduceIte, ck, hx, c3, and_self, show (1 ≤ first.length ∧ first.length ≤ 12) by omega, decide_true, decide_false, Bool.true_and, e1, e2, Option.isNone]
            simp (disch := omega) only [go_sem, getRes, e4, List.take_zero]
end Go.Ev

namespace Go.Ev
open Go
variable [Lib] [Has1] [Has2]
@[go_sem] theorem opBs_3n (H : Heap) (a b : List T) : opBs H 1 [.t (.sl a), .t (.sl b), .nil] = some (.t (.sl [.sl a, .sl b, .sl []]), H) := by
  simp only [opBs, List.all_cons, List.all_nil, D.cells, T.cells, List.map_cons, List.map_nil, List.length_cons, List.length_nil, mapO, frz, depth, arrs, List.flatMap_cons, List.flatMap_nil, pins]
  rfl
def eqAnd (c : Bool) : Option Bool → Option Bool
  | some d => some (c && d)
  | none => none
@[go_sem] theorem eqAnd_some (c d : Bool) : eqAnd c (some d) = some (c && d) := (rfl)
@[go_sem] theorem eqInts_nil : eqInts [] [] = some true := (rfl)
@[go_sem] theorem eqInts_cons (k : IntKind) (a b : Int) (xs ys : List T) : eqInts (.int k a :: xs) (.int k b :: ys) = eqAnd (decide (a = b)) (eqInts xs ys) := by
  simp only [eqInts, if_true, beqI]
  cases eqInts xs ys <;> rfl
def eqOut (H : Heap) (neg : Bool) : Option Bool → Option (D × Heap)
  | some r => some (.t (.bool (bif neg then !r else r)), H)
  | none => none
@[go_sem] theorem eqOut_true (H : Heap) (r : Bool) : eqOut H true (some r) = some (.t (.bool (!r)), H) := (rfl)
@[go_sem] theorem eqOut_false (H : Heap) (r : Bool) : eqOut H false (some r) = some (.t (.bool r), H) := (rfl)
@[go_sem] theorem opEqk_intsG (H : Heap) (n : Nat) (neg : Bool) (xs ys : List T) : opEqk H (.ints n) neg (some (.t (.agg xs))) (some (.t (.agg ys))) = if xs.length = n then eqOut H neg (eqInts xs ys) else none := by
  simp only [opEqk, Option.bind_some, eqkD, eqD]
  by_cases h : xs.length = n
  · simp only [if_pos h]
    cases eqInts xs ys with
    | none => rfl
    | some r => cases neg <;> rfl
  · simp only [if_neg h]; rfl
@[go_sem] theorem q_cast_two : ((2 : Nat) : Int) = 2 := (rfl)
@[go_sem] theorem q_cast_three : ((3 : Nat) : Int) = 3 := (rfl)
def firstN (n : Nat) (p : Nat → Bool) : Nat := ((List.range n).find? p).getD 0
theorem loop_srch {gc : Bool} {dead : List Nat} {c : C} {vs : List D} {H : Heap} (s : Nat → St) (n : Nat) (p : Nat → Bool) (e : Nat → Ex × St) (eN : Ex × St)
    (h0 : (⟨dropV dead vs, H⟩ : St) = s 0)
    (hs : ∀ j, j < n → p j = false → roundC gc dead (s j).H.length (exS CALL c (s j)) = some (s (j + 1)))
    (he : ∀ j, j < n → p j = true → exS CALL c (s j) = some (e j) ∧ (e j).1 ≠ .normal)
    (hN : exS CALL c (s n) = some eN) (hn : eN.1 ≠ .normal) :
    exS CALL (.loop gc dead c) ⟨vs, H⟩ = some (if (List.range n).any p = true then e (firstN n p) else eN) := by
  rw [loop_first s n p e eN h0 hs he hN hn, ← find_any]
  unfold firstN
  cases hf : (List.range n).find? p with
  | none => simp
  | some k => simp
theorem any_rng {α : Type} [Dat α] (l : List α) (p : α → Bool) : ((List.range l.length).any fun j => p (nth l j)) = l.any p := by
  rw [Bool.eq_iff_iff, List.any_eq_true, List.any_eq_true]
  constructor
  · rintro ⟨j, hj, hp⟩
    exact ⟨_, nth_mem (List.mem_range.1 hj), hp⟩
  · rintro ⟨x, hx, hp⟩
    obtain ⟨j, hj, rfl⟩ := List.getElem_of_mem hx
    exact ⟨j, List.mem_range.2 hj, by rw [nth_eq (List.getElem?_eq_getElem hj)]; exact hp⟩
theorem all_rng (n : Nat) (p : Nat → Bool) : (List.range n).all p = !((List.range n).any fun j => !p j) := by
  rw [List.all_eq_not_any_not]
end Go.Ev

namespace Go.Ev.N
def law34_FiringRaw : Nat := 78
def law34_FiringMade : Nat := 79
def law34_FiringNeeds : Nat := 80
def law34_awake : Nat := 81
def made_Dice_Ints : Nat := 82
def law34_scene : Nat := 83
def law34_agree : Nat := 84
def law34_ready : Nat := 85
def firing_Arm : Nat := 86
def firing_Agree : Nat := 87
def firing_Fire : Nat := 88
def firing_Abort : Nat := 89
def firing_Valid : Nat := 90
def firing_Due : Nat := 91
def ref32_Border : Nat := 92
def ref32_Seal : Nat := 93
def made_Last : Nat := 94
def ref34_Arm : Nat := 95
def ref34_Agree : Nat := 96
def ref34_Fire : Nat := 97
def ref34_Abort : Nat := 98
def ref34_Valid : Nat := 99
def firing_Safe : Nat := 100
def ref34_Safe : Nat := 101
def ref34_Due : Nat := 102
def firing_request_check : Nat := 103
def firing_timely : Nat := 104
def lists_Rising : Nat := 105
def ref32_Barred : Nat := 106
def ref32_seal : Nat := 107
def ref34_step : Nat := 108
def ref34_blast : Nat := 109
def keys_Valid : Nat := 110
def area_Clear : Nat := 111
def ref33_Valid : Nat := 112
def ref32_Clear : Nat := 113
def ref31_Copy : Nat := 114
def keys_Valid_1 : Nat := 115
def keys_roads : Nat := 116
def keys_boxed : Nat := 117
def area_Clear_1 : Nat := 118
def keys_boxed_1 : Nat := 119
def ref26_Copy_v1 : Nat := 120
def ref26_Copy_v2 : Nat := 121
def ref26_CopyWorld_v2 : Nat := 122
end Go.Ev.N

namespace Go.Ev.K
open Go.Ev
end Go.Ev.K
namespace Go.Ev
class Has3 [Lib] : Prop where
namespace K
variable [Lib] [Has3]
end K
end Go.Ev

namespace Go.Ev.K
open Go.Ev
def lists_Rising_l1b : C := (.its  [{ o := .bin .lss (.v 8) (.v 7) }] [] 0 .skip (.exit 0) (.seq (.blk 1 (.seq (.reg [{ o := .mv (.v 8) }, { o := .ia (.v 6) (.v 8) 1 }, { o := .ld (.l 0) 1 false }, { o := .mv (.l 2), d := some 4 }, { o := .mv (.l 1), d := some 5 }] []) (.ite [{ o := .mv (.v 5) }, { o := .mv (.v 1) }, { o := .bin .lss (.l 1) (.l 0) }, { o := .mv (.l 0) }, { o := .mv (.v 5), g := some (0, false) }, { o := .mv (.v 2), g := some (1, false) }, { o := .bin .gtr (.l 1) (.l 0), g := some (2, false) }, { o := .pk (.l 3) (.b true) (.l 0) }, { o := .mv (.l 0) }, { o := .mv (.v 4), g := some (0, false) }, { o := .bin .gtr (.l 0) (.i 0), g := some (1, false) }, { o := .mv (.l 0), g := some (2, false) }, { o := .mv (.v 5), g := some (0, true) }, { o := .mv (.v 0), g := some (1, true) }, { o := .mv (.v 4), g := some (2, true) }, { o := .bin .sub (.l 0) (.i 1), g := some (3, true) }, { o := .ia (.l 2) (.l 0) 1, g := some (4, true) }, { o := .ld (.l 0) 1 false, g := some (5, true) }, { o := .bin .leq (.l 5) (.l 0), g := some (6, true) }, { o := .pk (.l 7) (.l 0) (.b false), g := some (10, false) }, { o := .pk (.l 11) (.b true) (.l 0) }] [] 0 (.seq (.reg [{ o := .mv (.b false), d := some 3 }] []) .ret) .skip))) (.reg [{ o := .bin .add (.v 8) (.i 1) }, { o := .mv (.l 0), d := some 8 }] [])))
def lists_Rising_l1 : C := .loop true [3, 4, 5] K.lists_Rising_l1b
def lists_Rising : Fn := { nargs := 3, vars := [0, 1, 2, 6, 7, 8, 9, 10, 11], body := (.seq (.reg [{ o := .mv (.b false), d := some 3 }] []) (.seq (.seq (.reg [{ o := .mv (.v 0), d := some 6 }, { o := .ln (.l 0), d := some 7 }, { o := .mv (.i 0), d := some 8 }] []) (.blk 0 K.lists_Rising_l1)) (.seq (.reg [{ o := .mv (.b true), d := some 3 }] []) .ret))), res := [(3, none)] }
end Go.Ev.K
namespace Go.Ev
class Has4 [Lib] : Prop where
  t_lists_Rising : Lib.fs N.lists_Rising = some K.lists_Rising
namespace K
variable [Lib] [Has4]
theorem t_lists_Rising : Lib.fs N.lists_Rising = some K.lists_Rising := Has4.t_lists_Rising
end K
end Go.Ev

namespace Go.Ev
open Go
variable [Lib] [Has1] [Has2] [Has3] [Has4]
def risP (l : List Int) (lo hi : Int) (j : Nat) : Bool := !decide (lo ≤ nth l j ∧ nth l j ≤ hi ∧ (0 < j → nth l (j - 1) < nth l j))
def risB (l : List Int) (lo hi : Int) : Bool := !((List.range l.length).any (risP l lo hi))
theorem rising_ok (l : List Int) (lo hi : Int) (hl : l.length ≤ 4294967296) : CALL 0 N.lists_Rising [.t (tL l), I lo, I hi] [] = some (B (risB l lo hi), []) := by
  refine CALL_of K.t_lists_Rising rfl ?_
  have loop : ∀ a b c : D, exS CALL K.lists_Rising_l1 ⟨[.t (tL l), I lo, I hi, a, b, c, .t (tL l), I l.length, I 0], []⟩ =
      some (if (List.range l.length).any (risP l lo hi) = true
        then (.ret, ⟨[.t (tL l), I lo, I hi, B false, I (firstN l.length (risP l lo hi)), I (nth l (firstN l.length (risP l lo hi))), .t (tL l), I l.length, I (firstN l.length (risP l lo hi))], []⟩)
        else (.exit 0, ⟨[.t (tL l), I lo, I hi, .und, .und, .und, .t (tL l), I l.length, I l.length], []⟩)) := by
    intro a b c
    refine loop_srch (fun j => ⟨[.t (tL l), I lo, I hi, .und, .und, .und, .t (tL l), I l.length, I j], []⟩) l.length (risP l lo hi) (fun j => (.ret, ⟨[.t (tL l), I lo, I hi, B false, I j, I (nth l j), .t (tL l), I l.length, I j], []⟩)) _ rfl ?_ ?_ ?_ (by simp)
    · intro j hj hp
      simp only [risP, Bool.not_eq_false', decide_eq_true_eq] at hp
      obtain ⟨h1, h2, h3⟩ := hp
      cases j with
      | zero => simp (disch := omega) only [go_sem, K.lists_Rising_l1b, ↓reduceIte]
      | succ j =>
        have h3 := h3 (by omega)
        rw [Nat.add_sub_cancel] at h3
        simp (disch := omega) only [go_sem, K.lists_Rising_l1b, ↓reduceIte]
    · intro j hj hp
      simp only [risP, Bool.not_eq_true', decide_eq_false_iff_not] at hp
      refine ⟨?_, by simp⟩
      by_cases h1 : lo ≤ nth l j
      · by_cases h2 : nth l j ≤ hi
        · cases j with
          | zero => exact absurd ⟨h1, h2, fun h => absurd h (by omega)⟩ hp
          | succ j =>
            have h3 : ¬ nth l j < nth l (j + 1) := fun h => hp ⟨h1, h2, fun _ => by simpa using h⟩
            simp (disch := omega) only [go_sem, K.lists_Rising_l1b, ↓reduceIte]
        · simp (disch := omega) only [go_sem, K.lists_Rising_l1b, ↓reduceIte]
      · simp (disch := omega) only [go_sem, K.lists_Rising_l1b, ↓reduceIte]
    · simp (disch := omega) only [go_sem, K.lists_Rising_l1b, ↓reduceIte]
  unfold risB
  simp (disch := omega) only [go_sem, K.lists_Rising, ↓reduceIte, loop]
  cases hf : (List.range l.length).any (risP l lo hi) with
  | true => simp (disch := omega) only [go_sem, ↓reduceIte]
  | false => simp (disch := omega) only [go_sem, ↓reduceIte, Bool.false_eq_true]
theorem ris_set (l : List Int) (n : Int) : risB l 0 (n - 1) = setB l n := by
  unfold risB setB
  rw [all_rng]
  refine congrArg (!·) (congrArg _ (funext fun j => ?_))
  unfold risP
  refine congrArg (!·) (decide_eq_decide.2 ⟨fun h => ⟨h.1, by omega, h.2.2⟩, fun h => ⟨h.1, by omega, h.2.2⟩⟩)
structure Shot where
  st : Int
  fi : Int
  se : Int
  ti : Int
abbrev Shot.e (s : Shot) : T := .agg [tI s.st, tI s.fi, tI s.se, tI s.ti]
structure Blast where
  area : List Int
  hold : Int
  mis : Int
abbrev Blast.e (x : Blast) : T := .agg [tL x.area, tI x.hold, tI x.mis]
structure Keys where
  roads : List Int
  keys : List Int
  out : Bool
abbrev Keys.e (k : Keys) : T := .agg [tL k.roads, tL k.keys, .bool k.out]
end Go.Ev

namespace Go.Ev
open Go
variable [Lib] [Has1] [Has2]
@[go_sem] theorem appOK_place (l : List Place) : appOK 2 (l.map Place.e) = true := by cases l <;> rfl
@[go_sem] theorem appOK_road (l : List Road) : appOK 10 (l.map Road.e) = true := by cases l <;> rfl
@[go_sem] theorem ldBox_dice (H : Heap) (d : Dice) : ldBox H 0 1 false (some d.obj) = some (.t (tL d.L), H) := by simp only [Dice.obj, go_sem]
def Dice.placesN (d : Dice) : Nat → List Place × Dice
  | 0 => ([], d)
  | k + 1 => if k = 0 then ((d.placesN k).1 ++ [⟨-10 * ((d.placesN k).2.next 4).1, true⟩], ((d.placesN k).2.next 4).2)
    else ((d.placesN k).1 ++ [⟨-10 * ((d.placesN k).2.next 4).1, (((d.placesN k).2.next 4).2.one 6).1⟩], (((d.placesN k).2.next 4).2.one 6).2)
def Dice.road1 (d : Dice) (i : Int) : Road × Dice :=
  (⟨i - 1 - (d.next (min i 2)).1, i, 1 + ((d.next (min i 2)).2.of [11, 59, 119, 4]).1, 1 + (((d.next (min i 2)).2.of [11, 59, 119, 4]).2.of [9, 3, 19]).1, true, false, 1, 1, 0, 0⟩,
    (((d.next (min i 2)).2.of [11, 59, 119, 4]).2.of [9, 3, 19]).2)
def Dice.roadsN (d : Dice) : Nat → List Road × Dice
  | 0 => ([], d)
  | k + 1 => ((d.roadsN k).1 ++ [((d.roadsN k).2.road1 (k + 1)).1], ((d.roadsN k).2.road1 (k + 1)).2)
def Dice.road2 (d : Dice) (n : Int) : Road × Dice :=
  let a := d.next n
  let b := a.2.next n
  let l := b.2.of [11, 59, 199]
  let r := l.2.of [9, 3]
  let w := r.2.next 5
  let c := w.2.one 6
  (⟨a.1, b.1, 1 + l.1, 1 + r.1, decide (0 < w.1), c.1, 1, 1, 0, 0⟩, c.2)
def Dice.more (n : Int) (l : List Road) (d : Dice) : Nat → List Road × Dice
  | 0 => (l, d)
  | k + 1 => if l.length < 10 then Dice.more n (if (d.road2 n).1.frm = (d.road2 n).1.to then l else l ++ [(d.road2 n).1]) (d.road2 n).2 k else (l, d)
def Dice.mineN (d : Dice) : Nat := if d.L.length = 0 then 4 else (2 + (d.next 6).1).toNat
def Dice.mineP (d : Dice) : List Place × Dice := (d.next 6).2.placesN d.mineN
def Dice.mineR (d : Dice) : List Road × Dice := d.mineP.2.roadsN (d.mineN - 1)
def Dice.mineX (d : Dice) : List Road × Dice := Dice.more d.mineN d.mineR.1 (d.mineR.2.next 4).2 (d.mineR.2.next 4).1.toNat
def Dice.mine (d : Dice) : Mine × Dice := (⟨d.mineP.1, d.mineX.1⟩, d.mineX.2)
theorem Dice.placesN_light {d : Dice} (h : d.light) : ∀ n, (d.placesN n).2.light
  | 0 => h
  | n + 1 => by
    unfold Dice.placesN
    split
    · exact Dice.next_light (Dice.placesN_light h n) 4
    · exact Dice.one_light (Dice.next_light (Dice.placesN_light h n) 4) 6
theorem Dice.placesN_len (d : Dice) : ∀ n, (d.placesN n).1.length = n
  | 0 => rfl
  | n + 1 => by
    unfold Dice.placesN
    split <;> simp [d.placesN_len n]
theorem Dice.road1_light {d : Dice} (h : d.light) (i : Int) : (d.road1 i).2.light := Dice.of_light (Dice.of_light (Dice.next_light h _) _) _
theorem Dice.roadsN_light {d : Dice} (h : d.light) : ∀ n, (d.roadsN n).2.light
  | 0 => h
  | n + 1 => Dice.road1_light (Dice.roadsN_light h n) _
theorem Dice.roadsN_len (d : Dice) : ∀ n, (d.roadsN n).1.length = n
  | 0 => rfl
  | n + 1 => by simp [Dice.roadsN, d.roadsN_len n]
theorem Dice.road2_light {d : Dice} (h : d.light) (n : Int) : (d.road2 n).2.light := by
  unfold Dice.road2; simp only
  exact Dice.one_light (Dice.next_light (Dice.of_light (Dice.of_light (Dice.next_light (Dice.next_light h _) _) _) _) _) _
theorem Dice.more_light (n : Int) : ∀ (k : Nat) (l : List Road) {d : Dice}, d.light → (Dice.more n l d k).2.light
  | 0, l, d, h => h
  | k + 1, l, d, h => by
    unfold Dice.more
    split
    · exact Dice.more_light n k _ (Dice.road2_light h n)
    · exact h
theorem Dice.mine_light {d : Dice} (h : d.light) : d.mine.2.light :=
  Dice.more_light _ _ _ (Dice.next_light (Dice.roadsN_light (Dice.placesN_light (Dice.next_light h _) _) _) _)
abbrev roadBox : List D := [I 0, I 0, I 12, I 10, B true, B false, I 1, I 1, I 0, I 0]
theorem mine_loop1 (d : Dice) (hd : d.light) (n : Nat) (hn : n ≤ 8) (a b c e f : D) :
    exS CALL K.made_Dice_Mine_l1 ⟨[.bp 0 0, .bp 1 0, .bp 2 0, I n, I 0, a, b, c, e, f], [d.obj, .box [.nil, .nil], .box [.ref 3 0 0, .ref 4 0 0], .arr 2 false 0 [], .arr 10 false 0 []]⟩ =
    some (.exit 0, ⟨[.bp 0 0, .bp 1 0, .bp 2 0, I n, I n, .und, .und, .und, .und, .und], [(d.placesN n).2.obj, .box [.nil, .nil], .box [.ref 3 0 (d.placesN n).1.length, .ref 4 0 0], .arr 2 false 0 (((d.placesN n).1.map Place.e).map .t), .arr 10 false 0 []]⟩) := by
  refine loop_up (fun j => ⟨[.bp 0 0, .bp 1 0, .bp 2 0, I n, I j, .und, .und, .und, .und, .und], [(d.placesN j).2.obj, .box [.nil, .nil], .box [.ref 3 0 (d.placesN j).1.length, .ref 4 0 0], .arr 2 false 0 (((d.placesN j).1.map Place.e).map .t), .arr 10 false 0 []]⟩) n rfl ?_ ?_ (by simp)
  · intro j hj
    have ln := d.placesN_len j
    have lt := Dice.placesN_light hd j
    simp only [Dice.placesN]
    generalize d.placesN j = s at *
    obtain ⟨l, d1⟩ := s
    simp only at ln lt ⊢
    have h1 := next_ok d1 4 (by omega) lt
    have b1 := d1.next_lo 4
    have b2 := d1.next_hi (n := 4) (by omega)
    have l1 := Dice.next_light lt 4
    generalize d1.next 4 = a1 at *
    obtain ⟨x, d2⟩ := a1
    simp only at h1 b1 b2 l1 ⊢
    by_cases j0 : j = 0
    · subst j0
      simp (disch := omega) only [go_sem, K.made_Dice_Mine_l1b, h1, ↓reduceIte, Nat.reduceAdd, Nat.reduceSub]
    · have h2 := one_ok d2 6 (by omega) (by omega) l1
      simp (disch := omega) only [go_sem, K.made_Dice_Mine_l1b, h1, h2, j0, ↓reduceIte, Nat.reduceAdd, Nat.reduceSub]
  · simp (disch := omega) only [go_sem, K.made_Dice_Mine_l1b, ↓reduceIte]
theorem mine_loop2 (d : Dice) (hd : d.light) (n : Nat) (hn : n ≤ 8) (h1 : 1 ≤ n) (ps : List Place) (a b c e : D) :
    exS CALL K.made_Dice_Mine_l2 ⟨[.bp 0 0, .bp 1 0, .bp 2 0, I n, a, .bp 5 0, I 1, b, c, e], [d.obj, .box [.nil, .nil], .box [.ref 3 0 ps.length, .ref 4 0 0], .arr 2 false 0 ((ps.map Place.e).map .t), .arr 10 false 0 [], .box roadBox]⟩ =
    some (.exit 2, ⟨[.bp 0 0, .bp 1 0, .bp 2 0, I n, .und, .bp 5 0, I n, .und, .und, .und], [(d.roadsN (n - 1)).2.obj, .box [.nil, .nil], .box [.ref 3 0 ps.length, .ref 4 0 (d.roadsN (n - 1)).1.length], .arr 2 false 0 ((ps.map Place.e).map .t), .arr 10 false 0 (((d.roadsN (n - 1)).1.map Road.e).map .t), .box roadBox]⟩) := by
  refine loop_up (fun j => ⟨[.bp 0 0, .bp 1 0, .bp 2 0, I n, .und, .bp 5 0, I (j + 1), .und, .und, .und], [(d.roadsN j).2.obj, .box [.nil, .nil], .box [.ref 3 0 ps.length, .ref 4 0 (d.roadsN j).1.length], .arr 2 false 0 ((ps.map Place.e).map .t), .arr 10 false 0 (((d.roadsN j).1.map Road.e).map .t), .box roadBox]⟩) (n - 1) rfl ?_ ?_ (by simp)
  · intro j hj
    have ln := d.roadsN_len j
    have lt := Dice.roadsN_light hd j
    simp only [Dice.roadsN]
    generalize d.roadsN j = s at *
    obtain ⟨l, d1⟩ := s
    simp only [Dice.road1] at ln lt ⊢
    have h1 := next_ok d1 (min ((j : Int) + 1) 2) (by omega) lt
    have b1 := d1.next_lo (min ((j : Int) + 1) 2)
    have b2 := d1.next_hi (n := min ((j : Int) + 1) 2) (by omega)
    have l1 := Dice.next_light lt (min ((j : Int) + 1) 2)
    generalize d1.next (min ((j : Int) + 1) 2) = a1 at *
    obtain ⟨x, d2⟩ := a1
    simp only at h1 b1 b2 l1 ⊢
    have h2 := of_ok d2 [11, 59, 119, 4] (by simp) (by simp) l1
    have m2 := d2.of_mem (l := [11, 59, 119, 4]) (by simp)
    have l2 := Dice.of_light l1 [11, 59, 119, 4]
    generalize d2.of [11, 59, 119, 4] = a2 at *
    obtain ⟨y, d3⟩ := a2
    simp only [tL, List.map_cons, List.map_nil] at h2 m2 l2 ⊢
    have h3 := of_ok d3 [9, 3, 19] (by simp) (by simp) l2
    have m3 := d3.of_mem (l := [9, 3, 19]) (by simp)
    generalize d3.of [9, 3, 19] = a3 at *
    obtain ⟨z, d4⟩ := a3
    simp only [tL, List.map_cons, List.map_nil, List.mem_cons, List.not_mem_nil, or_false] at h3 m2 m3 ⊢
    simp (disch := omega) only [go_sem, K.made_Dice_Mine_l2b, h1, h2, h3, ↓reduceIte, Nat.reduceAdd, Nat.reduceSub]
  · simp (disch := omega) only [go_sem, K.made_Dice_Mine_l2b, ↓reduceIte]
    rw [show ((n - 1 : Nat) : Int) + 1 = n by omega]
abbrev mineH (d : Dice) (ps : List Place) (l : List Road) : Heap := [d.obj, .box [.nil, .nil], .box [.ref 3 0 ps.length, .ref 4 0 l.length], .arr 2 false 0 ((ps.map Place.e).map .t), .arr 10 false 0 ((l.map Road.e).map .t), .box roadBox]
theorem mine_round (d : Dice) (hd : d.light) (n : Int) (hn : 1 ≤ n) (hn2 : n ≤ 8) (ps : List Place) (l : List Road) (hl : l.length < 10) (k : Nat) (hk : k ≤ 10) :
    roundC true [4, 6, 7, 9] 6 (exS CALL K.made_Dice_Mine_l3b ⟨[.bp 0 0, .bp 1 0, .bp 2 0, I n, .und, .bp 5 0, .und, .und, I (k + 1), .und], mineH d ps l⟩) =
    some ⟨[.bp 0 0, .bp 1 0, .bp 2 0, I n, .und, .bp 5 0, .und, .und, I k, .und], mineH (d.road2 n).2 ps (if (d.road2 n).1.frm = (d.road2 n).1.to then l else l ++ [(d.road2 n).1])⟩ := by
  unfold Dice.road2 mineH
  simp only
  have h1 := next_ok d n (by omega) hd
  have l1 := Dice.next_light hd n
  generalize d.next n = a1 at *
  obtain ⟨x1, d1⟩ := a1
  simp only at h1 l1 ⊢
  have h2 := next_ok d1 n (by omega) l1
  have l2 := Dice.next_light l1 n
  generalize d1.next n = a2 at *
  obtain ⟨x2, d2⟩ := a2
  simp only at h2 l2 ⊢
  have h3 := of_ok d2 [11, 59, 199] (by simp) (by simp) l2
  have m3 := d2.of_mem (l := [11, 59, 199]) (by simp)
  have l3 := Dice.of_light l2 [11, 59, 199]
  generalize d2.of [11, 59, 199] = a3 at *
  obtain ⟨x3, d3⟩ := a3
  simp only [tL, List.map_cons, List.map_nil] at h3 m3 l3 ⊢
  have h4 := of_ok d3 [9, 3] (by simp) (by simp) l3
  have m4 := d3.of_mem (l := [9, 3]) (by simp)
  have l4 := Dice.of_light l3 [9, 3]
  generalize d3.of [9, 3] = a4 at *
  obtain ⟨x4, d4⟩ := a4
  simp only [tL, List.map_cons, List.map_nil] at h4 m4 l4 ⊢
  have h5 := next_ok d4 5 (by omega) l4
  have l5 := Dice.next_light l4 5
  generalize d4.next 5 = a5 at *
  obtain ⟨x5, d5⟩ := a5
  simp only at h5 l5 ⊢
  have h6 := one_ok d5 6 (by omega) (by omega) l5
  generalize d5.one 6 = a6 at *
  obtain ⟨x6, d6⟩ := a6
  simp only [List.mem_cons, List.not_mem_nil, or_false] at h6 m3 m4 ⊢
  by_cases e : x1 = x2
  · simp (disch := omega) only [go_sem, K.made_Dice_Mine_l3b, h1, h2, h3, h4, h5, h6, e, ↓reduceIte, Nat.reduceAdd, Nat.reduceSub]
  · simp (disch := omega) only [go_sem, K.made_Dice_Mine_l3b, h1, h2, h3, h4, h5, h6, e, ↓reduceIte, Nat.reduceAdd, Nat.reduceSub]
theorem mine_loop3 (n : Int) (hn : 1 ≤ n) (hn2 : n ≤ 8) (ps : List Place) : ∀ (k : Nat) (d : Dice) (l : List Road), d.light → l.length ≤ 10 → k ≤ 10 →
    ∃ z : Int, loopC true [4, 6, 7, 9] (exS CALL K.made_Dice_Mine_l3b) ⟨[.bp 0 0, .bp 1 0, .bp 2 0, I n, .und, .bp 5 0, .und, .und, I k, .und], mineH d ps l⟩ =
    some (.exit 4, ⟨[.bp 0 0, .bp 1 0, .bp 2 0, I n, .und, .bp 5 0, .und, .und, I z, .und], mineH (Dice.more n l d k).2 ps (Dice.more n l d k).1⟩)
  | 0, d, l, hd, hl, hk => by
    refine ⟨0, loopC_exit ?_ (by simp)⟩
    simp (disch := omega) only [go_sem, K.made_Dice_Mine_l3b, Dice.more, ↓reduceIte, Nat.reduceAdd, Nat.reduceSub]
  | k + 1, d, l, hd, hl, hk => by
    by_cases h : l.length < 10
    · have hr := mine_round d hd n hn hn2 ps l h k (by omega)
      obtain ⟨z, hz⟩ := mine_loop3 n hn hn2 ps k (d.road2 n).2 (if (d.road2 n).1.frm = (d.road2 n).1.to then l else l ++ [(d.road2 n).1]) (Dice.road2_light hd n) (by split <;> (try rw [List.length_append, List.length_singleton]) <;> omega) (by omega)
      refine ⟨z, loopC_step hr ?_⟩
      rw [hz]
      simp only [Dice.more, if_pos h]
    · refine ⟨(k : Int) + 1, loopC_exit ?_ (by simp)⟩
      simp (disch := omega) only [go_sem, K.made_Dice_Mine_l3b, Dice.more, ↓reduceIte, Nat.reduceAdd, Nat.reduceSub]
theorem Dice.more_len (n : Int) : ∀ (k : Nat) (l : List Road) (d : Dice), l.length ≤ 10 → (Dice.more n l d k).1.length ≤ 10
  | 0, l, d, h => h
  | k + 1, l, d, h => by
    unfold Dice.more
    split
    · exact Dice.more_len n k _ _ (by split <;> (try rw [List.length_append, List.length_singleton]) <;> omega)
    · exact h
theorem Dice.mineN_bd (d : Dice) : 2 ≤ d.mineN ∧ d.mineN ≤ 7 := by
  unfold Dice.mineN
  have := d.next_lo 6
  have := d.next_hi (n := 6) (by omega)
  split <;> omega
theorem mine_ok (d : Dice) (hd : d.light) : CALL 0 N.made_Dice_Mine [.bp 0 0] [d.obj] = some (.t d.mine.1.e, [d.mine.2.obj]) := by
  refine CALL_of K.t_made_Dice_Mine rfl ?_
  have nb := d.mineN_bd
  unfold Dice.mine
  have h0 := next_ok d 6 (by omega) hd
  have l0 := Dice.next_light hd 6
  have b1 := d.next_lo 6
  have b2 := d.next_hi (n := 6) (by omega)
  have hL := d.next_L 6
  have hN : (d.mineN : Int) = if d.L.length = 0 then 4 else 2 + (d.next 6).1 := by unfold Dice.mineN; split <;> omega
  have e1 : d.mineX = Dice.more d.mineN d.mineR.1 (d.mineR.2.next 4).2 (d.mineR.2.next 4).1.toNat := rfl
  have e2 : d.mineR = d.mineP.2.roadsN (d.mineN - 1) := rfl
  have e3 : d.mineP = (d.next 6).2.placesN d.mineN := rfl
  generalize d.mineX = X at *
  generalize d.mineR = R at *
  generalize d.mineP = P at *
  generalize d.mineN = n at *
  generalize d.next 6 = a at *
  obtain ⟨x, d1⟩ := a
  simp only at h0 l0 b1 b2 hL hN e3 ⊢
  have q1 := mine_loop1 d1 l0 n (by omega)
  have lP := Dice.placesN_light l0 n
  have nP := d1.placesN_len n
  rw [← e3] at q1 lP nP
  obtain ⟨ps, d2⟩ := P
  simp only at q1 lP nP e2 ⊢
  have q2 := mine_loop2 d2 lP n (by omega) (by omega) ps
  have lR := Dice.roadsN_light lP (n - 1)
  have nR := d2.roadsN_len (n - 1)
  rw [← e2] at q2 lR nR
  obtain ⟨rs, d3⟩ := R
  simp only at q2 lR nR e1 ⊢
  have h4 := next_ok d3 4 (by omega) lR
  have l4 := Dice.next_light lR 4
  have b3 := d3.next_lo 4
  have b4 := d3.next_hi (n := 4) (by omega)
  generalize d3.next 4 = c at *
  obtain ⟨y, d4⟩ := c
  simp only at h4 l4 b3 b4 e1 ⊢
  obtain ⟨z, q3⟩ := mine_loop3 n (by omega) (by omega) ps y.toNat d4 rs l4 (by omega) (by omega)
  rw [← e1] at q3
  have q3 := loop_is (vs := [.bp 0 0, .bp 1 0, .bp 2 0, I n, .und, .bp 5 0, I n, .und, I y.toNat, .und]) q3
  have ey : (y.toNat : Int) = y := by omega
  rw [ey] at q3
  obtain ⟨xs, d5⟩ := X
  have fin : ∀ k : Int, (exS CALL K.made_Dice_Mine_l3 ⟨[.bp 0 0, .bp 1 0, .bp 2 0, I n, .und, .bp 5 0, I n, .und, I y, .und], mineH d4 ps rs⟩) =
      some (.exit 4, ⟨[.bp 0 0, .bp 1 0, .bp 2 0, I n, .und, .bp 5 0, .und, .und, I z, .und], mineH d5 ps xs⟩) := fun _ => q3
  clear q3
  have q3 := fin 0
  clear fin
  simp only [mineH] at q3
  by_cases c0 : d.L.length = 0
  · rw [if_pos c0] at hN
    obtain rfl : n = 4 := by omega
    have e4 : ((4 : Nat) : Int) = 4 := rfl
    simp only [e4] at q1 q2 q3
    simp (disch := omega) only [go_sem, K.made_Dice_Mine, ↓reduceIte, h0, c0, q1, q2, q3, h4, hL, Nat.reduceAdd, Nat.reduceSub]
  · rw [if_neg c0] at hN
    simp (disch := omega) only [go_sem, K.made_Dice_Mine, ↓reduceIte, h0, c0, q1, q2, q3, h4, hL, hN.symm, Nat.reduceAdd, Nat.reduceSub]
theorem Dice.road1_ok (d : Dice) {n : Nat} {i : Int} (h1 : 1 ≤ i) (h2 : i < n) : (d.road1 i).1.ok n := by
  have b1 := d.next_lo (min i 2)
  have b2 := d.next_hi (n := min i 2) (by omega)
  have m2 := (d.next (min i 2)).2.of_mem (l := [11, 59, 119, 4]) (by simp)
  have m3 := ((d.next (min i 2)).2.of [11, 59, 119, 4]).2.of_mem (l := [9, 3, 19]) (by simp)
  simp only [List.mem_cons, List.not_mem_nil, or_false] at m2 m3
  unfold Dice.road1
  constructor <;> (simp only; omega)
theorem Dice.roadsN_ok (d : Dice) {n : Nat} : ∀ k, k + 1 ≤ n → ∀ r ∈ (d.roadsN k).1, r.ok n
  | 0, _, r, hr => by simp [Dice.roadsN] at hr
  | k + 1, h, r, hr => by
    simp only [Dice.roadsN, List.mem_append, List.mem_singleton] at hr
    rcases hr with hr | rfl
    · exact d.roadsN_ok k (by omega) r hr
    · exact Dice.road1_ok _ (by omega) (by omega)
theorem Dice.road2_ok (d : Dice) {n : Nat} (hn : 1 ≤ n) (hne : (d.road2 n).1.frm ≠ (d.road2 n).1.to) : (d.road2 n).1.ok n := by
  unfold Dice.road2 at hne ⊢
  simp only at hne ⊢
  have b1 := d.next_lo n
  have b2 := d.next_hi (n := (n : Int)) (by omega)
  generalize d.next n = a1 at *
  obtain ⟨x1, d1⟩ := a1
  simp only at *
  have c1 := d1.next_lo n
  have c2 := d1.next_hi (n := (n : Int)) (by omega)
  generalize d1.next n = a2 at *
  obtain ⟨x2, d2⟩ := a2
  simp only at *
  have m3 := d2.of_mem (l := [11, 59, 199]) (by simp)
  generalize d2.of [11, 59, 199] = a3 at *
  obtain ⟨x3, d3⟩ := a3
  simp only at *
  have m4 := d3.of_mem (l := [9, 3]) (by simp)
  generalize d3.of [9, 3] = a4 at *
  obtain ⟨x4, d4⟩ := a4
  simp only [List.mem_cons, List.not_mem_nil, or_false] at m3 m4 ⊢
  constructor <;> (simp only; omega)
theorem Dice.more_ok {n : Nat} (hn : 1 ≤ n) : ∀ (k : Nat) (l : List Road) (d : Dice), (∀ r ∈ l, r.ok n) → ∀ r ∈ (Dice.more n l d k).1, r.ok n
  | 0, l, d, h => h
  | k + 1, l, d, h => by
    unfold Dice.more
    split
    · refine Dice.more_ok hn k _ _ ?_
      split
      · exact h
      · rename_i hne
        intro r hr
        rcases List.mem_append.1 hr with hr | hr
        · exact h r hr
        · rw [List.mem_singleton.1 hr]; exact d.road2_ok hn hne
    · exact h
theorem Dice.more_len2 (n : Int) : ∀ (k : Nat) (l : List Road) (d : Dice), l.length ≤ (Dice.more n l d k).1.length
  | 0, l, d => Nat.le_refl _
  | k + 1, l, d => by
    unfold Dice.more
    split
    · refine Nat.le_trans ?_ (Dice.more_len2 n k _ _)
      split <;> (try rw [List.length_append]) <;> omega
    · exact Nat.le_refl _
theorem Dice.placesN_h (d : Dice) : ∀ k, ∀ p ∈ (d.placesN k).1, -30 ≤ p.h ∧ p.h ≤ 0
  | 0, p, hp => by simp [Dice.placesN] at hp
  | k + 1, p, hp => by
    have b1 := (d.placesN k).2.next_lo 4
    have b2 := (d.placesN k).2.next_hi (n := 4) (by omega)
    unfold Dice.placesN at hp
    split at hp
    all_goals
      simp only [List.mem_append, List.mem_singleton] at hp
      rcases hp with hp | rfl
      · exact d.placesN_h k p hp
      · simp only; omega
theorem Dice.mine_places (d : Dice) : d.mine.1.places.length = d.mineN := Dice.placesN_len _ _
theorem Dice.mine_roads (d : Dice) : d.mineN - 1 ≤ d.mine.1.roads.length ∧ d.mine.1.roads.length ≤ 10 := by
  have nb := d.mineN_bd
  have e : d.mineR.1.length = d.mineN - 1 := Dice.roadsN_len _ _
  constructor
  · rw [← e]; exact Dice.more_len2 _ _ _ _
  · exact Dice.more_len _ _ _ _ (by omega)
theorem Dice.mine_good (d : Dice) : d.mine.1.ok := by
  have nb := d.mineN_bd
  have h1 := d.mine_places
  have h2 := d.mine_roads
  refine ⟨by omega, by omega, fun p hp => ?_, ?_⟩
  · have := Dice.placesN_h _ _ p hp; omega
  · rw [h1]
    exact Dice.more_ok (by omega) _ _ _ (Dice.roadsN_ok _ _ (by omega))
end Go.Ev

