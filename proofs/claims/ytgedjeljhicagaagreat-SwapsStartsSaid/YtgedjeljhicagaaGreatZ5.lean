/- Parts of the proof: see the text that holds the theorem. -/
import Derived.Test.YtgedjeljhicagaaGreatZ4
set_option linter.all false
set_option maxRecDepth 100000
namespace Go.Ev.K
open Go.Ev
def ref26_Same_l2b : C := (.seq (.ite [{ o := .mv (.v 8) }, { o := .fa (.v 6) 1 }, { o := .ld (.l 0) 1 false }, { o := .ln (.l 0) }, { o := .bin .lss (.l 3) (.l 0) }] [] 0 .skip (.exit 2)) (.seq (.blk 3 (.ite [{ o := .fa (.v 6) 1 }, { o := .ld (.l 0) 1 false }, { o := .mv (.v 8) }, { o := .ia (.l 1) (.l 0) 2 }, { o := .ld (.l 0) 2 true }, { o := .fa (.v 7) 1 }, { o := .ld (.l 0) 1 false }, { o := .mv (.v 8) }, { o := .ia (.l 1) (.l 0) 2 }, { o := .ld (.l 0) 2 true }, { o := .ca N.ref25_Same 0 [] [.l 5, .l 0] }, { o := .un .not (.l 0) }] [] 0 (.seq (.reg [{ o := .mv (.b false), d := some 4 }] []) .ret) .skip)) (.reg [{ o := .mv (.v 8) }, { o := .bin .add (.l 0) (.i 1) }, { o := .mv (.l 0), d := some 8 }] [])))
def ref26_Same_l2 : C := .loop true [0, 1, 4] K.ref26_Same_l2b
def ref26_Same_l1b : C := (.seq (.ite [{ o := .mv (.v 5) }, { o := .fa (.v 2) 0 }, { o := .ld (.l 0) 1 false }, { o := .ln (.l 0) }, { o := .bin .lss (.l 3) (.l 0) }] [] 0 .skip (.exit 0)) (.seq (.blk 1 (.seq (.reg [{ o := .al [.nil, .nil] [], d := some 6 }, { o := .al [.nil, .nil] [], d := some 7 }, { o := .fa (.v 2) 0 }, { o := .ld (.l 0) 1 false }, { o := .mv (.v 5) }, { o := .ia (.l 1) (.l 0) 2 }, { o := .ld (.l 0) 2 true }, { o := .fa (.v 3) 0 }, { o := .ld (.l 0) 1 false }, { o := .mv (.v 5) }, { o := .ia (.l 1) (.l 0) 2 }, { o := .ld (.l 0) 2 true }, { o := .st (.l 11) (.l 5) 2 [] }, { o := .st (.l 11) (.l 1) 2 [] }] [(8, 13), (10, 13), (11, 13)]) (.seq (.ite [{ o := .fa (.v 6) 0 }, { o := .ld (.l 0) 1 false }, { o := .fa (.v 7) 0 }, { o := .ld (.l 0) 1 false }, { o := .ca N.ref23_SameInts 0 [] [.l 2, .l 0] }, { o := .un .not (.l 0) }, { o := .mv (.l 0) }, { o := .fa (.v 6) 1, g := some (0, false) }, { o := .ld (.l 0) 1 false, g := some (1, false) }, { o := .ln (.l 0), g := some (2, false) }, { o := .fa (.v 7) 1, g := some (3, false) }, { o := .ld (.l 0) 1 false, g := some (4, false) }, { o := .ln (.l 0), g := some (5, false) }, { o := .bin .neq (.l 3) (.l 0), g := some (6, false) }, { o := .pk (.l 7) (.b true) (.l 0) }] [] 0 (.seq (.reg [{ o := .mv (.b false), d := some 4 }] []) .ret) .skip) (.seq (.reg [{ o := .mv (.i 0), d := some 8 }] []) (.blk 2 K.ref26_Same_l2))))) (.reg [{ o := .mv (.v 5) }, { o := .bin .add (.l 0) (.i 1) }, { o := .mv (.l 0), d := some 5 }] [])))
def ref26_Same_l1 : C := .loop true [0, 1, 4, 6, 7, 8] K.ref26_Same_l1b
def ref26_Same : Fn := { nargs := 2, vars := [0, 1, 2, 3, 4, 5, 6, 7, 8], body := (.seq (.reg [{ o := .bx (.v 0) 1, d := some 2 }, { o := .bx (.v 1) 1, d := some 3 }, { o := .mv (.b false), d := some 4 }] []) (.seq (.ite [{ o := .fa (.v 2) 0 }, { o := .ld (.l 0) 1 false }, { o := .ln (.l 0) }, { o := .fa (.v 3) 0 }, { o := .ld (.l 0) 1 false }, { o := .ln (.l 0) }, { o := .bin .neq (.l 3) (.l 0) }] [] 0 (.seq (.reg [{ o := .mv (.b false), d := some 4 }] []) .ret) .skip) (.seq (.seq (.reg [{ o := .mv (.i 0), d := some 5 }] []) (.blk 0 K.ref26_Same_l1)) (.seq (.reg [{ o := .mv (.b true), d := some 4 }] []) .ret)))), res := [(4, none)] }
def slices_Clone_api_World_api_World : Fn := { nargs := 1, vars := [0, 2], body := (.seq (.reg [{ o := .mv (.c (.nil)), d := some 1 }] []) (.itk  [{ o := .mv (.v 0) }, { o := .eqk (.sl) false (.l 0) (.c (.nil)) }] [] 0 (.seq (.reg [{ o := .nw 2, d := some 1 }] []) .ret) .skip (.seq (.reg [{ o := .bsr [] 2 }, { o := .mv (.v 0) }, { o := .app (.l 1) (.l 0) false 2 }, { o := .mv (.l 0), d := some 1 }] []) .ret))), res := [(1, none)] }
def swaps_meet : Fn := { nargs := 3, vars := [0, 1, 2, 3, 4, 6, 7], body := (.seq (.reg [{ o := .bx (.v 0) 2, d := some 3 }, { o := .bx (.v 1) 2, d := some 4 }, { o := .mv (.b false), d := some 5 }] []) (.seq (.reg [{ o := .ld (.v 4) 2 true }, { o := .mv (.v 2) }, { o := .ca N.places_Possible 0 [] [.l 1, .l 0] }, { o := .al [.nil] [], d := some 6 }, { o := .st (.l 0) (.l 1) 1 [] }] []) (.seq (.reg [{ o := .ld (.v 3) 2 true }, { o := .mv (.v 2) }, { o := .ca N.places_Possible 0 [] [.l 1, .l 0] }, { o := .mf N.swaps_meet_1 [.v 6] }, { o := .ca N.slices_ContainsFunc_int_int 0 [] [.l 1, .l 0] }, { o := .mv (.l 0), d := some 5 }] []) .ret))), res := [(5, none)] }
def worlds_Copy_l1b : C := (.its  [{ o := .bin .lss (.v 7) (.v 6) }] [] 0 .skip (.exit 0) (.seq (.blk 1 (.seq (.reg [{ o := .ia (.v 5) (.v 7) 2 }, { o := .ld (.l 0) 2 true }, { o := .al [.t (.int .i64 (0)), .nil] [], d := some 4 }, { o := .st (.l 0) (.l 1) 2 [] }] []) (.reg [{ o := .fa (.v 3) 1 }, { o := .ld (.l 0) 1 false }, { o := .fa (.v 4) 0 }, { o := .ld (.l 0) 1 false }, { o := .fa (.v 4) 1 }, { o := .ld (.l 0) 1 false }, { o := .ca N.slices_Clone_int_int 0 [] [.l 0] }, { o := .bd [.t (.int .i64 (0)), .nil] [(0, 1, .l 3), (1, 1, .l 0)] }, { o := .bs [.l 0] 2 }, { o := .app (.l 7) (.l 0) true 2 }, { o := .fa (.v 3) 1 }, { o := .st (.l 0) (.l 1) 1 [] }] [(1, 7), (1, 9), (3, 7)]))) (.reg [{ o := .bin .add (.v 7) (.i 1) }, { o := .mv (.l 0), d := some 7 }] [])))
def worlds_Copy_l1 : C := .loop true [0, 1, 4] K.worlds_Copy_l1b
def worlds_Copy : Fn := { nargs := 1, vars := [0, 1, 2, 3, 5, 11, 12, 13], body := (.seq (.reg [{ o := .bx (.v 0) 2, d := some 1 }, { o := .al [.nil, .nil] [], d := some 2 }] []) (.seq (.reg [{ o := .fa (.v 1) 0 }, { o := .ld (.l 0) 1 false }, { o := .ca N.slices_Clone_int_int 0 [] [.l 0] }, { o := .bd [.nil, .nil] [(0, 1, .l 0)] }, { o := .al [.nil, .nil] [(1, 2)], d := some 3 }, { o := .st (.l 0) (.l 1) 2 [(1, 2)] }] []) (.seq (.seq (.reg [{ o := .fa (.v 1) 1 }, { o := .ld (.l 0) 1 false, d := some 5 }, { o := .ln (.l 0), d := some 6 }, { o := .mv (.i 0), d := some 7 }] []) (.blk 0 K.worlds_Copy_l1)) (.seq (.reg [{ o := .ld (.v 3) 2 true }, { o := .st (.v 2) (.l 0) 2 [] }] []) .ret)))), res := [(2, some (2, true))] }
def worlds_Tidy_l2b : C := (.its  [{ o := .bin .lss (.v 11) (.v 10) }] [] 0 .skip (.exit 2) (.seq (.blk 3 (.seq (.reg [{ o := .mv (.v 11) }, { o := .mv (.l 0), d := some 6 }] []) (.reg [{ o := .mv (.v 3) }, { o := .mv (.v 5) }, { o := .bin .sub (.l 0) (.i 1) }, { o := .ia (.l 2) (.l 0) 2 }, { o := .fa (.l 0) 1 }, { o := .ld (.l 0) 1 false }, { o := .mv (.v 6) }, { o := .mv (.v 3) }, { o := .mv (.v 5) }, { o := .bin .sub (.l 0) (.i 1) }, { o := .ia (.l 2) (.l 0) 2 }, { o := .fa (.l 0) 1 }, { o := .ld (.l 0) 1 false }, { o := .mv (.v 6) }, { o := .ia (.l 1) (.l 0) 2 }, { o := .ld (.l 0) 2 true }, { o := .fa (.v 4) 1 }, { o := .ld (.l 0) 1 false }, { o := .mv (.v 6) }, { o := .ia (.l 1) (.l 0) 2 }, { o := .ld (.l 0) 2 true }, { o := .ca N.places_Join 0 [] [.l 5, .l 0] }, { o := .mv (.l 0) }, { o := .ex (.l 0) 0 }, { o := .ex (.l 1) 1 }, { o := .ia (.l 19) (.l 18) 2 }, { o := .st (.l 0) (.l 2) 2 [] }] [(3, 22), (5, 22)]))) (.reg [{ o := .bin .add (.v 11) (.i 1) }, { o := .mv (.l 0), d := some 11 }] [])))
def worlds_Tidy_l2 : C := .loop false [0, 1, 2, 6] K.worlds_Tidy_l2b
def worlds_Tidy_l1b : C := (.its  [{ o := .bin .lss (.v 9) (.v 8) }] [] 0 .skip (.exit 0) (.seq (.blk 1 (.seq (.reg [{ o := .ia (.v 7) (.v 9) 2 }, { o := .ld (.l 0) 2 true }, { o := .al [.nil, .nil] [], d := some 4 }, { o := .st (.l 0) (.l 1) 2 [] }] []) (.seq (.seq (.reg [{ o := .mv (.v 3) }, { o := .ln (.l 0) }, { o := .mv (.l 0), d := some 5 }] []) (.ite [{ o := .mv (.v 5) }, { o := .bin .gtr (.l 0) (.i 0) }, { o := .mv (.l 0) }, { o := .mv (.v 3), g := some (0, true) }, { o := .mv (.v 5), g := some (1, true) }, { o := .bin .sub (.l 0) (.i 1), g := some (2, true) }, { o := .ia (.l 2) (.l 0) 2, g := some (3, true) }, { o := .fa (.l 0) 0, g := some (4, true) }, { o := .ld (.l 0) 1 false, g := some (5, true) }, { o := .fa (.v 4) 0, g := some (6, true) }, { o := .ld (.l 0) 1 false, g := some (7, true) }, { o := .ca N.slices_Equal_int_int 0 [] [.l 2, .l 0], g := some (8, true) }, { o := .pk (.l 9) (.l 0) (.b false) }] [] 0 (.seq (.seq (.reg [{ o := .fa (.v 4) 1 }, { o := .ld (.l 0) 1 false }, { o := .ln (.l 0), d := some 10 }, { o := .mv (.i 0), d := some 11 }] []) (.blk 2 K.worlds_Tidy_l2)) (.exit 1)) .skip)) (.reg [{ o := .mv (.v 3) }, { o := .ld (.v 4) 2 true }, { o := .ca N.worlds_Copy_v1 1 [] [.l 0] }, { o := .bsr [.l 0] 2 }, { o := .app (.l 3) (.l 0) false 2 }, { o := .mv (.l 0), d := some 3 }] [])))) (.reg [{ o := .bin .add (.v 9) (.i 1) }, { o := .mv (.l 0), d := some 9 }] [])))
def worlds_Tidy_l1 : C := .loop false [0, 1, 2, 4, 5, 6, 10, 11] K.worlds_Tidy_l1b
def worlds_Tidy : Fn := { nargs := 1, vars := [0, 2, 3, 4, 6, 7, 8, 12, 13, 14, 35, 36], body := (.seq (.reg [{ o := .mv (.c (.nil)), d := some 1 }] []) (.seq (.reg [{ o := .mv (.v 0) }, { o := .ca N.slices_Values_api_World_api_World 0 [] [.l 0] }, { o := .ca N.slices_SortedStableFunc_api_World 0 [] [.l 0, .c (.fn N.worlds_Tidy_1 [])] }, { o := .mv (.l 0), d := some 2 }] []) (.seq (.reg [{ o := .nw 2, d := some 3 }] []) (.seq (.seq (.reg [{ o := .mv (.v 2), d := some 7 }, { o := .ln (.l 0), d := some 8 }, { o := .mv (.i 0), d := some 9 }] []) (.blk 0 K.worlds_Tidy_l1)) (.seq (.reg [{ o := .mv (.v 3) }, { o := .mv (.l 0), d := some 1 }] []) .ret))))), res := [(1, none)] }
def swaps_apply_l1b : C := (.its  [{ o := .bin .lss (.v 16) (.v 15) }] [] 0 .skip (.exit 0) (.seq (.blk 1 (.seq (.reg [{ o := .ia (.v 14) (.v 16) 2 }, { o := .ld (.l 0) 2 true }, { o := .al [.nil, .nil] [], d := some 9 }, { o := .st (.l 0) (.l 1) 2 [] }] []) (.seq (.reg [{ o := .fa (.v 9) 0 }, { o := .ld (.l 0) 1 false }, { o := .mv (.v 2) }, { o := .ca N.slices_Index_int_int 0 [] [.l 1, .l 0] }, { o := .mv (.l 0), d := some 10 }] []) (.seq (.reg [{ o := .ld (.v 9) 2 true }, { o := .ca N.worlds_Copy_v1 1 [] [.l 0] }, { o := .al [.nil, .nil] [], d := some 11 }, { o := .st (.l 0) (.l 1) 2 [] }] []) (.seq (.reg [{ o := .mv (.v 3) }, { o := .fa (.v 11) 1 }, { o := .ld (.l 0) 1 false }, { o := .mv (.v 10) }, { o := .ia (.l 1) (.l 0) 2 }, { o := .ld (.l 0) 2 true }, { o := .cw (.l 5) 0 [] [.l 0] }, { o := .mv (.l 0) }, { o := .ex (.l 0) 0 }, { o := .ex (.l 1) 1 }, { o := .al [.t (.int .i64 (0)), .nil] [], d := some 12 }, { o := .st (.l 0) (.l 2) 2 [] }, { o := .mv (.l 2), d := some 13 }] []) (.seq (.seq (.reg [{ o := .mv (.v 13), d := some 17 }] []) (.blk 2 (.seq (.seq (.reg [{ o := .bin .eql (.v 17) (.i 6) }, { o := .mv (.l 0), d := some 18 }] []) (.itv 18 .skip (.reg [{ o := .bin .eql (.v 17) (.i 8) }, { o := .mv (.l 0), d := some 18 }] []))) (.itv 18 (.seq (.reg [{ o := .ld (.v 5) 1 true }, { o := .mv (.v 13) }, { o := .st (.v 6) (.l 1) 1 [] }, { o := .mv (.l 1), d := some 7 }] []) .ret) (.ite [{ o := .bin .eql (.v 17) (.i 43) }, { o := .mv (.l 0) }] [] 0 (.exit 1) (.ite [{ o := .bin .eql (.v 17) (.i 0) }, { o := .mv (.l 0) }] [] 0 (.reg [{ o := .fa (.v 11) 1 }, { o := .ld (.l 0) 1 false }, { o := .mv (.v 10) }, { o := .ld (.v 12) 2 true }, { o := .ia (.l 2) (.l 1) 2 }, { o := .st (.l 0) (.l 1) 2 [] }] []) .skip)))))) (.reg [{ o := .fa (.v 8) 0 }, { o := .ld (.l 0) 1 false }, { o := .ld (.v 11) 2 true }, { o := .bs [.l 0] 2 }, { o := .app (.l 2) (.l 0) true 2 }, { o := .fa (.v 8) 0 }, { o := .st (.l 0) (.l 1) 1 [] }] []))))))) (.reg [{ o := .bin .add (.v 16) (.i 1) }, { o := .mv (.l 0), d := some 16 }] [])))
def swaps_apply_l1 : C := .loop true [0, 1, 4, 7, 9, 10, 11, 12, 13, 17, 18] K.swaps_apply_l1b
def swaps_apply : Fn := { nargs := 4, vars := [0, 1, 2, 3, 4, 5, 8, 9, 10, 12, 13, 14, 15, 16, 32, 33, 34, 54, 55], body := (.seq (.reg [{ o := .bx (.v 0) 2, d := some 4 }, { o := .bx (.v 1) 1, d := some 5 }, { o := .al [.nil] [], d := some 6 }, { o := .mv (.i 0), d := some 7 }] []) (.seq (.ite [{ o := .ld (.v 4) 2 true }, { o := .ld (.v 5) 1 true }, { o := .ca N.swaps_Valid 0 [] [.l 1, .l 0] }, { o := .un .not (.l 0) }] [] 0 (.seq (.reg [{ o := .ld (.v 5) 1 true }, { o := .st (.v 6) (.l 0) 1 [] }, { o := .mv (.i 6), d := some 7 }] []) .ret) .skip) (.seq (.ite [{ o := .fa (.v 5) 0 }, { o := .ld (.l 0) 1 false }, { o := .ia (.l 0) (.i 0) 2 }, { o := .fa (.l 0) 0 }, { o := .ld (.l 0) 1 false }, { o := .mv (.v 2) }, { o := .ca N.slices_Contains_int_int 0 [] [.l 1, .l 0] }, { o := .un .not (.l 0) }] [] 0 (.seq (.reg [{ o := .ld (.v 5) 1 true }, { o := .st (.v 6) (.l 0) 1 [] }, { o := .mv (.i 41), d := some 7 }] []) .ret) .skip) (.seq (.reg [{ o := .al [.nil] [(0, 2)], d := some 8 }] []) (.seq (.seq (.reg [{ o := .fa (.v 5) 0 }, { o := .ld (.l 0) 1 false, d := some 14 }, { o := .ln (.l 0), d := some 15 }, { o := .mv (.i 0), d := some 16 }] []) (.blk 0 K.swaps_apply_l1)) (.seq (.ite [{ o := .fa (.v 8) 0 }, { o := .ld (.l 0) 1 false }, { o := .ln (.l 0) }, { o := .bin .eql (.l 0) (.i 0) }] [] 0 (.seq (.reg [{ o := .ld (.v 5) 1 true }, { o := .st (.v 6) (.l 0) 1 [] }, { o := .mv (.i 43), d := some 7 }] []) .ret) .skip) (.seq (.reg [{ o := .ld (.v 8) 1 true }, { o := .st (.v 6) (.l 0) 1 [] }, { o := .mv (.i 0), d := some 7 }] []) .ret))))))), res := [(6, some (1, true)), (7, none)] }
def swaps_See_1 : Fn := { nargs := 5, vars := [0, 1, 2, 3, 4, 5, 6, 7], body := (.seq (.reg [{ o := .bx (.v 0) 2, d := some 5 }, { o := .al [.t (.int .i64 (0)), .nil] [], d := some 6 }, { o := .mv (.i 0), d := some 7 }] []) (.seq (.reg [{ o := .ld (.v 1) 2 true }, { o := .ld (.v 5) 2 true }, { o := .ld (.v 2) 1 false }, { o := .ld (.v 3) 1 false }, { o := .ld (.v 4) 1 false }, { o := .ca N.places_See 0 [] [.l 4, .l 3, .l 2, .l 1, .l 0] }, { o := .ex (.l 0) 0 }, { o := .ex (.l 1) 1 }, { o := .st (.v 6) (.l 1) 2 [] }, { o := .mv (.l 1), d := some 7 }] []) .ret)), res := [(6, some (2, true)), (7, none)] }
def swaps_meet_1 : Fn := { nargs := 2, vars := [0, 1, 3], body := (.seq (.reg [{ o := .mv (.b false), d := some 2 }] []) (.seq (.reg [{ o := .ld (.v 1) 1 false }, { o := .mv (.v 0) }, { o := .ca N.slices_Contains_int_int 0 [] [.l 1, .l 0] }, { o := .mv (.l 0), d := some 2 }] []) .ret)), res := [(2, none)] }
def slices_SortedStableFunc_api_World : Fn := { nargs := 2, vars := [0, 1, 4, 5], body := (.seq (.reg [{ o := .mv (.c (.nil)), d := some 2 }] []) (.seq (.reg [{ o := .mv (.v 0) }, { o := .ca N.slices_Collect_api_World 1 [] [.l 0] }, { o := .mv (.l 0), d := some 3 }] []) (.seq (.reg [{ o := .mv (.v 3) }, { o := .mv (.v 1) }, { o := .ca N.slices_SortStableFunc_api_World_api_World 0 [0] [.l 1, .l 0] }] []) (.seq (.reg [{ o := .mv (.v 3) }, { o := .mv (.l 0), d := some 2 }] []) .ret)))), res := [(2, none)] }
def slices_Values_api_World_api_World : Fn := { nargs := 1, vars := [0, 1, 2], body := (.seq (.reg [{ o := .bx (.v 0) 1, d := some 1 }, { o := .mv (.c (.und)), d := some 2 }] []) (.seq (.reg [{ o := .mf N.slices_Values_api_World_api_World_1 [.v 1] }, { o := .mv (.l 0), d := some 2 }] []) .ret)), res := [(2, none)] }
def worlds_Tidy_1 : Fn := { nargs := 2, vars := [0, 1, 2, 3, 4], body := (.seq (.reg [{ o := .bx (.v 0) 2, d := some 2 }, { o := .bx (.v 1) 2, d := some 3 }, { o := .mv (.i 0), d := some 4 }] []) (.seq (.reg [{ o := .fa (.v 2) 0 }, { o := .ld (.l 0) 1 false }, { o := .fa (.v 3) 0 }, { o := .ld (.l 0) 1 false }, { o := .ca N.slices_Compare_int_int 0 [] [.l 2, .l 0] }, { o := .mv (.l 0), d := some 4 }] []) .ret)), res := [(4, none)] }
def slices_Collect_api_World : Fn := { nargs := 1, vars := [2], body := .fail, res := [(0, none)], prim := [3, N.slices_Values_api_World_api_World_1] }
def slices_SortStableFunc_api_World_api_World : Fn := { nargs := 2, vars := [0, 1], body := (.reg [{ o := .mv (.v 0) }, { o := .mv (.v 0) }, { o := .ln (.l 0) }, { o := .mv (.v 1) }, { o := .ca N.slices_stableCmpFunc_api_World 0 [0] [.l 3, .l 1, .l 0] }] []), res := [] }
def slices_Values_api_World_api_World_1_l1b : C := (.its  [{ o := .bin .lss (.v 5) (.v 4) }] [] 0 .skip (.exit 0) (.seq (.blk 1 (.seq (.reg [{ o := .ia (.v 3) (.v 5) 2 }, { o := .ld (.l 0) 2 true }, { o := .al [.nil, .nil] [], d := some 2 }, { o := .st (.l 0) (.l 1) 2 [] }] []) (.ite [{ o := .mv (.v 0) }, { o := .ld (.v 2) 2 true }, { o := .cw (.l 1) 0 [] [.l 0] }, { o := .un .not (.l 0) }] [] 0 .ret .skip))) (.reg [{ o := .bin .add (.v 5) (.i 1) }, { o := .mv (.l 0), d := some 5 }] [])))
def slices_Values_api_World_api_World_1_l1 : C := .loop true [1, 2] K.slices_Values_api_World_api_World_1_l1b
def slices_Values_api_World_api_World_1 : Fn := { nargs := 2, vars := [0, 1, 4, 5, 6, 7], body := (.seq (.reg [{ o := .ld (.v 1) 1 false, d := some 3 }, { o := .ln (.l 0), d := some 4 }, { o := .mv (.i 0), d := some 5 }] []) (.blk 0 K.slices_Values_api_World_api_World_1_l1)), res := [] }
def slices_stableCmpFunc_api_World_l1b : C := (.seq (.ite [{ o := .mv (.v 5) }, { o := .mv (.v 1) }, { o := .bin .leq (.l 1) (.l 0) }] [] 0 .skip (.exit 0)) (.blk 1 (.seq (.reg [{ o := .mv (.v 0) }, { o := .mv (.v 4) }, { o := .mv (.v 5) }, { o := .mv (.v 2) }, { o := .ca N.slices_insertionSortCmpFunc_api_World 0 [0] [.l 3, .l 2, .l 1, .l 0] }] []) (.seq (.reg [{ o := .mv (.v 5) }, { o := .mv (.l 0), d := some 4 }] []) (.reg [{ o := .mv (.v 5) }, { o := .mv (.v 3) }, { o := .bin .add (.l 1) (.l 0) }, { o := .mv (.l 0), d := some 5 }] [])))))
def slices_stableCmpFunc_api_World_l1 : C := .loop true [6] K.slices_stableCmpFunc_api_World_l1b
def slices_stableCmpFunc_api_World_l3b : C := (.seq (.ite [{ o := .mv (.v 5) }, { o := .mv (.v 1) }, { o := .bin .leq (.l 1) (.l 0) }] [] 0 .skip (.exit 4)) (.blk 5 (.seq (.reg [{ o := .mv (.v 0) }, { o := .mv (.v 4) }, { o := .mv (.v 4) }, { o := .mv (.v 3) }, { o := .bin .add (.l 1) (.l 0) }, { o := .mv (.v 5) }, { o := .mv (.v 2) }, { o := .ca N.slices_symMergeCmpFunc_api_World 0 [0] [.l 6, .l 5, .l 2, .l 1, .l 0] }] []) (.seq (.reg [{ o := .mv (.v 5) }, { o := .mv (.l 0), d := some 4 }] []) (.reg [{ o := .mv (.v 5) }, { o := .mv (.v 3) }, { o := .bin .mul (.i 2) (.l 0) }, { o := .bin .add (.l 2) (.l 0) }, { o := .mv (.l 0), d := some 5 }] [])))))
def slices_stableCmpFunc_api_World_l3 : C := .loop true [6] K.slices_stableCmpFunc_api_World_l3b
def slices_stableCmpFunc_api_World_l2b : C := (.seq (.ite [{ o := .mv (.v 3) }, { o := .mv (.v 1) }, { o := .bin .lss (.l 1) (.l 0) }] [] 0 .skip (.exit 2)) (.blk 3 (.seq (.reg [{ o := .mv (.v 3) }, { o := .bin .mul (.i 2) (.l 0) }, { o := .mv (.i 0), d := some 4 }, { o := .mv (.l 1), d := some 5 }] []) (.seq (.blk 4 K.slices_stableCmpFunc_api_World_l3) (.seq (.seq (.reg [{ o := .mv (.v 4) }, { o := .mv (.v 3) }, { o := .bin .add (.l 1) (.l 0) }, { o := .mv (.l 0), d := some 6 }] []) (.ite [{ o := .mv (.v 6) }, { o := .mv (.v 1) }, { o := .bin .lss (.l 1) (.l 0) }] [] 0 (.reg [{ o := .mv (.v 0) }, { o := .mv (.v 4) }, { o := .mv (.v 6) }, { o := .mv (.v 1) }, { o := .mv (.v 2) }, { o := .ca N.slices_symMergeCmpFunc_api_World 0 [0] [.l 4, .l 3, .l 2, .l 1, .l 0] }] []) .skip)) (.reg [{ o := .mv (.v 3) }, { o := .bin .mul (.l 0) (.i 2) }, { o := .mv (.l 0), d := some 3 }] []))))))
def slices_stableCmpFunc_api_World_l2 : C := .loop true [4, 5, 6] K.slices_stableCmpFunc_api_World_l2b
def slices_stableCmpFunc_api_World : Fn := { nargs := 3, vars := [0, 1, 2, 6, 7, 8, 9], body := (.seq (.reg [{ o := .mv (.i 20), d := some 3 }] []) (.seq (.reg [{ o := .mv (.v 3) }, { o := .mv (.i 0), d := some 4 }, { o := .mv (.l 1), d := some 5 }] []) (.seq (.blk 0 K.slices_stableCmpFunc_api_World_l1) (.seq (.reg [{ o := .mv (.v 0) }, { o := .mv (.v 4) }, { o := .mv (.v 1) }, { o := .mv (.v 2) }, { o := .ca N.slices_insertionSortCmpFunc_api_World 0 [0] [.l 3, .l 2, .l 1, .l 0] }] []) (.blk 2 K.slices_stableCmpFunc_api_World_l2))))), res := [] }
def slices_insertionSortCmpFunc_api_World_l2b : C := (.seq (.ite [{ o := .mv (.v 5) }, { o := .mv (.v 1) }, { o := .bin .gtr (.l 1) (.l 0) }, { o := .mv (.l 0) }, { o := .mv (.v 3), g := some (0, true) }, { o := .mv (.v 0), g := some (1, true) }, { o := .mv (.v 5), g := some (2, true) }, { o := .ia (.l 1) (.l 0) 2, g := some (3, true) }, { o := .ld (.l 0) 2 true, g := some (4, true) }, { o := .mv (.v 0), g := some (5, true) }, { o := .mv (.v 5), g := some (6, true) }, { o := .bin .sub (.l 0) (.i 1), g := some (7, true) }, { o := .ia (.l 2) (.l 0) 2, g := some (8, true) }, { o := .ld (.l 0) 2 true, g := some (9, true) }, { o := .cw (.l 9) 0 [] [.l 5, .l 0], g := some (10, true) }, { o := .bin .lss (.l 0) (.i 0), g := some (11, true) }, { o := .pk (.l 12) (.l 0) (.b false) }] [] 0 .skip (.exit 2)) (.seq (.blk 3 (.reg [{ o := .mv (.v 0) }, { o := .mv (.v 5) }, { o := .mv (.v 0) }, { o := .mv (.v 5) }, { o := .bin .sub (.l 0) (.i 1) }, { o := .mv (.v 0) }, { o := .mv (.v 5) }, { o := .bin .sub (.l 0) (.i 1) }, { o := .ia (.l 2) (.l 0) 2 }, { o := .ld (.l 0) 2 true }, { o := .mv (.v 0) }, { o := .mv (.v 5) }, { o := .ia (.l 1) (.l 0) 2 }, { o := .ld (.l 0) 2 true }, { o := .ia (.l 13) (.l 12) 2 }, { o := .st (.l 0) (.l 5) 2 [] }, { o := .ia (.l 13) (.l 11) 2 }, { o := .st (.l 0) (.l 3) 2 [] }] [])) (.reg [{ o := .mv (.v 5) }, { o := .bin .sub (.l 0) (.i 1) }, { o := .mv (.l 0), d := some 5 }] [])))
def slices_insertionSortCmpFunc_api_World_l2 : C := .loop true [] K.slices_insertionSortCmpFunc_api_World_l2b
def slices_insertionSortCmpFunc_api_World_l1b : C := (.seq (.ite [{ o := .mv (.v 4) }, { o := .mv (.v 2) }, { o := .bin .lss (.l 1) (.l 0) }] [] 0 .skip (.exit 0)) (.seq (.blk 1 (.seq (.reg [{ o := .mv (.v 4) }, { o := .mv (.l 0), d := some 5 }] []) (.blk 2 K.slices_insertionSortCmpFunc_api_World_l2))) (.reg [{ o := .mv (.v 4) }, { o := .bin .add (.l 0) (.i 1) }, { o := .mv (.l 0), d := some 4 }] [])))
def slices_insertionSortCmpFunc_api_World_l1 : C := .loop true [5] K.slices_insertionSortCmpFunc_api_World_l1b
def slices_insertionSortCmpFunc_api_World : Fn := { nargs := 4, vars := [0, 1, 2, 3, 8, 9], body := (.seq (.reg [{ o := .mv (.v 1) }, { o := .bin .add (.l 0) (.i 1) }, { o := .mv (.l 0), d := some 4 }] []) (.blk 0 K.slices_insertionSortCmpFunc_api_World_l1)), res := [] }
def slices_symMergeCmpFunc_api_World_l1b : C := (.seq (.ite [{ o := .mv (.v 5) }, { o := .mv (.v 6) }, { o := .bin .lss (.l 1) (.l 0) }] [] 0 .skip (.exit 0)) (.blk 1 (.seq (.reg [{ o := .mv (.v 5) }, { o := .mv (.v 6) }, { o := .bin .add (.l 1) (.l 0) }, { o := .cv .u64 (.l 0) }, { o := .bin .shr (.l 0) (.c (.t (.int .u64 (1)))) }, { o := .cv .i64 (.l 0) }, { o := .mv (.l 0), d := some 7 }] []) (.ite [{ o := .mv (.v 4) }, { o := .mv (.v 0) }, { o := .mv (.v 7) }, { o := .ia (.l 1) (.l 0) 2 }, { o := .ld (.l 0) 2 true }, { o := .mv (.v 0) }, { o := .mv (.v 1) }, { o := .ia (.l 1) (.l 0) 2 }, { o := .ld (.l 0) 2 true }, { o := .cw (.l 8) 0 [] [.l 4, .l 0] }, { o := .bin .lss (.l 0) (.i 0) }] [] 0 (.reg [{ o := .mv (.v 7) }, { o := .bin .add (.l 0) (.i 1) }, { o := .mv (.l 0), d := some 5 }] []) (.reg [{ o := .mv (.v 7) }, { o := .mv (.l 0), d := some 6 }] [])))))
def slices_symMergeCmpFunc_api_World_l1 : C := .loop true [2, 3, 7, 8, 9, 10, 11, 12, 13, 14, 15, 16, 17, 18, 19] K.slices_symMergeCmpFunc_api_World_l1b
def slices_symMergeCmpFunc_api_World_l2b : C := (.seq (.ite [{ o := .mv (.v 8) }, { o := .mv (.v 5) }, { o := .bin .sub (.l 0) (.i 1) }, { o := .bin .lss (.l 2) (.l 0) }] [] 0 .skip (.exit 2)) (.seq (.blk 3 (.reg [{ o := .mv (.v 0) }, { o := .mv (.v 8) }, { o := .mv (.v 0) }, { o := .mv (.v 8) }, { o := .bin .add (.l 0) (.i 1) }, { o := .mv (.v 0) }, { o := .mv (.v 8) }, { o := .bin .add (.l 0) (.i 1) }, { o := .ia (.l 2) (.l 0) 2 }, { o := .ld (.l 0) 2 true }, { o := .mv (.v 0) }, { o := .mv (.v 8) }, { o := .ia (.l 1) (.l 0) 2 }, { o := .ld (.l 0) 2 true }, { o := .ia (.l 13) (.l 12) 2 }, { o := .st (.l 0) (.l 5) 2 [] }, { o := .ia (.l 13) (.l 11) 2 }, { o := .st (.l 0) (.l 3) 2 [] }] [])) (.reg [{ o := .mv (.v 8) }, { o := .bin .add (.l 0) (.i 1) }, { o := .mv (.l 0), d := some 8 }] [])))
def slices_symMergeCmpFunc_api_World_l2 : C := .loop true [1, 2, 3, 4, 6, 7, 9, 10, 11, 12, 13, 14, 15, 16, 17, 18, 19] K.slices_symMergeCmpFunc_api_World_l2b
def slices_symMergeCmpFunc_api_World_l3b : C := (.seq (.ite [{ o := .mv (.v 9) }, { o := .mv (.v 10) }, { o := .bin .lss (.l 1) (.l 0) }] [] 0 .skip (.exit 4)) (.blk 5 (.seq (.reg [{ o := .mv (.v 9) }, { o := .mv (.v 10) }, { o := .bin .add (.l 1) (.l 0) }, { o := .cv .u64 (.l 0) }, { o := .bin .shr (.l 0) (.c (.t (.int .u64 (1)))) }, { o := .cv .i64 (.l 0) }, { o := .mv (.l 0), d := some 11 }] []) (.ite [{ o := .mv (.v 4) }, { o := .mv (.v 0) }, { o := .mv (.v 2) }, { o := .ia (.l 1) (.l 0) 2 }, { o := .ld (.l 0) 2 true }, { o := .mv (.v 0) }, { o := .mv (.v 11) }, { o := .ia (.l 1) (.l 0) 2 }, { o := .ld (.l 0) 2 true }, { o := .cw (.l 8) 0 [] [.l 4, .l 0] }, { o := .bin .lss (.l 0) (.i 0) }, { o := .un .not (.l 0) }] [] 0 (.reg [{ o := .mv (.v 11) }, { o := .bin .add (.l 0) (.i 1) }, { o := .mv (.l 0), d := some 9 }] []) (.reg [{ o := .mv (.v 11) }, { o := .mv (.l 0), d := some 10 }] [])))))
def slices_symMergeCmpFunc_api_World_l3 : C := .loop true [1, 3, 5, 6, 7, 8, 11, 12, 13, 14, 15, 16, 17, 18, 19] K.slices_symMergeCmpFunc_api_World_l3b
def slices_symMergeCmpFunc_api_World_l4b : C := (.seq (.ite [{ o := .mv (.v 12) }, { o := .mv (.v 9) }, { o := .bin .gtr (.l 1) (.l 0) }] [] 0 .skip (.exit 6)) (.seq (.blk 7 (.reg [{ o := .mv (.v 0) }, { o := .mv (.v 12) }, { o := .mv (.v 0) }, { o := .mv (.v 12) }, { o := .bin .sub (.l 0) (.i 1) }, { o := .mv (.v 0) }, { o := .mv (.v 12) }, { o := .bin .sub (.l 0) (.i 1) }, { o := .ia (.l 2) (.l 0) 2 }, { o := .ld (.l 0) 2 true }, { o := .mv (.v 0) }, { o := .mv (.v 12) }, { o := .ia (.l 1) (.l 0) 2 }, { o := .ld (.l 0) 2 true }, { o := .ia (.l 13) (.l 12) 2 }, { o := .st (.l 0) (.l 5) 2 [] }, { o := .ia (.l 13) (.l 11) 2 }, { o := .st (.l 0) (.l 3) 2 [] }] [])) (.reg [{ o := .mv (.v 12) }, { o := .bin .sub (.l 0) (.i 1) }, { o := .mv (.l 0), d := some 12 }] [])))
def slices_symMergeCmpFunc_api_World_l4 : C := .loop true [1, 2, 3, 4, 5, 6, 7, 8, 10, 11, 13, 14, 15, 16, 17, 18, 19] K.slices_symMergeCmpFunc_api_World_l4b
def slices_symMergeCmpFunc_api_World_l5b : C := (.seq (.ite [{ o := .mv (.v 15) }, { o := .mv (.v 16) }, { o := .bin .lss (.l 1) (.l 0) }] [] 0 .skip (.exit 8)) (.blk 9 (.seq (.reg [{ o := .mv (.v 15) }, { o := .mv (.v 16) }, { o := .bin .add (.l 1) (.l 0) }, { o := .cv .u64 (.l 0) }, { o := .bin .shr (.l 0) (.c (.t (.int .u64 (1)))) }, { o := .cv .i64 (.l 0) }, { o := .mv (.l 0), d := some 18 }] []) (.ite [{ o := .mv (.v 4) }, { o := .mv (.v 0) }, { o := .mv (.v 17) }, { o := .mv (.v 18) }, { o := .bin .sub (.l 1) (.l 0) }, { o := .ia (.l 3) (.l 0) 2 }, { o := .ld (.l 0) 2 true }, { o := .mv (.v 0) }, { o := .mv (.v 18) }, { o := .ia (.l 1) (.l 0) 2 }, { o := .ld (.l 0) 2 true }, { o := .cw (.l 10) 0 [] [.l 4, .l 0] }, { o := .bin .lss (.l 0) (.i 0) }, { o := .un .not (.l 0) }] [] 0 (.reg [{ o := .mv (.v 18) }, { o := .bin .add (.l 0) (.i 1) }, { o := .mv (.l 0), d := some 15 }] []) (.reg [{ o := .mv (.v 18) }, { o := .mv (.l 0), d := some 16 }] [])))))
def slices_symMergeCmpFunc_api_World_l5 : C := .loop true [5, 6, 7, 8, 9, 10, 11, 12, 18, 19] K.slices_symMergeCmpFunc_api_World_l5b
def slices_symMergeCmpFunc_api_World : Fn := { nargs := 5, vars := [0, 1, 2, 3, 4, 10, 11, 12, 13, 14, 15, 16, 17, 18, 19, 20, 21, 22, 23, 24], body := (.seq (.ite [{ o := .mv (.v 2) }, { o := .mv (.v 1) }, { o := .bin .sub (.l 1) (.l 0) }, { o := .bin .eql (.l 0) (.i 1) }] [] 0 (.seq (.reg [{ o := .mv (.v 2) }, { o := .mv (.l 0), d := some 5 }] []) (.seq (.reg [{ o := .mv (.v 3) }, { o := .mv (.l 0), d := some 6 }] []) (.seq (.blk 0 K.slices_symMergeCmpFunc_api_World_l1) (.seq (.seq (.reg [{ o := .mv (.v 1) }, { o := .mv (.l 0), d := some 8 }] []) (.blk 2 K.slices_symMergeCmpFunc_api_World_l2)) .ret)))) .skip) (.seq (.ite [{ o := .mv (.v 3) }, { o := .mv (.v 2) }, { o := .bin .sub (.l 1) (.l 0) }, { o := .bin .eql (.l 0) (.i 1) }] [] 0 (.seq (.reg [{ o := .mv (.v 1) }, { o := .mv (.l 0), d := some 9 }] []) (.seq (.reg [{ o := .mv (.v 2) }, { o := .mv (.l 0), d := some 10 }] []) (.seq (.blk 4 K.slices_symMergeCmpFunc_api_World_l3) (.seq (.seq (.reg [{ o := .mv (.v 2) }, { o := .mv (.l 0), d := some 12 }] []) (.blk 6 K.slices_symMergeCmpFunc_api_World_l4)) .ret)))) .skip) (.seq (.reg [{ o := .mv (.v 1) }, { o := .mv (.v 3) }, { o := .bin .add (.l 1) (.l 0) }, { o := .cv .u64 (.l 0) }, { o := .bin .shr (.l 0) (.c (.t (.int .u64 (1)))) }, { o := .cv .i64 (.l 0) }, { o := .mv (.l 0), d := some 13 }] []) (.seq (.reg [{ o := .mv (.v 13) }, { o := .mv (.v 2) }, { o := .bin .add (.l 1) (.l 0) }, { o := .mv (.l 0), d := some 14 }] []) (.seq (.reg [{ o := .mv (.i 0), d := some 15 }, { o := .mv (.i 0), d := some 16 }] []) (.seq (.ite [{ o := .mv (.v 2) }, { o := .mv (.v 13) }, { o := .bin .gtr (.l 1) (.l 0) }] [] 0 (.seq (.reg [{ o := .mv (.v 14) }, { o := .mv (.v 3) }, { o := .bin .sub (.l 1) (.l 0) }, { o := .mv (.l 0), d := some 15 }] []) (.reg [{ o := .mv (.v 13) }, { o := .mv (.l 0), d := some 16 }] [])) (.seq (.reg [{ o := .mv (.v 1) }, { o := .mv (.l 0), d := some 15 }] []) (.reg [{ o := .mv (.v 2) }, { o := .mv (.l 0), d := some 16 }] []))) (.seq (.reg [{ o := .mv (.v 14) }, { o := .bin .sub (.l 0) (.i 1) }, { o := .mv (.l 0), d := some 17 }] []) (.seq (.blk 8 K.slices_symMergeCmpFunc_api_World_l5) (.seq (.reg [{ o := .mv (.v 14) }, { o := .mv (.v 15) }, { o := .bin .sub (.l 1) (.l 0) }, { o := .mv (.l 0), d := some 19 }] []) (.seq (.ite [{ o := .mv (.v 15) }, { o := .mv (.v 2) }, { o := .bin .lss (.l 1) (.l 0) }, { o := .mv (.l 0) }, { o := .mv (.v 2), g := some (0, true) }, { o := .mv (.v 19), g := some (1, true) }, { o := .bin .lss (.l 1) (.l 0), g := some (2, true) }, { o := .pk (.l 3) (.l 0) (.b false) }] [] 0 (.reg [{ o := .mv (.v 0) }, { o := .mv (.v 15) }, { o := .mv (.v 2) }, { o := .mv (.v 19) }, { o := .mv (.v 4) }, { o := .ca N.slices_rotateCmpFunc_api_World 0 [0] [.l 4, .l 3, .l 2, .l 1, .l 0] }] []) .skip) (.seq (.ite [{ o := .mv (.v 1) }, { o := .mv (.v 15) }, { o := .bin .lss (.l 1) (.l 0) }, { o := .mv (.l 0) }, { o := .mv (.v 15), g := some (0, true) }, { o := .mv (.v 13), g := some (1, true) }, { o := .bin .lss (.l 1) (.l 0), g := some (2, true) }, { o := .pk (.l 3) (.l 0) (.b false) }] [] 0 (.reg [{ o := .mv (.v 0) }, { o := .mv (.v 1) }, { o := .mv (.v 15) }, { o := .mv (.v 13) }, { o := .mv (.v 4) }, { o := .ca N.slices_symMergeCmpFunc_api_World 0 [0] [.l 4, .l 3, .l 2, .l 1, .l 0] }] []) .skip) (.ite [{ o := .mv (.v 13) }, { o := .mv (.v 19) }, { o := .bin .lss (.l 1) (.l 0) }, { o := .mv (.l 0) }, { o := .mv (.v 19), g := some (0, true) }, { o := .mv (.v 3), g := some (1, true) }, { o := .bin .lss (.l 1) (.l 0), g := some (2, true) }, { o := .pk (.l 3) (.l 0) (.b false) }] [] 0 (.reg [{ o := .mv (.v 0) }, { o := .mv (.v 13) }, { o := .mv (.v 19) }, { o := .mv (.v 3) }, { o := .mv (.v 4) }, { o := .ca N.slices_symMergeCmpFunc_api_World 0 [0] [.l 4, .l 3, .l 2, .l 1, .l 0] }] []) .skip)))))))))))), res := [] }
def slices_rotateCmpFunc_api_World_l1b : C := (.seq (.ite [{ o := .mv (.v 5) }, { o := .mv (.v 6) }, { o := .bin .neq (.l 1) (.l 0) }] [] 0 .skip (.exit 0)) (.blk 1 (.ite [{ o := .mv (.v 5) }, { o := .mv (.v 6) }, { o := .bin .gtr (.l 1) (.l 0) }] [] 0 (.seq (.reg [{ o := .mv (.v 0) }, { o := .mv (.v 2) }, { o := .mv (.v 5) }, { o := .bin .sub (.l 1) (.l 0) }, { o := .mv (.v 2) }, { o := .mv (.v 6) }, { o := .mv (.v 4) }, { o := .ca N.slices_swapRangeCmpFunc_api_World 0 [0] [.l 6, .l 3, .l 2, .l 1, .l 0] }] []) (.reg [{ o := .mv (.v 5) }, { o := .mv (.v 6) }, { o := .bin .sub (.l 1) (.l 0) }, { o := .mv (.l 0), d := some 5 }] [])) (.seq (.reg [{ o := .mv (.v 0) }, { o := .mv (.v 2) }, { o := .mv (.v 5) }, { o := .bin .sub (.l 1) (.l 0) }, { o := .mv (.v 2) }, { o := .mv (.v 6) }, { o := .bin .add (.l 1) (.l 0) }, { o := .mv (.v 5) }, { o := .bin .sub (.l 1) (.l 0) }, { o := .mv (.v 5) }, { o := .mv (.v 4) }, { o := .ca N.slices_swapRangeCmpFunc_api_World 0 [0] [.l 10, .l 7, .l 2, .l 1, .l 0] }] []) (.reg [{ o := .mv (.v 6) }, { o := .mv (.v 5) }, { o := .bin .sub (.l 1) (.l 0) }, { o := .mv (.l 0), d := some 6 }] [])))))
def slices_rotateCmpFunc_api_World_l1 : C := .loop true [1, 3] K.slices_rotateCmpFunc_api_World_l1b
def slices_rotateCmpFunc_api_World : Fn := { nargs := 5, vars := [0, 1, 2, 3, 4, 10, 11], body := (.seq (.reg [{ o := .mv (.v 2) }, { o := .mv (.v 1) }, { o := .bin .sub (.l 1) (.l 0) }, { o := .mv (.l 0), d := some 5 }] []) (.seq (.reg [{ o := .mv (.v 3) }, { o := .mv (.v 2) }, { o := .bin .sub (.l 1) (.l 0) }, { o := .mv (.l 0), d := some 6 }] []) (.seq (.blk 0 K.slices_rotateCmpFunc_api_World_l1) (.reg [{ o := .mv (.v 0) }, { o := .mv (.v 2) }, { o := .mv (.v 5) }, { o := .bin .sub (.l 1) (.l 0) }, { o := .mv (.v 2) }, { o := .mv (.v 5) }, { o := .mv (.v 4) }, { o := .ca N.slices_swapRangeCmpFunc_api_World 0 [0] [.l 6, .l 3, .l 2, .l 1, .l 0] }] [])))), res := [] }
def slices_swapRangeCmpFunc_api_World_l1b : C := (.seq (.ite [{ o := .mv (.v 4) }, { o := .mv (.v 3) }, { o := .bin .lss (.l 1) (.l 0) }] [] 0 .skip (.exit 0)) (.seq (.blk 1 (.reg [{ o := .mv (.v 0) }, { o := .mv (.v 1) }, { o := .mv (.v 4) }, { o := .bin .add (.l 1) (.l 0) }, { o := .mv (.v 0) }, { o := .mv (.v 2) }, { o := .mv (.v 4) }, { o := .bin .add (.l 1) (.l 0) }, { o := .mv (.v 0) }, { o := .mv (.v 2) }, { o := .mv (.v 4) }, { o := .bin .add (.l 1) (.l 0) }, { o := .ia (.l 3) (.l 0) 2 }, { o := .ld (.l 0) 2 true }, { o := .mv (.v 0) }, { o := .mv (.v 1) }, { o := .mv (.v 4) }, { o := .bin .add (.l 1) (.l 0) }, { o := .ia (.l 3) (.l 0) 2 }, { o := .ld (.l 0) 2 true }, { o := .ia (.l 19) (.l 16) 2 }, { o := .st (.l 0) (.l 7) 2 [] }, { o := .ia (.l 17) (.l 14) 2 }, { o := .st (.l 0) (.l 3) 2 [] }] [])) (.reg [{ o := .mv (.v 4) }, { o := .bin .add (.l 0) (.i 1) }, { o := .mv (.l 0), d := some 4 }] [])))
def slices_swapRangeCmpFunc_api_World_l1 : C := .loop true [] K.slices_swapRangeCmpFunc_api_World_l1b
def slices_swapRangeCmpFunc_api_World : Fn := { nargs := 5, vars := [0, 1, 2, 3, 10], body := (.seq (.reg [{ o := .mv (.i 0), d := some 4 }] []) (.blk 0 K.slices_swapRangeCmpFunc_api_World_l1)), res := [] }
def worlds_Copy_v1_l1b : C := (.its  [{ o := .bin .lss (.v 7) (.v 6) }] [] 0 .skip (.exit 0) (.seq (.blk 1 (.seq (.reg [{ o := .ia (.v 5) (.v 7) 2 }, { o := .ld (.l 0) 2 true }, { o := .al [.t (.int .i64 (0)), .nil] [], d := some 4 }, { o := .st (.l 0) (.l 1) 2 [] }] []) (.reg [{ o := .fa (.v 3) 1 }, { o := .ld (.l 0) 1 false }, { o := .fa (.v 4) 0 }, { o := .ld (.l 0) 1 false }, { o := .fa (.v 4) 1 }, { o := .ld (.l 0) 1 false }, { o := .ca N.slices_Clone_int_int 1 [] [.l 0] }, { o := .bd [.t (.int .i64 (0)), .nil] [(0, 1, .l 3), (1, 1, .l 0)] }, { o := .bs [.l 0] 2 }, { o := .app (.l 7) (.l 0) true 2 }, { o := .fa (.v 3) 1 }, { o := .st (.l 0) (.l 1) 1 [] }] [(1, 7), (1, 9), (3, 7)]))) (.reg [{ o := .bin .add (.v 7) (.i 1) }, { o := .mv (.l 0), d := some 7 }] [])))
def worlds_Copy_v1_l1 : C := .loop true [0, 1, 4] K.worlds_Copy_v1_l1b
def worlds_Copy_v1 : Fn := { nargs := 1, vars := [0, 1, 2, 3, 5, 11, 12, 13], body := (.seq (.reg [{ o := .bx (.v 0) 2, d := some 1 }, { o := .al [.nil, .nil] [], d := some 2 }] []) (.seq (.reg [{ o := .fa (.v 1) 0 }, { o := .ld (.l 0) 1 false }, { o := .ca N.slices_Clone_int_int 1 [] [.l 0] }, { o := .bd [.nil, .nil] [(0, 1, .l 0)] }, { o := .al [.nil, .nil] [(1, 2)], d := some 3 }, { o := .st (.l 0) (.l 1) 2 [(1, 2)] }] []) (.seq (.seq (.reg [{ o := .fa (.v 1) 1 }, { o := .ld (.l 0) 1 false, d := some 5 }, { o := .ln (.l 0), d := some 6 }, { o := .mv (.i 0), d := some 7 }] []) (.blk 0 K.worlds_Copy_v1_l1)) (.seq (.reg [{ o := .ld (.v 3) 2 true }, { o := .st (.v 2) (.l 0) 2 [] }] []) .ret)))), res := [(2, some (2, true))] }
end Go.Ev.K
namespace Go.Ev
class Has13 [Lib] : Prop where
  t_ref26_Same : Lib.fs N.ref26_Same = some K.ref26_Same
  t_slices_Clone_api_World_api_World : Lib.fs N.slices_Clone_api_World_api_World = some K.slices_Clone_api_World_api_World
  t_swaps_meet : Lib.fs N.swaps_meet = some K.swaps_meet
  t_worlds_Copy : Lib.fs N.worlds_Copy = some K.worlds_Copy
  t_worlds_Tidy : Lib.fs N.worlds_Tidy = some K.worlds_Tidy
  t_swaps_apply : Lib.fs N.swaps_apply = some K.swaps_apply
  t_swaps_See_1 : Lib.fs N.swaps_See_1 = some K.swaps_See_1
  t_swaps_meet_1 : Lib.fs N.swaps_meet_1 = some K.swaps_meet_1
  t_slices_SortedStableFunc_api_World : Lib.fs N.slices_SortedStableFunc_api_World = some K.slices_SortedStableFunc_api_World
  t_slices_Values_api_World_api_World : Lib.fs N.slices_Values_api_World_api_World = some K.slices_Values_api_World_api_World
  t_worlds_Tidy_1 : Lib.fs N.worlds_Tidy_1 = some K.worlds_Tidy_1
  t_slices_Collect_api_World : Lib.fs N.slices_Collect_api_World = some K.slices_Collect_api_World
  t_slices_SortStableFunc_api_World_api_World : Lib.fs N.slices_SortStableFunc_api_World_api_World = some K.slices_SortStableFunc_api_World_api_World
  t_slices_Values_api_World_api_World_1 : Lib.fs N.slices_Values_api_World_api_World_1 = some K.slices_Values_api_World_api_World_1
  t_slices_stableCmpFunc_api_World : Lib.fs N.slices_stableCmpFunc_api_World = some K.slices_stableCmpFunc_api_World
  t_slices_insertionSortCmpFunc_api_World : Lib.fs N.slices_insertionSortCmpFunc_api_World = some K.slices_insertionSortCmpFunc_api_World
  t_slices_symMergeCmpFunc_api_World : Lib.fs N.slices_symMergeCmpFunc_api_World = some K.slices_symMergeCmpFunc_api_World
  t_slices_rotateCmpFunc_api_World : Lib.fs N.slices_rotateCmpFunc_api_World = some K.slices_rotateCmpFunc_api_World
  t_slices_swapRangeCmpFunc_api_World : Lib.fs N.slices_swapRangeCmpFunc_api_World = some K.slices_swapRangeCmpFunc_api_World
  t_worlds_Copy_v1 : Lib.fs N.worlds_Copy_v1 = some K.worlds_Copy_v1
namespace K
variable [Lib] [Has13]
theorem t_ref26_Same : Lib.fs N.ref26_Same = some K.ref26_Same := Has13.t_ref26_Same
theorem t_slices_Clone_api_World_api_World : Lib.fs N.slices_Clone_api_World_api_World = some K.slices_Clone_api_World_api_World := Has13.t_slices_Clone_api_World_api_World
theorem t_swaps_meet : Lib.fs N.swaps_meet = some K.swaps_meet := Has13.t_swaps_meet
theorem t_worlds_Copy : Lib.fs N.worlds_Copy = some K.worlds_Copy := Has13.t_worlds_Copy
theorem t_worlds_Tidy : Lib.fs N.worlds_Tidy = some K.worlds_Tidy := Has13.t_worlds_Tidy
theorem t_swaps_apply : Lib.fs N.swaps_apply = some K.swaps_apply := Has13.t_swaps_apply
theorem t_swaps_See_1 : Lib.fs N.swaps_See_1 = some K.swaps_See_1 := Has13.t_swaps_See_1
theorem t_swaps_meet_1 : Lib.fs N.swaps_meet_1 = some K.swaps_meet_1 := Has13.t_swaps_meet_1
theorem t_slices_SortedStableFunc_api_World : Lib.fs N.slices_SortedStableFunc_api_World = some K.slices_SortedStableFunc_api_World := Has13.t_slices_SortedStableFunc_api_World
theorem t_slices_Values_api_World_api_World : Lib.fs N.slices_Values_api_World_api_World = some K.slices_Values_api_World_api_World := Has13.t_slices_Values_api_World_api_World
theorem t_worlds_Tidy_1 : Lib.fs N.worlds_Tidy_1 = some K.worlds_Tidy_1 := Has13.t_worlds_Tidy_1
theorem t_slices_Collect_api_World : Lib.fs N.slices_Collect_api_World = some K.slices_Collect_api_World := Has13.t_slices_Collect_api_World
theorem t_slices_SortStableFunc_api_World_api_World : Lib.fs N.slices_SortStableFunc_api_World_api_World = some K.slices_SortStableFunc_api_World_api_World := Has13.t_slices_SortStableFunc_api_World_api_World
theorem t_slices_Values_api_World_api_World_1 : Lib.fs N.slices_Values_api_World_api_World_1 = some K.slices_Values_api_World_api_World_1 := Has13.t_slices_Values_api_World_api_World_1
theorem t_slices_stableCmpFunc_api_World : Lib.fs N.slices_stableCmpFunc_api_World = some K.slices_stableCmpFunc_api_World := Has13.t_slices_stableCmpFunc_api_World
theorem t_slices_insertionSortCmpFunc_api_World : Lib.fs N.slices_insertionSortCmpFunc_api_World = some K.slices_insertionSortCmpFunc_api_World := Has13.t_slices_insertionSortCmpFunc_api_World
theorem t_slices_symMergeCmpFunc_api_World : Lib.fs N.slices_symMergeCmpFunc_api_World = some K.slices_symMergeCmpFunc_api_World := Has13.t_slices_symMergeCmpFunc_api_World
theorem t_slices_rotateCmpFunc_api_World : Lib.fs N.slices_rotateCmpFunc_api_World = some K.slices_rotateCmpFunc_api_World := Has13.t_slices_rotateCmpFunc_api_World
theorem t_slices_swapRangeCmpFunc_api_World : Lib.fs N.slices_swapRangeCmpFunc_api_World = some K.slices_swapRangeCmpFunc_api_World := Has13.t_slices_swapRangeCmpFunc_api_World
theorem t_worlds_Copy_v1 : Lib.fs N.worlds_Copy_v1 = some K.worlds_Copy_v1 := Has13.t_worlds_Copy_v1
end K
end Go.Ev

namespace Go.Ev
open Go
variable [Lib] [Has1] [Has2] [Has3] [Has4] [Has5] [Has6] [Has7] [Has8] [Has9] [Has10] [Has11] [Has12] [Has13]
end Go.Ev

namespace Go.Ev
open Go
variable [Lib] [Has1] [Has2] [Has3] [Has4] [Has5] [Has6] [Has7] [Has8] [Has9] [Has10] [Has11] [Has12] [Has13]
end Go.Ev

namespace Go.Ev
open Go
variable [Lib] [Has1] [Has2] [Has3] [Has4] [Has5] [Has6] [Has7] [Has8] [Has9]
end Go.Ev

namespace Go.Ev
open Go
variable [Lib] [Has1] [Has2] [Has3] [Has4] [Has5] [Has6] [Has7] [Has8] [Has9] [Has10] [Has11]
end Go.Ev

namespace Go.Ev
open Go
variable [Lib] [Has1] [Has2] [Has3] [Has4] [Has5] [Has6] [Has7] [Has8] [Has9] [Has10] [Has11]
end Go.Ev

namespace Go.Ev
open Go
variable [Lib] [Has1] [Has2] [Has3] [Has4] [Has5] [Has6] [Has7] [Has8] [Has9] [Has10] [Has11]
structure SH (n p : Nat) (l : List Wh) : Prop where
  ln : l.length = n
  fr : ∀ w ∈ l, w.frm.length = p
theorem WV.sh {m : Mine} {first : List Int} {x : World} (h : WV m first x) : SH first.length m.places.length x.whr :=
  ⟨h.wl, fun w hw => (validB_spec (h.wv w hw)).1⟩
end Go.Ev

namespace Go.Ev
open Go
variable [Lib] [Has1] [Has2] [Has3] [Has4] [Has5] [Has6] [Has7] [Has8] [Has9] [Has10] [Has11] [Has12] [Has13]
theorem Rp.more {H : Heap} {id : Nat} {es : List D} {fa fb : Nat → Nat} {out : List World} (hr : Rp H id es fa fb out) (t : Heap) : Rp (H ++ t) id es fa fb out :=
  ⟨by rw [hp_get (hp_lt hr.arr)]; exact hr.arr, hr.len, hr.el, fun j hj => by rw [hp_get (hp_lt (hr.ha j hj))]; exact hr.ha j hj, fun j hj => by rw [hp_get (hp_lt (hr.hb j hj))]; exact hr.hb j hj, hr.na, hr.nb, hr.nab, hr.nbb⟩
end Go.Ev

namespace Go.Ev
open Go
variable [Lib] [Has1] [Has2] [Has3] [Has4] [Has5] [Has6] [Has7] [Has8] [Has9] [Has10] [Has11] [Has12] [Has13]
end Go.Ev

namespace Go.Ev
open Go
variable [Lib] [Has1] [Has2] [Has3] [Has4] [Has5] [Has6] [Has7] [Has8] [Has9] [Has10] [Has11]
end Go.Ev

namespace Go.Ev
open Go
variable [Lib] [Has1] [Has2] [Has6] [Has7]
end Go.Ev

namespace Go.Ev
open Go
variable [Lib] [Has1] [Has2] [Has6] [Has7]
abbrev smMax : Int := 2147483648
end Go.Ev

namespace Go.Ev
open Go
variable [Lib] [Has1] [Has2] [Has6] [Has7]
section
variable {m : Mine} (h : m.ok) {fl : List Spn}
include h
end
end Go.Ev

namespace Go.Ev
open Go
def clP (m : Mine) (fl : List Spn) (y : List Int) : Prop := ∀ k, k < m.roads.length → ∀ back, 0 ≤ travelF (nth m.roads k) (nth fl k) back →
  nth y ((nth m.roads k).src back).toNat + travelF (nth m.roads k) (nth fl k) back ≤ smMax →
  nth y ((nth m.roads k).dst back).toNat ≤ nth y ((nth m.roads k).src back).toNat + travelF (nth m.roads k) (nth fl k) back
variable [Lib] [Has1] [Has2] [Has6] [Has7]
end Go.Ev

namespace Go.Ev
open Go
variable [Lib] [Has1] [Has2] [Has6] [Has7]
end Go.Ev

namespace Go.Ev
open Go
variable [Lib] [Has1] [Has2] [Has6] [Has7]
end Go.Ev

namespace Go.Ev
open Go
variable [Lib] [Has1] [Has2] [Has6] [Has7]
def tmOk (l : List Int) : Prop := ∀ x ∈ l, 0 ≤ x ∧ (x ≤ smMax ∨ x = 1099511627776)
theorem tmOk.bnd {l : List Int} (h : tmOk l) : bnd l := fun x hx => by have := h x hx; simp only [smMax] at this; omega
end Go.Ev

namespace Go.Ev
open Go
variable [Lib] [Has1] [Has2] [Has3] [Has4] [Has6] [Has7]
end Go.Ev

namespace Go.Ev
open Go
variable [Lib] [Has1] [Has2] [Has3] [Has4] [Has6] [Has7]
end Go.Ev

namespace Go.Ev
open Go
variable [Lib] [Has1] [Has2] [Has3] [Has4] [Has6] [Has7]
end Go.Ev

namespace Go.Ev
open Go
variable [Lib] [Has1] [Has2] [Has3] [Has4] [Has6] [Has7]
end Go.Ev

namespace Go.Ev
open Go
variable [Lib] [Has1] [Has2] [Has3] [Has4] [Has6] [Has7]
structure SGood (m : Mine) (fl : List Spn) (s : Wh) : Prop where
  ln : s.frm.length = m.places.length
  ti : inT s.time
  tm : tmOk s.frm
  lo : ∀ x ∈ s.frm, s.time ≤ x
  cl : clP m fl s.frm
theorem SGood.valid {m : Mine} {fl : List Spn} {s : Wh} (h : SGood m fl s) : validS m s = true := by
  simp only [validS, Bool.and_eq_true, decide_eq_true_eq, List.all_eq_true, List.mem_range]
  refine ⟨fun j hj => ?_, h.ln, h.ti⟩
  have a := h.tm _ (nth_mem hj)
  have b := h.lo _ (nth_mem hj)
  unfold plS
  simp only [smMax] at a
  omega
end Go.Ev

namespace Go.Ev
open Go
variable [Lib] [Has1] [Has2] [Has3] [Has4] [Has6] [Has7]
end Go.Ev

namespace Go.Ev
open Go
variable [Lib] [Has1] [Has2] [Has3] [Has4] [Has6] [Has7]
end Go.Ev

namespace Go.Ev
open Go
variable [Lib] [Has1] [Has2] [Has3] [Has4] [Has5] [Has6] [Has7] [Has8] [Has9] [Has10] [Has11]
end Go.Ev

namespace Go.Ev
open Go
variable [Lib] [Has1] [Has2] [Has3] [Has4] [Has5] [Has6] [Has7] [Has8] [Has9] [Has10] [Has11]
end Go.Ev

namespace Go.Ev
open Go
variable [Lib] [Has1] [Has2] [Has3] [Has4] [Has5] [Has6] [Has7] [Has8] [Has9] [Has10] [Has11]
section
variable {m : Mine} (hm : m.ok) (l : List Mch) (hl : l.length ≤ 1000) (hp : ∀ x ∈ l, x.pl.length ≤ 1000000) (s : Wh) (hs : s.frm.length ≤ 1000000) (b : Bel) (hb : b.sz) (t a : Int)
include hm hl hp hs hb
end
end Go.Ev

namespace Go.Ev
open Go
variable [Lib] [Has1] [Has2] [Has3] [Has4] [Has6] [Has7]
end Go.Ev

namespace Go.Ev
open Go
variable [Lib] [Has1] [Has2] [Has3] [Has4] [Has6] [Has7]
end Go.Ev

namespace Go.Ev
open Go
variable [Lib] [Has1] [Has2]
def sh (s x : Int) : Int := if x < 1099511627776 then x + s else x
def shL (s : Int) (l : List Int) : List Int := l.map (sh s)
@[simp] theorem shL_len (s : Int) (l : List Int) : (shL s l).length = l.length := List.length_map ..
end Go.Ev

namespace Go.Ev
open Go
variable [Lib] [Has1] [Has2] [Has3] [Has4] [Has5] [Has6] [Has7] [Has8] [Has9]
end Go.Ev

namespace Go.Ev
open Go
variable [Lib] [Has1] [Has2] [Has3] [Has4] [Has5] [Has6] [Has7] [Has8] [Has9]
end Go.Ev

namespace Go.Ev
open Go
variable [Lib] [Has1] [Has2] [Has3] [Has4] [Has5] [Has6] [Has7] [Has8] [Has9]
end Go.Ev

namespace Go.Ev
open Go
variable [Lib] [Has1] [Has2] [Has3] [Has4] [Has5] [Has6] [Has7] [Has8] [Has9]
end Go.Ev

namespace Go.Ev
open Go
variable [Lib] [Has1] [Has2] [Has3] [Has4] [Has5] [Has6] [Has7] [Has8] [Has9]
end Go.Ev

namespace Go.Ev
open Go
variable [Lib] [Has1] [Has2] [Has3] [Has4] [Has5] [Has6] [Has7] [Has8] [Has9]
end Go.Ev

namespace Go.Ev
open Go
variable [Lib] [Has1] [Has2] [Has3] [Has4] [Has5] [Has6] [Has7] [Has8] [Has9] [Has10] [Has11]
end Go.Ev

namespace Go.Ev
open Go
variable [Lib] [Has1] [Has2] [Has3] [Has4] [Has5] [Has6] [Has7] [Has8] [Has9] [Has10] [Has11]
end Go.Ev

namespace Go.Ev
open Go
variable [Lib] [Has1] [Has2] [Has3] [Has4] [Has5] [Has6] [Has7] [Has8] [Has9] [Has10] [Has11] [Has12] [Has13]
end Go.Ev

namespace Go.Ev
open Go
variable [Lib] [Has1] [Has2] [Has3] [Has4] [Has5] [Has6] [Has7] [Has8] [Has9] [Has10] [Has11] [Has12] [Has13]
end Go.Ev

namespace Go.Ev
open Go
variable [Lib] [Has1] [Has2] [Has3] [Has4] [Has5] [Has6] [Has7] [Has8] [Has9] [Has10] [Has11] [Has12] [Has13]
end Go.Ev

namespace Go.Ev
open Go
variable [Lib] [Has1] [Has2] [Has3] [Has4] [Has5] [Has6] [Has7] [Has8] [Has9] [Has10] [Has11] [Has12] [Has13]
end Go.Ev

namespace Go.Ev
open Go
variable [Lib] [Has1] [Has2] [Has3] [Has4] [Has5] [Has6] [Has7] [Has8] [Has9] [Has10] [Has11] [Has12] [Has13]
abbrev ssH (m : Mine) (tags : List Int) (ws : List Wh) : Heap := [.box (mineCells m), .box [.nil], .box [.t (tL tags), .ref 4 0 ws.length], .arr 2 false 0 [], .arr 2 false 0 ((ws.map Wh.e).map .t)]
theorem sStart_ok {m : Mine} (h : m.ok) (h1 : 1 ≤ m.places.length) (tags starts : List Int) (hl : tags.length ≤ 1000000) (t : Int) :
    CALL 0 N.swaps_Start [.t m.e, .t (tL tags), .t (tL starts), I t] [] = some (.tup [.t (startBel m tags starts t).1.e, I (startBel m tags starts t).2], []) := by
  refine CALL_of K.t_swaps_Start rfl ?_
  have va := planValid_ok h
  have tg := tagged_ok tags hl
  have li := in_ok (tags.length : Int) 1 12
  have cl := clone0_ok tags hl
  unfold startBel
  by_cases c1 : tags.length = starts.length
  · have e := c1.symm
    by_cases c2 : 1 ≤ tags.length ∧ tags.length ≤ 12
    · rw [decide_eq_true (by omega)] at li
      rw [if_pos ⟨c1, c2⟩]
      cases hp : properB tags with
      | false =>
        rw [hp] at tg
        obtain ⟨places, roads⟩ := m
        simp only at *
        simp (disch := omega) only [go_sem, K.swaps_Start, ↓reduceIte, va, tg, li, e, Bool.false_eq_true, Nat.reduceAdd, Nat.reduceSub]
        rfl
      | true =>
        rw [hp] at tg
        have loop : ∀ z0 z1 z2 z6 z8 z9 z10 : D, exS CALL K.swaps_Start_l1 ⟨[z0, z1, z2, I t, .bp 0 0, .bp 1 0, z6, .bp 2 0, z8, z9, z10, .t (tL starts), I tags.length, I 0], ssH m tags []⟩ =
            some (match (List.range tags.length).find? (fun i => !decide ((startF m (nth starts i) t).2 = 0)) with
              | some i => (.ret, ⟨[.und, .und, .und, I t, .bp 0 0, .bp 1 0, I (startF m (nth starts i) t).2, .bp 2 0, I (nth starts i), .bp 5 0, I (startF m (nth starts i) t).2, .t (tL starts), I tags.length, I i], ssH m tags (startWs m starts t i) ++ [.box [I (startF m (nth starts i) t).1.time, .t (tL (startF m (nth starts i) t).1.frm)]]⟩)
              | none => (.exit 1, ⟨[.und, .und, .und, I t, .bp 0 0, .bp 1 0, .und, .bp 2 0, .und, .und, .und, .t (tL starts), I tags.length, I tags.length], ssH m tags (startWs m starts t tags.length)⟩)) := by
          intro z0 z1 z2 z6 z8 z9 z10
          refine loop_first (fun j => ⟨[.und, .und, .und, I t, .bp 0 0, .bp 1 0, .und, .bp 2 0, .und, .und, .und, .t (tL starts), I tags.length, I j], ssH m tags (startWs m starts t j)⟩) tags.length _ _ _ rfl ?_ ?_ ?_ (by simp)
          · intro j hj hp
            have st := pstart_ok h h1 (nth starts j) t
            have ln := startWs_len m starts t j
            have hp : (startF m (nth starts j) t).2 = 0 := by simpa using hp
            rw [startWs_succ]
            generalize startWs m starts t j = L at *
            generalize startF m (nth starts j) t = r at *
            obtain ⟨⟨time, frm⟩, e⟩ := r
            obtain ⟨places, roads⟩ := m
            simp only [mineCells] at st hp ⊢
            subst hp
            simp (disch := omega) only [go_sem, K.swaps_Start_l1b, ↓reduceIte, ssH, st, Nat.reduceAdd, Nat.reduceSub]
          · intro j hj hp
            have st := pstart_ok h h1 (nth starts j) t
            have ln := startWs_len m starts t j
            have hp : (startF m (nth starts j) t).2 ≠ 0 := by simpa using hp
            generalize startWs m starts t j = L at *
            generalize startF m (nth starts j) t = r at *
            obtain ⟨⟨time, frm⟩, e⟩ := r
            obtain ⟨places, roads⟩ := m
            simp only [mineCells] at st hp ⊢
            refine ⟨?_, by simp⟩
            simp (disch := omega) only [go_sem, K.swaps_Start_l1b, ↓reduceIte, ssH, st, Nat.reduceAdd, Nat.reduceSub]
          · have ln := startWs_len m starts t tags.length
            generalize startWs m starts t tags.length = L at *
            simp (disch := omega) only [go_sem, K.swaps_Start_l1b, ↓reduceIte, ssH, Nat.reduceAdd, Nat.reduceSub]
        simp only [ssH, List.map_nil, List.length_nil] at loop
        cases hf : (List.range tags.length).find? (fun i => !decide ((startF m (nth starts i) t).2 = 0)) with
        | some i =>
          simp only [hf] at loop
          dsimp only
          generalize startF m (nth starts i) t = r at *
          obtain ⟨⟨time, frm⟩, e6⟩ := r
          generalize startWs m starts t i = L at *
          obtain ⟨places, roads⟩ := m
          simp only [mineCells] at *
          simp (disch := omega) only [go_sem, K.swaps_Start, ↓reduceIte, va, tg, li, cl, loop, e, Nat.reduceAdd, Nat.reduceSub]
          rfl
        | none =>
          simp only [hf] at loop
          have ln := startWs_len m starts t tags.length
          generalize startWs m starts t tags.length = L at *
          obtain ⟨places, roads⟩ := m
          simp only [mineCells] at *
          simp (disch := omega) only [go_sem, K.swaps_Start, ↓reduceIte, va, tg, li, cl, loop, e, Nat.reduceAdd, Nat.reduceSub]
          rfl
    · rw [decide_eq_false (by omega)] at li
      rw [if_neg (fun x => c2 ⟨x.2.1, x.2.2⟩)]
      obtain ⟨places, roads⟩ := m
      simp only at *
      simp (disch := omega) only [go_sem, K.swaps_Start, ↓reduceIte, va, li, e, Nat.reduceAdd, Nat.reduceSub]
      rfl
  · rw [if_neg (fun x => c1 x.1)]
    obtain ⟨places, roads⟩ := m
    simp only at *
    simp (disch := omega) only [go_sem, K.swaps_Start, ↓reduceIte, va, li, c1, Nat.reduceAdd, Nat.reduceSub]
    rfl
end Go.Ev

namespace Go.Ev
open Go
variable [Lib] [Has1] [Has2] [Has3] [Has4] [Has5] [Has6] [Has7] [Has8] [Has9] [Has10] [Has11] [Has12] [Has13]
theorem sameR_in (ws : List World) (tags : List Int) (whr : List Wh) (hl : whr.length ≤ 1000000) (hz : ∀ w ∈ whr, w.frm.length ≤ 1000000) (k : Int) :
    exS CALL K.ref26_Same_l2 ⟨[.und, .und, .bp 0 0, .bp 1 0, .und, I k, .bp 2 0, .bp 3 0, I 0], [.box [.t (.sl (ws.map World.e))], .box [.t (.sl (ws.map World.e))], .box [.t (tL tags), .t (.sl (whr.map Wh.e))], .box [.t (tL tags), .t (.sl (whr.map Wh.e))]]⟩ =
      some (.exit 2, ⟨[.und, .und, .bp 0 0, .bp 1 0, .und, I k, .bp 2 0, .bp 3 0, I whr.length], [.box [.t (.sl (ws.map World.e))], .box [.t (.sl (ws.map World.e))], .box [.t (tL tags), .t (.sl (whr.map Wh.e))], .box [.t (tL tags), .t (.sl (whr.map Wh.e))]]⟩) := by
  refine loop_up (fun j => ⟨[.und, .und, .bp 0 0, .bp 1 0, .und, I k, .bp 2 0, .bp 3 0, I j], [.box [.t (.sl (ws.map World.e))], .box [.t (.sl (ws.map World.e))], .box [.t (tL tags), .t (.sl (whr.map Wh.e))], .box [.t (tL tags), .t (.sl (whr.map Wh.e))]]⟩) whr.length rfl ?_ ?_ (by simp)
  · intro j hj
    have ex : (whr.map Wh.e)[j]? = some (nth whr j).e := map_nth _ hj
    have sm := same25_ok (nth whr j) (nth whr j) (hz _ (nth_mem hj))
    rw [decide_eq_true ⟨rfl, rfl⟩] at sm
    clear hz
    generalize nth whr j = x at *
    obtain ⟨t, f⟩ := x
    simp (disch := omega) only [go_sem, K.ref26_Same_l2b, ↓reduceIte, ex, sm, Nat.reduceAdd, Nat.reduceSub]
  · simp (disch := omega) only [go_sem, K.ref26_Same_l2b, ↓reduceIte, Nat.reduceAdd, Nat.reduceSub]
theorem sameR_ok (b : Bel) (hs : b.sz) : CALL 0 N.ref26_Same [.t b.e, .t b.e] [] = some (B true, []) := by
  refine CALL_of K.t_ref26_Same rfl ?_
  obtain ⟨ws⟩ := b
  obtain ⟨s1, s2⟩ := hs
  simp only at *
  have loop : ∀ z0 z1 z4 z6 z7 z8 : D, exS CALL K.ref26_Same_l1 ⟨[z0, z1, .bp 0 0, .bp 1 0, z4, I 0, z6, z7, z8], [.box [.t (.sl (ws.map World.e))], .box [.t (.sl (ws.map World.e))]]⟩ =
      some (.exit 0, ⟨[.und, .und, .bp 0 0, .bp 1 0, .und, I ws.length, .und, .und, .und], [.box [.t (.sl (ws.map World.e))], .box [.t (.sl (ws.map World.e))]]⟩) := by
    intro z0 z1 z4 z6 z7 z8
    refine loop_up (fun j => ⟨[.und, .und, .bp 0 0, .bp 1 0, .und, I j, .und, .und, .und], [.box [.t (.sl (ws.map World.e))], .box [.t (.sl (ws.map World.e))]]⟩) ws.length rfl ?_ ?_ (by simp)
    · intro j hj
      have ex : (ws.map World.e)[j]? = some (nth ws j).e := map_nth _ hj
      have z := s2 _ (nth_mem hj)
      have sm := same_ok (nth ws j).tags (nth ws j).tags (by have := z.1; omega)
      rw [decide_eq_true rfl] at sm
      have inn := sameR_in ws (nth ws j).tags (nth ws j).whr (by have := z.2.1; omega) z.2.2 j
      clear s2 z
      generalize nth ws j = x at *
      obtain ⟨tags, whr⟩ := x
      simp only at *
      simp (disch := omega) only [go_sem, K.ref26_Same_l1b, ↓reduceIte, ex, sm, inn, Nat.reduceAdd, Nat.reduceSub]
    · simp (disch := omega) only [go_sem, K.ref26_Same_l1b, ↓reduceIte, Nat.reduceAdd, Nat.reduceSub]
  simp (disch := omega) only [go_sem, K.ref26_Same, ↓reduceIte, loop, Nat.reduceAdd, Nat.reduceSub]
theorem same26_ok (b : Bel) (hs : b.sz) (e : Int) : CALL 0 N.law26_same [.t b.e, .t b.e, I e, I e] [] = some (B true, []) := by
  refine CALL_of K.t_law26_same rfl ?_
  have s := sameR_ok b hs
  obtain ⟨ws⟩ := b
  simp (disch := omega) only [go_sem, K.law26_same, ↓reduceIte, s, Nat.reduceAdd, Nat.reduceSub]
end Go.Ev

namespace Go.Ev
open Go
variable [Lib] [Has1] [Has2] [Has3] [Has4] [Has5] [Has6] [Has7] [Has8] [Has9] [Has10] [Has11] [Has12] [Has13]
theorem check0_bad (roads : List Road) (r1 : 1 ≤ roads.length) (r2 : roads.length ≤ 128) (h0 : 0 ≤ (nth roads 0).frm) : CALL 0 N.ref01_Check [.t (Mine.e ⟨[], roads⟩)] [] = some (I 4, []) := by
  refine CALL_of K.t_ref01_Check rfl ?_
  have g : (roads.map Road.e)[0]? = some (nth roads 0).e := map_nth _ (by omega)
  have l1 : ∀ z0 z2 z4 z5 z6 : D, exS CALL K.ref01_Check_l1 ⟨[z0, .bp 0 0, z2, I 0, z4, z5, z6], [.box [.t (.sl []), .t (.sl (roads.map Road.e))]]⟩ = some (.exit 0, ⟨[.und, .bp 0 0, .und, I 0, .und, .und, .und], [.box [.t (.sl []), .t (.sl (roads.map Road.e))]]⟩) := by
    intro z0 z2 z4 z5 z6
    refine loop_up (fun j => ⟨[.und, .bp 0 0, .und, I j, .und, .und, .und], [.box [.t (.sl []), .t (.sl (roads.map Road.e))]]⟩) 0 rfl (fun j hj => by omega) ?_ (by simp)
    simp (disch := omega) only [go_sem, K.ref01_Check_l1b, ↓reduceIte, Nat.reduceAdd, Nat.reduceSub]
  have l2 : ∀ z0 z2 z3 z4 z6 : D, ∃ vs H, exS CALL K.ref01_Check_l2 ⟨[z0, .bp 0 0, z2, z3, z4, I 0, z6], [.box [.t (.sl []), .t (.sl (roads.map Road.e))]]⟩ = some (.ret, ⟨vs, H⟩) ∧ vs[2]? = some (I 4) := by
    intro z0 z2 z3 z4 z6
    have : ∃ vs H, exS CALL K.ref01_Check_l2b ⟨[.und, .bp 0 0, .und, .und, .und, I 0, .und], [.box [.t (.sl []), .t (.sl (roads.map Road.e))]]⟩ = some (.ret, ⟨vs, H⟩) ∧ vs[2]? = some (I 4) := by
      generalize nth roads 0 = x at *
      obtain ⟨frm, to, len, area, walk, closed, rl, rh, ll, lh⟩ := x
      simp only at *
      simp (disch := omega) only [go_sem, K.ref01_Check_l2b, ↓reduceIte, g, List.length_nil, Nat.reduceAdd, Nat.reduceSub]
      exact ⟨_, _, rfl, rfl⟩
    obtain ⟨vs, H, a, b⟩ := this
    exact ⟨vs, H, loopC_exit a (by simp), b⟩
  obtain ⟨vs, H, a, b⟩ := l2 .und .und (I 0) .und .und
  simp only [Mine.e, List.map_nil] at *
  simp (disch := omega) only [go_sem, K.ref01_Check, ↓reduceIte, l1, a, b, List.map_nil, List.length_nil, Nat.reduceAdd, Nat.reduceSub]
theorem plan0_bad (roads : List Road) (r1 : 1 ≤ roads.length) (r2 : roads.length ≤ 128) (h0 : 0 ≤ (nth roads 0).frm) : CALL 0 N.plan_Check [.t (Mine.e ⟨[], roads⟩)] [] = some (I 4, []) := by
  refine CALL_of K.t_plan_Check rfl ?_
  have g : (roads.map Road.e)[0]? = some (nth roads 0).e := map_nth _ (by omega)
  have l1 : ∀ z0 z2 z3 z4 z5 z9 z10 z11 : D, exS CALL K.plan_Check_l1 ⟨[z0, .bp 0 0, z2, z3, z4, z5, .t (.sl []), I 0, I 0, z9, z10, z11], [.box [.t (.sl []), .t (.sl (roads.map Road.e))]]⟩ = some (.exit 0, ⟨[.und, .bp 0 0, .und, .und, .und, .und, .t (.sl []), I 0, I 0, .und, .und, .und], [.box [.t (.sl []), .t (.sl (roads.map Road.e))]]⟩) := by
    intro z0 z2 z3 z4 z5 z9 z10 z11
    refine loop_up (fun j => ⟨[.und, .bp 0 0, .und, .und, .und, .und, .t (.sl []), I 0, I j, .und, .und, .und], [.box [.t (.sl []), .t (.sl (roads.map Road.e))]]⟩) 0 rfl (fun j hj => by omega) ?_ (by simp)
    simp (disch := omega) only [go_sem, K.plan_Check_l1b, ↓reduceIte, Nat.reduceAdd, Nat.reduceSub]
  have l2 : ∀ z0 z1 z2 z3 z5 z6 z7 z8 : D, ∃ vs H, exS CALL K.plan_Check_l2 ⟨[z0, z1, z2, z3, I 0, z5, z6, z7, z8, .t (.sl (roads.map Road.e)), I roads.length, I 0], [.box [.t (.sl []), .t (.sl (roads.map Road.e))]]⟩ = some (.ret, ⟨vs, H⟩) ∧ vs[2]? = some (I 4) := by
    intro z0 z1 z2 z3 z5 z6 z7 z8
    have : ∃ vs H, exS CALL K.plan_Check_l2b ⟨[.und, .und, .und, .und, I 0, .und, .und, .und, .und, .t (.sl (roads.map Road.e)), I roads.length, I 0], [.box [.t (.sl []), .t (.sl (roads.map Road.e))]]⟩ = some (.ret, ⟨vs, H⟩) ∧ vs[2]? = some (I 4) := by
      generalize nth roads 0 = x at *
      obtain ⟨frm, to, len, area, walk, closed, rl, rh, ll, lh⟩ := x
      simp only at *
      simp (disch := omega) only [go_sem, K.plan_Check_l2b, ↓reduceIte, g, Nat.reduceAdd, Nat.reduceSub]
      exact ⟨_, _, rfl, rfl⟩
    obtain ⟨vs, H, a, b⟩ := this
    exact ⟨vs, H, loopC_exit a (by simp), b⟩
  obtain ⟨vs, H, a, b⟩ := l2 .und (.bp 0 0) .und .und .und (.t (.sl [])) (I 0) (I 0)
  simp only [Mine.e, List.map_nil] at *
  simp (disch := omega) only [go_sem, K.plan_Check, ↓reduceIte, l1, a, b, List.map_nil, List.length_nil, Nat.reduceAdd, Nat.reduceSub]
theorem plan0_no (roads : List Road) (r1 : 1 ≤ roads.length) (r2 : roads.length ≤ 128) (h0 : 0 ≤ (nth roads 0).frm) : CALL 0 N.plan_Valid [.t (Mine.e ⟨[], roads⟩)] [] = some (B false, []) := by
  refine CALL_of K.t_plan_Valid rfl ?_
  have c := plan0_bad roads r1 r2 h0
  simp only [Mine.e, List.map_nil] at *
  simp (disch := omega) only [go_sem, K.plan_Valid, ↓reduceIte, c, Nat.reduceAdd, Nat.reduceSub]
theorem sStart_bad {m : Mine} (va : CALL 0 N.plan_Valid [.t m.e] [] = some (B false, [])) (tags starts : List Int) (t : Int) :
    CALL 0 N.swaps_Start [.t m.e, .t (tL tags), .t (tL starts), I t] [] = some (.tup [.t (Bel.e ⟨[]⟩), I 6], []) := by
  refine CALL_of K.t_swaps_Start rfl ?_
  obtain ⟨places, roads⟩ := m
  simp (disch := omega) only [go_sem, K.swaps_Start, ↓reduceIte, va, Nat.reduceAdd, Nat.reduceSub]
  rfl
theorem rStart_bad {m : Mine} (ck : CALL 0 N.ref01_Check [.t m.e] [] = some (I 4, [])) (tags starts : List Int) (t : Int) :
    CALL 0 N.ref26_Start [.t m.e, .t (tL tags), .t (tL starts), I t] [] = some (.tup [.t (Bel.e ⟨[]⟩), I 6], []) := by
  refine CALL_of K.t_ref26_Start rfl ?_
  obtain ⟨places, roads⟩ := m
  simp (disch := omega) only [go_sem, K.ref26_Start, ↓reduceIte, ck, Nat.reduceAdd, Nat.reduceSub]
  rfl
end Go.Ev

namespace Go.Ev
open Go
variable [Lib] [Has1] [Has2] [Has3] [Has4] [Has5] [Has6] [Has7] [Has8] [Has9] [Has10] [Has11] [Has12] [Has13]
abbrev ssV (t ea : Int) (tg st : List Int) (v : Int) : List D := [.und, .und, I t, .und, .bp 0 0, .und, .und, .bp 1 0, .bp 2 0, I ea, .bp 3 0, I ea, .ref 4 0 tg.length, .ref 5 0 st.length, I v, .und, .und, .und, .und]
abbrev ssG (e : Dice) (m : Mine) (ws : List World) (tg st : List Int) : Heap := [e.obj, .box (mineCells m), .box [.t (.sl (ws.map World.e))], .box [.t (.sl (ws.map World.e))], .arr 1 false 0 ((tg.map (T.int .i64)).map .t), .arr 1 false 0 ((st.map (T.int .i64)).map .t)]
def ssP (m : Mine) (t ea : Int) (ws : List World) (n : Nat) (j : Nat) (s : St) : Prop :=
  ∃ (e : Dice) (tg st : List Int), s = ⟨ssV t ea tg st ((n : Int) - j), ssG e m ws tg st⟩ ∧ e.light ∧ tg.length = j ∧ st.length = j
theorem ss_loop {e0 : Dice} (l0 : e0.light) (m : Mine) (np : m.places.length ≤ 64) (t ea : Int) (ws : List World) (n : Nat) (hn : n ≤ 100) :
    ∃ (e : Dice) (tg st : List Int), e.light ∧ tg.length = n ∧ st.length = n ∧ ∀ z0 z1 z3 z5 z6 z15 z16 z17 z18 : D,
    exS CALL K.law26_SwapsStarts_l1 ⟨[z0, z1, I t, z3, .bp 0 0, z5, z6, .bp 1 0, .bp 2 0, I ea, .bp 3 0, I ea, .ref 4 0 0, .ref 5 0 0, I n, z15, z16, z17, z18], ssG e0 m ws [] []⟩ = some (.exit 0, ⟨ssV t ea tg st 0, ssG e m ws tg st⟩) := by
  have key : ∀ z0 z1 z3 z5 z6 z15 z16 z17 z18 : D, ∃ r, exS CALL K.law26_SwapsStarts_l1 ⟨[z0, z1, I t, z3, .bp 0 0, z5, z6, .bp 1 0, .bp 2 0, I ea, .bp 3 0, I ea, .ref 4 0 0, .ref 5 0 0, I n, z15, z16, z17, z18], ssG e0 m ws [] []⟩ = some r ∧
      ∃ (e : Dice) (tg st : List Int), r = (.exit 0, ⟨ssV t ea tg st 0, ssG e m ws tg st⟩) ∧ e.light ∧ tg.length = n ∧ st.length = n := by
    intro z0 z1 z3 z5 z6 z15 z16 z17 z18
    refine loop_x (ssP m t ea ws n) n _ ?_ ?_ ?_
    · refine ⟨e0, [], [], ?_, l0, rfl, rfl⟩
      simp only [ssV, Int.natCast_zero, Int.sub_zero]; rfl
    · rintro j s hj ⟨e, tg, st, rfl, l1, h1, h2⟩
      obtain ⟨v, e1, nx, l2, v1, v2⟩ := next_x l1 (m.places.length + 1) (by omega) (by omega)
      refine .inl ⟨_, ?_, e1, tg ++ [(n : Int) - j], st ++ [v], rfl, l2, by simp [h1], by simp [h2]⟩
      have g1 : ((n : Int) - j > 0) := by omega
      have g2 : (n : Int) - ((j + 1 : Nat) : Int) = (n : Int) - j - 1 := by omega
      simp only [ssV, ssG, g2, List.length_append, List.length_singleton, List.map_append, List.map_cons, List.map_nil]
      obtain ⟨places, roads⟩ := m
      simp only [mineCells] at *
      generalize (n : Int) - j = q at *
      simp (disch := omega) only [go_sem, K.law26_SwapsStarts_l1b, ↓reduceIte, nx, g1, Nat.reduceAdd, Nat.reduceSub]
    · rintro s ⟨e, tg, st, rfl, l1, h1, h2⟩
      refine ⟨(.exit 0, ⟨ssV t ea tg st 0, ssG e m ws tg st⟩), ?_, by simp, e, tg, st, rfl, l1, h1, h2⟩
      simp only [ssV, ssG, Int.sub_self]
      simp (disch := omega) only [go_sem, K.law26_SwapsStarts_l1b, ↓reduceIte, Nat.reduceAdd, Nat.reduceSub]
  obtain ⟨r, hr, e, tg, st, rfl, a, b, c⟩ := key .und .und .und .und .und .und .und .und .und
  exact ⟨e, tg, st, a, b, c, fun z0 z1 z3 z5 z6 z15 z16 z17 z18 => by
    rw [← hr]
    show loopC true _ _ ⟨dropV _ _, _⟩ = loopC true _ _ ⟨dropV _ _, _⟩
    simp (disch := omega) only [go_sem, Nat.reduceAdd, Nat.reduceSub]⟩
theorem startBel_sz {m : Mine} (hm : m.ok) (tags starts : List Int) (t : Int) : (startBel m tags starts t).1.sz := by
  have z : Bel.sz ⟨[]⟩ := ⟨by simp, fun x hx => by simp at hx⟩
  unfold startBel
  split
  · rename_i c
    split
    · split
      · exact z
      · refine ⟨by simp, fun x hx => ?_⟩
        have hx : x = ⟨tags, startWs m starts t tags.length⟩ := List.mem_singleton.1 hx
        subst hx
        refine ⟨by simp only; omega, by rw [startWs_len]; omega, fun w hw => ?_⟩
        simp only [startWs, List.mem_map, List.mem_range] at hw
        obtain ⟨i, hi, rfl⟩ := hw
        unfold startF
        have np := hm.np
        split
        · simp
        · split
          · rename_i c1 c2
            have hb : bnd ((neverL m.places.length).set (nth starts i).toNat t) := bnd_set (neverL_bnd _) (by unfold inT at c2; omega) (by unfold inT at c2; omega)
            have := closeF_len hm t c2 none (by simp) (l := (neverL m.places.length).set (nth starts i).toNat t) (by rw [List.length_set, neverL_len]) hb
            simp only
            omega
          · simp
    · exact z
  · exact z
theorem SwapsStarts_law (aw : CALL 0 N.law26_awake [] [] = some (B true, [])) (li : List Int) (ss : List (List Int)) (t : Int) : CALL 0 N.law26_SwapsStarts [.t (tL li), .t (.sl (ss.map tL)), I t] [] = some (B true, []) := by
  refine CALL_of K.t_law26_SwapsStarts rfl ?_
  have lo := light_ok li
  by_cases c : li.length ≤ 400
  · simp only [c, decide_true] at lo
    by_cases c10 : ss.length > 10
    · simp (disch := omega) only [go_sem, K.law26_SwapsStarts, ↓reduceIte, lo, c10, aw, Nat.reduceAdd, Nat.reduceSub]
    · have ro := roll_x li
      have d0 : (Dice.mk li 0).light := c
      generalize (Dice.mk li 0) = d at *
      obtain ⟨m, e1, mo, l1, hm, p1, p2, r1, r2⟩ := mine_x d0
      have r0 := (hm.rs _ (nth_mem (l := m.roads) (j := 0) (by omega))).f0
      have va0 := plan0_no m.roads (by omega) (by omega) r0
      have ck0 := check0_bad m.roads (by omega) (by omega) r0
      have nm := mod_ok t 500 (by omega)
      have sme := same26_ok ⟨[]⟩ ⟨by simp, fun x hx => by simp at hx⟩ 6
      simp only [Bel.e, List.map_nil] at sme
      obtain ⟨n, e2, nx, l2, n1, n2⟩ := next_x l1 14 (by omega) (by omega)
      obtain ⟨n, rfl⟩ := Int.eq_ofNat_of_zero_le n1
      by_cases c1 : ss.length > 1
      · obtain ⟨a, b, r, rfl⟩ : ∃ a b r, ss = a :: b :: r := by
          match ss, c1 with
          | a :: b :: r, _ => exact ⟨a, b, r, rfl⟩
        have ex0 : ((a :: b :: r).map tL)[0]? = some (tL a) := rfl
        have ex1 : ((a :: b :: r).map tL)[1]? = some (tL b) := rfl
        generalize hss : a :: b :: r = q at *
        by_cases ca : a.length > 20
        · simp (disch := omega) only [go_sem, K.law26_SwapsStarts, ↓reduceIte, lo, c10, c1, aw, ex0, ex1, ca, Nat.reduceAdd, Nat.reduceSub]
        · by_cases cb : b.length > 20
          · simp (disch := omega) only [go_sem, K.law26_SwapsStarts, ↓reduceIte, lo, c10, c1, aw, ex0, ex1, ca, cb, Nat.reduceAdd, Nat.reduceSub]
          · have s1 := sStart_ok hm (by omega) a b (by omega) t
            have s2 := startBel_ok hm a b (by omega) t
            have sm := same26_ok _ (startBel_sz hm a b t) (startBel m a b t).2
            generalize startBel m a b t = b1 at *
            obtain ⟨⟨ws⟩, ea⟩ := b1
            obtain ⟨e3, tg, st, l3, q1, q2, lp⟩ := ss_loop l2 m (by omega) t ea ws n (by omega)
            obtain ⟨f, e4, on, l4⟩ := one_x l3 4 (by omega) (by omega)
            have t1 := sStart_ok hm (by omega) tg st (by omega) (Mod t 500)
            have t2 := startBel_ok hm tg st (by omega) (Mod t 500)
            have tm := same26_ok _ (startBel_sz hm tg st (Mod t 500)) (startBel m tg st (Mod t 500)).2
            have u1 := sStart_bad va0 tg st (Mod t 500)
            have u2 := rStart_bad ck0 tg st (Mod t 500)
            generalize startBel m tg st (Mod t 500) = b2 at *
            obtain ⟨⟨ws2⟩, eb⟩ := b2
            obtain ⟨places, roads⟩ := m
            simp only [mineCells, Mine.e, ssV, ssG, List.map_nil] at *
            cases f with
            | true => simp (disch := omega) only [go_sem, K.law26_SwapsStarts, ↓reduceIte, lo, c10, c1, aw, ex0, ex1, ca, cb, ro, mo, s1, s2, sm, nx, lp, on, nm, u1, u2, sme, Nat.reduceAdd, Nat.reduceSub]
            | false => simp (disch := omega) only [go_sem, K.law26_SwapsStarts, ↓reduceIte, lo, c10, c1, aw, ex0, ex1, ca, cb, ro, mo, s1, s2, sm, nx, lp, on, nm, t1, t2, tm, Bool.false_eq_true, Nat.reduceAdd, Nat.reduceSub]
      · have s1 := sStart_ok hm (by omega) [] [] (by simp) t
        have s2 := startBel_ok hm [] [] (by simp) t
        have sm := same26_ok _ (startBel_sz hm [] [] t) (startBel m [] [] t).2
        generalize startBel m [] [] t = b1 at *
        obtain ⟨⟨ws⟩, ea⟩ := b1
        obtain ⟨e3, tg, st, l3, q1, q2, lp⟩ := ss_loop l2 m (by omega) t ea ws n (by omega)
        obtain ⟨f, e4, on, l4⟩ := one_x l3 4 (by omega) (by omega)
        have t1 := sStart_ok hm (by omega) tg st (by omega) (Mod t 500)
        have t2 := startBel_ok hm tg st (by omega) (Mod t 500)
        have tm := same26_ok _ (startBel_sz hm tg st (Mod t 500)) (startBel m tg st (Mod t 500)).2
        have u1 := sStart_bad va0 tg st (Mod t 500)
        have u2 := rStart_bad ck0 tg st (Mod t 500)
        generalize startBel m tg st (Mod t 500) = b2 at *
        obtain ⟨⟨ws2⟩, eb⟩ := b2
        obtain ⟨places, roads⟩ := m
        simp only [mineCells, Mine.e, ssV, ssG, tL, List.map_nil] at *
        cases f with
        | true => simp (disch := omega) only [go_sem, K.law26_SwapsStarts, ↓reduceIte, lo, c10, c1, aw, ro, mo, s1, s2, sm, nx, lp, on, nm, u1, u2, sme, Nat.reduceAdd, Nat.reduceSub]
        | false => simp (disch := omega) only [go_sem, K.law26_SwapsStarts, ↓reduceIte, lo, c10, c1, aw, ro, mo, s1, s2, sm, nx, lp, on, nm, t1, t2, tm, Bool.false_eq_true, Nat.reduceAdd, Nat.reduceSub]
  · simp only [c, decide_false] at lo
    simp (disch := omega) only [go_sem, K.law26_SwapsStarts, ↓reduceIte, lo, aw, Nat.reduceAdd, Nat.reduceSub]
end Go.Ev

