/- CoreQueries: each terminal is asked what it counts when the switch begins, when its power is back, and at each so-manieth tick; true for every k and ticks. Part Cc of the proof. Condition: the listed package variables hold what the program's text lays. -/
import Derived.Test.YtncpkgjihijjhaaGreatDoorSc
import Derived.Test.YtncpkgjihijjhaaGreatDoorCb
import Derived.Test.YtncpkgjihijjhaaGreatDoorSp
set_option linter.unusedVariables false
set_option linter.unusedSimpArgs false
noncomputable section
/- The program's functions, as the evaluator runs them: part 2. -/
set_option maxRecDepth 100000
namespace Go.Sx
/-- (*guichet/journal.Log).Add -/
def b223 : AFunc := ⟨67, [.tmp 4],
 .seq (.reg [rr 4 (.mov (ci 0))])
 (.seq (.reg [mv 9 1,
 cl 10 281 [.t 9],
 mv 8 10,
 rr 11 (.ext (.t 8) 0),
 rr 12 (.ext (.t 8) 1),
 mv 5 11,
 mv 6 12])
 (.seq (.block 0 (.seq (.reg [mv 14 6,
 rr 15 (.cmp .neq (.t 14) (ci 0)),
 mv 13 15])
 (.cond (.t 13) (.seq (.reg [mv 16 6,
 mv 4 16])
 (.ret))
 (.seq (.reg [mv 18 1,
 rr 19 (.len 1 (.t 18)),
 rr 20 (.cmp .eql (.t 19) (ci 0)),
 mv 17 20])
 (.cond (.t 17) (.seq (.reg [rr 4 (.mov (ci 0))])
 (.ret))
 (.seq (.dreg [⟨0, mv 22 5, false, []⟩,
 ⟨2, mv 24 0, false, []⟩,
 ⟨3, rr 25 (.nilchk (.t 24)), false, []⟩,
 ⟨4, rr 26 (.fld 1 (.t 25)), false, []⟩,
 ⟨5, rr 27 (.load1 (.t 26)), false, []⟩,
 ⟨6, mv 28 0, false, []⟩,
 ⟨7, rr 29 (.nilchk (.t 28)), false, []⟩,
 ⟨8, rr 30 (.fld 3 (.t 29)), false, []⟩,
 ⟨9, rr 31 (.load1 (.t 30)), false, []⟩,
 ⟨10, rr 32 (.arith .sub (.t 27) (.t 31)), false, []⟩,
 ⟨1, cl 23 282 [.t 22], true, [0]⟩,
 ⟨11, rr 33 (.cmp .gtr (.t 23) (.t 32)), false, []⟩,
 ⟨12, mv 21 33, false, []⟩])
 (.cond (.t 21) (.seq (.reg [rr 4 (.mov (ci 21))])
 (.ret))
 (.skip))))))))
 (.seq (.seq (.dreg [⟨0, mv 34 0, false, []⟩,
 ⟨1, mv 35 0, false, []⟩,
 ⟨2, rr 36 (.nilchk (.t 35)), false, []⟩,
 ⟨3, rr 37 (.fld 2 (.t 36)), false, []⟩,
 ⟨4, rr 38 (.load1 (.t 37)), false, []⟩,
 ⟨5, mv 39 0, false, []⟩,
 ⟨6, rr 40 (.nilchk (.t 39)), false, []⟩,
 ⟨7, rr 41 (.fld 3 (.t 40)), false, []⟩,
 ⟨8, rr 42 (.load1 (.t 41)), false, []⟩,
 ⟨9, rr 43 (.arith .add (.t 38) (.t 42)), false, []⟩,
 ⟨10, mv 44 5, false, []⟩,
 ⟨11, cl 45 283 [.t 34, .t 43, .t 44], true, [10, 9, 8, 7, 6, 5, 4, 3, 2, 1, 0]⟩,
 ⟨12, mv 7 45, false, []⟩])
 (.seq (.reg [mv 46 7,
 rr 47 (.cmp .neq (.t 46) (ci 0))])
 (.cond (.t 47) (.seq (.reg [mv 48 7,
 mv 4 48])
 (.ret))
 (.skip))))
 (.seq (.dreg [⟨0, mv 49 0, false, []⟩,
 ⟨1, rr 50 (.nilchk (.t 49)), false, []⟩,
 ⟨2, rr 51 (.fld 3 (.t 50)), false, []⟩,
 ⟨3, rr 52 (.load1 (.t 51)), false, []⟩,
 ⟨4, mv 53 5, false, []⟩,
 ⟨5, cl 54 282 [.t 53], true, [4]⟩,
 ⟨6, rr 55 (.arith .add (.t 52) (.t 54)), false, []⟩,
 ⟨7, rr 56 (.nilchk (.t 49)), false, []⟩,
 ⟨8, rr 57 (.fld 3 (.t 56)), false, []⟩,
 ⟨9, ff (.store1 (.t 57) (.t 55)), true, [8, 7, 6, 5, 4, 3, 2, 1, 0]⟩])
 (.seq (.reg [mv 58 0,
 mv 59 0,
 rr 60 (.nilchk (.t 59)),
 rr 61 (.fld 5 (.t 60)),
 rr 62 (.load1 (.t 61)),
 mv 63 1,
 ee 64 (.append .rcd (.t 62) (.t 63)),
 rr 65 (.nilchk (.t 58)),
 rr 66 (.fld 5 (.t 65)),
 ff (.store1 (.t 66) (.t 64))])
 (.seq (.reg [rr 4 (.mov (ci 0))])
 (.ret)))))))⟩
/-- guichet/guichetref1.Reply -/
def b226 : AFunc := ⟨12, [.tmp 2, .tmp 3],
 .seq (.reg [rr 2 (.mov (ci 0)),
 rr 3 (.mov (.c (.bool false)))])
 (.seq (.seq (.reg [mv 4 0])
 (.block 0 (.seq (.seq (.reg [rr 6 (.cmp .eql (.t 4) (ci 100)),
 mv 5 6])
 (.cond (.t 5) (.skip)
 (.seq (.reg [rr 7 (.cmp .eql (.t 4) (ci 200)),
 mv 5 7])
 (.cond (.t 5) (.skip)
 (.seq (.reg [rr 8 (.cmp .eql (.t 4) (ci 420)),
 mv 5 8])
 (.cond (.t 5) (.skip)
 (.reg [rr 9 (.cmp .eql (.t 4) (ci 800)),
 mv 5 9])))))))
 (.cond (.t 5) (.seq (.reg [mv 10 0,
 rr 11 (.arith .add (.t 10) (ci 10)),
 mv 2 11,
 rr 3 (.mov (.c (.bool true)))])
 (.ret))
 (.skip)))))
 (.seq (.reg [rr 2 (.mov (ci 0)),
 rr 3 (.mov (.c (.bool false)))])
 (.ret)))⟩
/-- guichet/guichetref1.Right -/
def b227 : AFunc := ⟨64, [.tmp 4],
 .seq (.reg [rr 4 (.mov (.c (.bool false)))])
 (.seq (.reg [mv 9 0,
 cl 10 228 [.t 9],
 mv 8 10,
 rr 11 (.ext (.t 8) 0),
 rr 12 (.ext (.t 8) 1),
 nn 5 (.zbox [(.bool false), (.int .i64 0), (.int .i64 0)]),
 ff (.storeN 3 (.t 5) (.t 11)),
 mv 6 12])
 (.seq (.seq (.reg [mv 13 6,
 rr 14 (.not (.t 13)),
 mv 15 14,
 gr 16 (.fld 2 (.t 5)) 15 false,
 gr 17 (.load1 (.t 16)) 15 false,
 gr 18 (.cmp .eql (.t 17) (ci 0)) 15 false,
 gr 19 (.mov (.t 18)) 15 false,
 gr 20 (.mov (.t 1)) 19 true,
 gr 21 (.len 0 (.t 20)) 19 true,
 gr 22 (.fld 1 (.t 5)) 19 true,
 gr 23 (.load1 (.t 22)) 19 true,
 gr 24 (.cmp .neq (.t 21) (.t 23)) 19 true,
 gr 25 (.pick (.t 19) (.t 24) (.c (.bool false))) 15 false,
 rr 26 (.pick (.t 15) (.c (.bool true)) (.t 25)),
 mv 27 26,
 gr 28 (.fld 2 (.t 5)) 27 false,
 gr 29 (.load1 (.t 28)) 27 false,
 gr 30 (.cmp .gtr (.t 29) (ci 0)) 27 false,
 gr 31 (.mov (.t 30)) 27 false,
 gr 32 (.mov (.t 1)) 31 true,
 gr 33 (.len 0 (.t 32)) 31 true,
 gr 34 (.cmp .lss (.t 33) (ci 1)) 31 true,
 gr 35 (.mov (.t 34)) 31 true,
 gr 36 (.mov (.t 1)) 35 false,
 gr 37 (.len 0 (.t 36)) 35 false,
 gr 38 (.fld 1 (.t 5)) 35 false,
 gr 39 (.load1 (.t 38)) 35 false,
 gr 40 (.cmp .gtr (.t 37) (.t 39)) 35 false,
 gr 41 (.pick (.t 35) (.c (.bool true)) (.t 40)) 31 true,
 gr 42 (.pick (.t 31) (.t 41) (.c (.bool false))) 27 false,
 rr 43 (.pick (.t 27) (.c (.bool true)) (.t 42))])
 (.cond (.t 43) (.seq (.reg [rr 4 (.mov (.c (.bool false)))])
 (.ret))
 (.skip)))
 (.seq (.seq (.reg [rr 44 (.fld 0 (.t 5)),
 rr 45 (.load1 (.t 44))])
 (.cond (.t 45) (.seq (.reg [mv 46 1,
 cl 47 60 [.t 46],
 mv 4 47])
 (.ret))
 (.skip)))
 (.seq (.seq (.reg [rr 7 (.mov (ci 0))])
 (.block 0 (.loop [] (.seq (.seq (.reg [mv 48 7,
 mv 49 1,
 rr 50 (.len 0 (.t 49)),
 rr 51 (.cmp .lss (.t 48) (.t 50))])
 (.cond (.t 51) (.skip)
 (.exit 0)))
 (.seq (.block 1 (.seq (.reg [mv 54 1,
 mv 55 7,
 rr 56 (.strAt (.t 54) (.t 55)),
 rr 57 (.cmp .lss (.t 56) (.c (.int .u8 32))),
 mv 58 57,
 gr 59 (.mov (.t 1)) 58 false,
 gr 60 (.mov (.t 7)) 58 false,
 gr 61 (.strAt (.t 59) (.t 60)) 58 false,
 gr 62 (.cmp .gtr (.t 61) (.c (.int .u8 126))) 58 false,
 rr 63 (.pick (.t 58) (.c (.bool true)) (.t 62))])
 (.cond (.t 63) (.seq (.reg [rr 4 (.mov (.c (.bool false)))])
 (.ret))
 (.skip))))
 (.reg [mv 52 7,
 rr 53 (.arith .add (.t 52) (ci 1)),
 mv 7 53]))))))
 (.seq (.reg [rr 4 (.mov (.c (.bool true)))])
 (.ret))))))⟩
/-- guichet/guichetref1.Of -/
def b228 : AFunc := ⟨54, [.cellN 2 3, .tmp 3],
 .seq (.reg [nn 2 (.zbox [(.bool false), (.int .i64 0), (.int .i64 0)]),
 rr 3 (.mov (.c (.bool false)))])
 (.seq (.seq (.reg [mv 4 0])
 (.block 0 (.seq (.reg [rr 6 (.cmp .eql (.t 4) (ci 2)),
 mv 5 6])
 (.cond (.t 5) (.seq (.reg [rr 7 (.build [(.bool false), (.int .i64 0), (.int .i64 0)] [(0, (1, (.c (.bool true)))), (1, (1, (ci 19))), (2, (1, (ci 2)))]),
 ff (.storeN 3 (.t 2) (.t 7)),
 rr 3 (.mov (.c (.bool true)))])
 (.ret))
 (.seq (.seq (.reg [rr 9 (.cmp .eql (.t 4) (ci 3)),
 mv 8 9])
 (.cond (.t 8) (.skip)
 (.seq (.reg [rr 10 (.cmp .eql (.t 4) (ci 11)),
 mv 8 10])
 (.cond (.t 8) (.skip)
 (.reg [rr 11 (.cmp .eql (.t 4) (ci 12)),
 mv 8 11])))))
 (.cond (.t 8) (.seq (.reg [rr 12 (.build [(.bool false), (.int .i64 0), (.int .i64 0)] [(0, (1, (.c (.bool true)))), (1, (1, (ci 6))), (2, (1, (ci 0)))]),
 ff (.storeN 3 (.t 2) (.t 12)),
 rr 3 (.mov (.c (.bool true)))])
 (.ret))
 (.seq (.reg [rr 14 (.cmp .eql (.t 4) (ci 4)),
 mv 13 14])
 (.cond (.t 13) (.seq (.reg [rr 15 (.build [(.bool false), (.int .i64 0), (.int .i64 0)] [(0, (1, (.c (.bool true)))), (1, (1, (ci 12))), (2, (1, (ci 0)))]),
 ff (.storeN 3 (.t 2) (.t 15)),
 rr 3 (.mov (.c (.bool true)))])
 (.ret))
 (.seq (.reg [rr 17 (.cmp .eql (.t 4) (ci 7)),
 mv 16 17])
 (.cond (.t 16) (.seq (.reg [rr 18 (.build [(.bool false), (.int .i64 0), (.int .i64 0)] [(0, (1, (.c (.bool true)))), (1, (1, (ci 10))), (2, (1, (ci 0)))]),
 ff (.storeN 3 (.t 2) (.t 18)),
 rr 3 (.mov (.c (.bool true)))])
 (.ret))
 (.seq (.reg [rr 20 (.cmp .eql (.t 4) (ci 13)),
 mv 19 20])
 (.cond (.t 19) (.seq (.reg [rr 21 (.build [(.bool false), (.int .i64 0), (.int .i64 0)] [(0, (1, (.c (.bool true)))), (1, (1, (ci 4))), (2, (1, (ci 0)))]),
 ff (.storeN 3 (.t 2) (.t 21)),
 rr 3 (.mov (.c (.bool true)))])
 (.ret))
 (.seq (.seq (.reg [rr 23 (.cmp .eql (.t 4) (ci 49)),
 mv 22 23])
 (.cond (.t 22) (.skip)
 (.reg [rr 24 (.cmp .eql (.t 4) (ci 70)),
 mv 22 24])))
 (.cond (.t 22) (.seq (.reg [rr 25 (.build [(.bool false), (.int .i64 0), (.int .i64 0)] [(0, (1, (.c (.bool true)))), (1, (1, (ci 3))), (2, (1, (ci 0)))]),
 ff (.storeN 3 (.t 2) (.t 25)),
 rr 3 (.mov (.c (.bool true)))])
 (.ret))
 (.seq (.reg [rr 27 (.cmp .eql (.t 4) (ci 90)),
 mv 26 27])
 (.cond (.t 26) (.seq (.reg [rr 28 (.build [(.bool false), (.int .i64 0), (.int .i64 0)] [(0, (1, (.c (.bool true)))), (1, (1, (ci 42))), (2, (1, (ci 0)))]),
 ff (.storeN 3 (.t 2) (.t 28)),
 rr 3 (.mov (.c (.bool true)))])
 (.ret))
 (.seq (.reg [rr 30 (.cmp .eql (.t 4) (ci 37)),
 mv 29 30])
 (.cond (.t 29) (.seq (.reg [rr 31 (.build [(.bool false), (.int .i64 0), (.int .i64 0)] [(0, (1, (.c (.bool false)))), (1, (1, (ci 12))), (2, (1, (ci 0)))]),
 ff (.storeN 3 (.t 2) (.t 31)),
 rr 3 (.mov (.c (.bool true)))])
 (.ret))
 (.seq (.reg [rr 33 (.cmp .eql (.t 4) (ci 38)),
 mv 32 33])
 (.cond (.t 32) (.seq (.reg [rr 34 (.build [(.bool false), (.int .i64 0), (.int .i64 0)] [(0, (1, (.c (.bool false)))), (1, (1, (ci 6))), (2, (1, (ci 0)))]),
 ff (.storeN 3 (.t 2) (.t 34)),
 rr 3 (.mov (.c (.bool true)))])
 (.ret))
 (.seq (.reg [rr 36 (.cmp .eql (.t 4) (ci 39)),
 mv 35 36])
 (.cond (.t 35) (.seq (.reg [rr 37 (.build [(.bool false), (.int .i64 0), (.int .i64 0)] [(0, (1, (.c (.bool false)))), (1, (1, (ci 2))), (2, (1, (ci 0)))]),
 ff (.storeN 3 (.t 2) (.t 37)),
 rr 3 (.mov (.c (.bool true)))])
 (.ret))
 (.seq (.reg [rr 39 (.cmp .eql (.t 4) (ci 41)),
 mv 38 39])
 (.cond (.t 38) (.seq (.reg [rr 40 (.build [(.bool false), (.int .i64 0), (.int .i64 0)] [(0, (1, (.c (.bool false)))), (1, (1, (ci 8))), (2, (1, (ci 0)))]),
 ff (.storeN 3 (.t 2) (.t 40)),
 rr 3 (.mov (.c (.bool true)))])
 (.ret))
 (.seq (.reg [rr 42 (.cmp .eql (.t 4) (ci 42)),
 mv 41 42])
 (.cond (.t 41) (.seq (.reg [rr 43 (.build [(.bool false), (.int .i64 0), (.int .i64 0)] [(0, (1, (.c (.bool false)))), (1, (1, (ci 15))), (2, (1, (ci 0)))]),
 ff (.storeN 3 (.t 2) (.t 43)),
 rr 3 (.mov (.c (.bool true)))])
 (.ret))
 (.seq (.reg [rr 45 (.cmp .eql (.t 4) (ci 54)),
 mv 44 45])
 (.cond (.t 44) (.seq (.reg [rr 46 (.build [(.bool false), (.int .i64 0), (.int .i64 0)] [(0, (1, (.c (.bool false)))), (1, (1, (ci 120))), (2, (1, (ci 3)))]),
 ff (.storeN 3 (.t 2) (.t 46)),
 rr 3 (.mov (.c (.bool true)))])
 (.ret))
 (.seq (.reg [rr 48 (.cmp .eql (.t 4) (ci 60)),
 mv 47 48])
 (.cond (.t 47) (.seq (.reg [rr 49 (.build [(.bool false), (.int .i64 0), (.int .i64 0)] [(0, (1, (.c (.bool false)))), (1, (1, (ci 999))), (2, (1, (ci 3)))]),
 ff (.storeN 3 (.t 2) (.t 49)),
 rr 3 (.mov (.c (.bool true)))])
 (.ret))
 (.seq (.reg [rr 51 (.cmp .eql (.t 4) (ci 95)),
 mv 50 51])
 (.cond (.t 50) (.seq (.reg [rr 52 (.build [(.bool false), (.int .i64 0), (.int .i64 0)] [(0, (1, (.c (.bool false)))), (1, (1, (ci 42))), (2, (1, (ci 0)))]),
 ff (.storeN 3 (.t 2) (.t 52)),
 rr 3 (.mov (.c (.bool true)))])
 (.ret))
 (.skip)))))))))))))))))))))))))))))))))
 (.seq (.reg [rr 53 (.build [(.bool false), (.int .i64 0), (.int .i64 0)] []),
 ff (.storeN 3 (.t 2) (.t 53)),
 rr 3 (.mov (.c (.bool false)))])
 (.ret)))⟩
/-- guichet/guichetref1.MapHas -/
def b229 : AFunc := ⟨34, [.tmp 4],
 .seq (.reg [rr 4 (.mov (.c (.bool false)))])
 (.seq (.reg [mv 5 1,
 rr 6 (.cmp .geq (.t 5) (ci 1)),
 mv 7 6,
 gr 8 (.mov (.t 1)) 7 true,
 gr 9 (.cmp .leq (.t 8) (ci 128)) 7 true,
 rr 10 (.pick (.t 7) (.t 9) (.c (.bool false))),
 mv 11 10,
 gr 12 (.mov (.t 1)) 11 true,
 gr 13 (.arith .sub (.t 12) (ci 1)) 11 true,
 gr 14 (.arith .quo (.t 13) (ci 8)) 11 true,
 gr 15 (.mov (.t 0)) 11 true,
 gr 16 (.len 1 (.t 15)) 11 true,
 gr 17 (.cmp .lss (.t 14) (.t 16)) 11 true,
 rr 18 (.pick (.t 11) (.t 17) (.c (.bool false))),
 mv 19 18,
 gr 20 (.mov (.t 0)) 19 true,
 gr 21 (.mov (.t 1)) 19 true,
 gr 22 (.arith .sub (.t 21) (ci 1)) 19 true,
 gr 23 (.arith .quo (.t 22) (ci 8)) 19 true,
 gr 24 (.idxS 1 (.t 20) (.t 23)) 19 true,
 gr 25 (.load1 (.t 24)) 19 true,
 gr 26 (.mov (.t 1)) 19 true,
 gr 27 (.arith .sub (.t 26) (ci 1)) 19 true,
 gr 28 (.arith .rem (.t 27) (ci 8)) 19 true,
 gr 29 (.arith .sub (ci 7) (.t 28)) 19 true,
 gr 30 (.arith .shr (.t 25) (.t 29)) 19 true,
 gr 31 (.arith .and (.t 30) (.c (.int .u8 1))) 19 true,
 gr 32 (.cmp .eql (.t 31) (.c (.int .u8 1))) 19 true,
 rr 33 (.pick (.t 19) (.t 32) (.c (.bool false))),
 mv 4 33])
 (.ret))⟩
/-- slices.insertionSortCmpFunc[guichet/api.Key] -/
def b230 : AFunc := ⟨53, [],
 .seq (.reg [mv 10 1,
 rr 11 (.arith .add (.t 10) (ci 1)),
 mv 8 11])
 (.block 0 (.loop [] (.seq (.seq (.reg [mv 12 8,
 mv 13 2,
 rr 14 (.cmp .lss (.t 12) (.t 13))])
 (.cond (.t 14) (.skip)
 (.exit 0)))
 (.seq (.block 1 (.seq (.reg [mv 17 8,
 mv 9 17])
 (.block 2 (.loop [] (.seq (.seq (.dreg [⟨0, mv 18 9, false, []⟩,
 ⟨1, mv 19 1, false, []⟩,
 ⟨2, rr 20 (.cmp .gtr (.t 18) (.t 19)), false, []⟩,
 ⟨3, mv 21 20, false, []⟩,
 ⟨4, gr 22 (.mov (.t 3)) 21 true, false, []⟩,
 ⟨5, gr 23 (.mov (.t 0)) 21 true, false, []⟩,
 ⟨6, gr 24 (.mov (.t 9)) 21 true, false, []⟩,
 ⟨7, gr 25 (.idxS 2 (.t 23) (.t 24)) 21 true, false, []⟩,
 ⟨8, gr 26 (.loadN 2 (.t 25)) 21 true, false, []⟩,
 ⟨9, gr 27 (.mov (.t 0)) 21 true, false, []⟩,
 ⟨10, gr 28 (.mov (.t 9)) 21 true, false, []⟩,
 ⟨11, gr 29 (.arith .sub (.t 28) (ci 1)) 21 true, false, []⟩,
 ⟨12, gr 30 (.idxS 2 (.t 27) (.t 29)) 21 true, false, []⟩,
 ⟨13, gr 31 (.loadN 2 (.t 30)) 21 true, false, []⟩,
 ⟨14, ⟨(some 32), .e (.call (.t 22) [.t 26, .t 31]), (some (21, true))⟩, true, [13, 12, 11, 10, 9, 8, 7, 6, 5, 4, 3, 2, 1, 0]⟩,
 ⟨15, gr 33 (.cmp .lss (.t 32) (ci 0)) 21 true, false, []⟩,
 ⟨16, rr 34 (.pick (.t 21) (.t 33) (.c (.bool false))), false, []⟩])
 (.cond (.t 34) (.skip)
 (.exit 2)))
 (.seq (.block 3 (.dreg [⟨0, mv 37 0, false, []⟩,
 ⟨1, mv 38 9, false, []⟩,
 ⟨2, mv 39 0, false, []⟩,
 ⟨3, mv 40 9, false, []⟩,
 ⟨4, rr 41 (.arith .sub (.t 40) (ci 1)), false, []⟩,
 ⟨5, mv 42 0, false, []⟩,
 ⟨6, mv 43 9, false, []⟩,
 ⟨7, rr 44 (.arith .sub (.t 43) (ci 1)), false, []⟩,
 ⟨8, rr 45 (.idxS 2 (.t 42) (.t 44)), false, []⟩,
 ⟨9, rr 46 (.loadN 2 (.t 45)), false, []⟩,
 ⟨10, mv 47 0, false, []⟩,
 ⟨11, mv 48 9, false, []⟩,
 ⟨12, rr 49 (.idxS 2 (.t 47) (.t 48)), false, []⟩,
 ⟨13, rr 50 (.loadN 2 (.t 49)), false, []⟩,
 ⟨14, rr 51 (.idxS 2 (.t 37) (.t 38)), false, []⟩,
 ⟨15, ff (.storeN 2 (.t 51) (.t 46)), true, [14, 13, 12, 11, 10, 9, 8, 7, 6, 5, 1, 0]⟩,
 ⟨16, rr 52 (.idxS 2 (.t 39) (.t 41)), false, []⟩,
 ⟨17, ff (.storeN 2 (.t 52) (.t 50)), true, [16, 15, 14, 13, 12, 11, 10, 9, 8, 7, 6, 5, 4, 3, 2, 1, 0]⟩]))
 (.reg [mv 35 9,
 rr 36 (.arith .sub (.t 35) (ci 1)),
 mv 9 36])))))))
 (.reg [mv 15 8,
 rr 16 (.arith .add (.t 15) (ci 1)),
 mv 8 16])))))⟩
/-- math/bits.Len64 -/
def b239 : AFunc := ⟨25, [.tmp 2],
 .seq (.reg [rr 2 (.mov (ci 0))])
 (.seq (.seq (.reg [mv 3 0,
 rr 4 (.cmp .geq (.t 3) (.c (.int .u64 4294967296)))])
 (.cond (.t 4) (.seq (.reg [mv 5 0,
 rr 6 (.arith .shr (.t 5) (.c (.int .u64 32))),
 mv 0 6])
 (.reg [rr 2 (.mov (ci 32))]))
 (.skip)))
 (.seq (.seq (.reg [mv 7 0,
 rr 8 (.cmp .geq (.t 7) (.c (.int .u64 65536)))])
 (.cond (.t 8) (.seq (.reg [mv 9 0,
 rr 10 (.arith .shr (.t 9) (.c (.int .u64 16))),
 mv 0 10])
 (.reg [mv 11 2,
 rr 12 (.arith .add (.t 11) (ci 16)),
 mv 2 12]))
 (.skip)))
 (.seq (.seq (.reg [mv 13 0,
 rr 14 (.cmp .geq (.t 13) (.c (.int .u64 256)))])
 (.cond (.t 14) (.seq (.reg [mv 15 0,
 rr 16 (.arith .shr (.t 15) (.c (.int .u64 8))),
 mv 0 16])
 (.reg [mv 17 2,
 rr 18 (.arith .add (.t 17) (ci 8)),
 mv 2 18]))
 (.skip)))
 (.seq (.reg [mv 19 2,
 mv 20 0,
 rr 21 (.toInt .u8 (.t 20)),
 rr 22 (.strAt (.c (.str [0, 1, 2, 2, 3, 3, 3, 3, 4, 4, 4, 4, 4, 4, 4, 4, 5, 5, 5, 5, 5, 5, 5, 5, 5, 5, 5, 5, 5, 5, 5, 5, 6, 6, 6, 6, 6, 6, 6, 6, 6, 6, 6, 6, 6, 6, 6, 6, 6, 6, 6, 6, 6, 6, 6, 6, 6, 6, 6, 6, 6, 6, 6, 6, 7, 7, 7, 7, 7, 7, 7, 7, 7, 7, 7, 7, 7, 7, 7, 7, 7, 7, 7, 7, 7, 7, 7, 7, 7, 7, 7, 7, 7, 7, 7, 7, 7, 7, 7, 7, 7, 7, 7, 7, 7, 7, 7, 7, 7, 7, 7, 7, 7, 7, 7, 7, 7, 7, 7, 7, 7, 7, 7, 7, 7, 7, 7, 7, 8, 8, 8, 8, 8, 8, 8, 8, 8, 8, 8, 8, 8, 8, 8, 8, 8, 8, 8, 8, 8, 8, 8, 8, 8, 8, 8, 8, 8, 8, 8, 8, 8, 8, 8, 8, 8, 8, 8, 8, 8, 8, 8, 8, 8, 8, 8, 8, 8, 8, 8, 8, 8, 8, 8, 8, 8, 8, 8, 8, 8, 8, 8, 8, 8, 8, 8, 8, 8, 8, 8, 8, 8, 8, 8, 8, 8, 8, 8, 8, 8, 8, 8, 8, 8, 8, 8, 8, 8, 8, 8, 8, 8, 8, 8, 8, 8, 8, 8, 8, 8, 8, 8, 8, 8, 8, 8, 8, 8, 8, 8, 8, 8, 8, 8, 8, 8, 8, 8, 8, 8, 8, 8, 8, 8, 8, 8, 8])) (.t 21)),
 rr 23 (.toInt .i64 (.t 22)),
 rr 24 (.arith .add (.t 19) (.t 23)),
 mv 2 24])
 (.ret)))))⟩
/-- guichet/txn.Right -/
def b243 : AFunc := ⟨90, [.tmp 2],
 .seq (.reg [nn 1 (.box (.t 0)),
 rr 2 (.mov (.c (.bool false)))])
 (.seq (.seq (.reg [rr 3 (.fld 4 (.t 1)),
 rr 4 (.load1 (.t 3)),
 rr 5 (.cmp .eql (.t 4) (ci 0))])
 (.cond (.t 5) (.seq (.reg [rr 6 (.loadN 11 (.t 1)),
 rr 7 (.build [(.int .u16 0), (.int .u32 0), (.str []), (.int .i64 0), (.int .i64 0), (.int .i64 0), (.int .i64 0), (.int .i64 0), (.int .i64 0), (.int .i64 0), (.int .i64 0)] []),
 rr 8 (.eqA [.i .u16, .i .u32, .s, .i .i64, .i .i64, .i .i64, .i .i64, .i .i64, .i .i64, .i .i64, .i .i64] false (.t 6) (.t 7)),
 mv 2 8])
 (.ret))
 (.skip)))
 (.seq (.seq (.reg [rr 9 (.fld 2 (.t 1)),
 rr 10 (.load1 (.t 9)),
 rr 11 (.len 0 (.t 10)),
 rr 12 (.cmp .lss (.t 11) (ci 1)),
 mv 13 12,
 gr 14 (.fld 2 (.t 1)) 13 false,
 gr 15 (.load1 (.t 14)) 13 false,
 gr 16 (.len 0 (.t 15)) 13 false,
 gr 17 (.cmp .gtr (.t 16) (ci 19)) 13 false,
 rr 18 (.pick (.t 13) (.c (.bool true)) (.t 17)),
 mv 19 18,
 gr 20 (.fld 2 (.t 1)) 19 false,
 gr 21 (.load1 (.t 20)) 19 false,
 ⟨(some 22), .e (.call (.c (.fn (.func 132) [] [])) [.t 21]), (some (19, false))⟩,
 gr 23 (.not (.t 22)) 19 false,
 rr 24 (.pick (.t 19) (.c (.bool true)) (.t 23)),
 mv 25 24,
 gr 26 (.fld 3 (.t 1)) 25 false,
 gr 27 (.load1 (.t 26)) 25 false,
 gr 28 (.cmp .lss (.t 27) (ci 1)) 25 false,
 rr 29 (.pick (.t 25) (.c (.bool true)) (.t 28)),
 mv 30 29,
 gr 31 (.fld 3 (.t 1)) 30 false,
 gr 32 (.load1 (.t 31)) 30 false,
 gr 33 (.cmp .gtr (.t 32) (ci 1000000)) 30 false,
 rr 34 (.pick (.t 30) (.c (.bool true)) (.t 33)),
 mv 35 34,
 gr 36 (.fld 5 (.t 1)) 35 false,
 gr 37 (.loadN 4 (.t 36)) 35 false,
 ⟨(some 38), .e (.call (.c (.fn (.func 296) [] [])) [.t 37]), (some (35, false))⟩,
 gr 39 (.not (.t 38)) 35 false,
 rr 40 (.pick (.t 35) (.c (.bool true)) (.t 39))])
 (.cond (.t 40) (.seq (.reg [rr 2 (.mov (.c (.bool false)))])
 (.ret))
 (.skip)))
 (.seq (.seq (.reg [rr 41 (.fld 4 (.t 1)),
 rr 42 (.load1 (.t 41))])
 (.block 0 (.seq (.seq (.reg [rr 44 (.cmp .eql (.t 42) (ci 1)),
 mv 43 44])
 (.cond (.t 43) (.skip)
 (.seq (.reg [rr 45 (.cmp .eql (.t 42) (ci 2)),
 mv 43 45])
 (.cond (.t 43) (.skip)
 (.reg [rr 46 (.cmp .eql (.t 42) (ci 6)),
 mv 43 46])))))
 (.cond (.t 43) (.seq (.reg [rr 47 (.fld 5 (.t 1)),
 rr 48 (.loadN 4 (.t 47)),
 cl 49 297 [.t 48],
 mv 50 49,
 gr 51 (.fld 9 (.t 1)) 50 true,
 gr 52 (.load1 (.t 51)) 50 true,
 gr 53 (.cmp .eql (.t 52) (ci 0)) 50 true,
 rr 54 (.pick (.t 50) (.t 53) (.c (.bool false))),
 mv 55 54,
 gr 56 (.fld 10 (.t 1)) 55 true,
 gr 57 (.load1 (.t 56)) 55 true,
 gr 58 (.cmp .eql (.t 57) (ci 0)) 55 true,
 rr 59 (.pick (.t 55) (.t 58) (.c (.bool false))),
 mv 2 59])
 (.ret))
 (.seq (.reg [rr 61 (.cmp .eql (.t 42) (ci 3)),
 mv 60 61])
 (.cond (.t 60) (.seq (.reg [rr 62 (.fld 9 (.t 1)),
 rr 63 (.load1 (.t 62)),
 rr 64 (.cmp .eql (.t 63) (ci 0)),
 mv 65 64,
 gr 66 (.fld 10 (.t 1)) 65 true,
 gr 67 (.load1 (.t 66)) 65 true,
 gr 68 (.cmp .eql (.t 67) (ci 0)) 65 true,
 rr 69 (.pick (.t 65) (.t 68) (.c (.bool false))),
 mv 2 69])
 (.ret))
 (.seq (.reg [rr 71 (.cmp .eql (.t 42) (ci 4)),
 mv 70 71])
 (.cond (.t 70) (.seq (.reg [rr 72 (.loadN 11 (.t 1)),
 cl 73 298 [.t 72],
 mv 2 73])
 (.ret))
 (.seq (.reg [rr 75 (.cmp .eql (.t 42) (ci 5)),
 mv 74 75])
 (.cond (.t 74) (.seq (.reg [rr 76 (.fld 10 (.t 1)),
 rr 77 (.load1 (.t 76)),
 rr 78 (.cmp .eql (.t 77) (ci 0)),
 mv 79 78,
 gr 80 (.fld 9 (.t 1)) 79 true,
 gr 81 (.load1 (.t 80)) 79 true,
 gr 82 (.fld 3 (.t 1)) 79 true,
 gr 83 (.load1 (.t 82)) 79 true,
 gr 84 (.cmp .eql (.t 81) (.t 83)) 79 true,
 rr 85 (.pick (.t 79) (.t 84) (.c (.bool false))),
 mv 86 85,
 gr 87 (.loadN 11 (.t 1)) 86 false,
 ⟨(some 88), .e (.call (.c (.fn (.func 298) [] [])) [.t 87]), (some (86, false))⟩,
 rr 89 (.pick (.t 86) (.c (.bool true)) (.t 88)),
 mv 2 89])
 (.ret))
 (.skip)))))))))))
 (.seq (.reg [rr 2 (.mov (.c (.bool false)))])
 (.ret)))))⟩
/-- guichet/txn.in -/
def b244 : AFunc := ⟨17, [.tmp 4],
 .seq (.reg [rr 4 (.mov (.c (.bool false)))])
 (.seq (.seq (.reg [mv 7 1,
 rr 8 (.len 1 (.t 7)),
 rr 9 (.mov (ci 0))])
 (.block 0 (.loop [] (.seq (.reg [rr 10 (.cmp .lss (.t 9) (.t 8))])
 (.seq (.cond (.t 10) (.skip)
 (.exit 0))
 (.seq (.block 1 (.seq (.reg [rr 11 (.idxS 1 (.t 7) (.t 9)),
 rr 12 (.load1 (.t 11)),
 mv 6 12])
 (.seq (.reg [mv 13 6,
 mv 14 0,
 rr 15 (.cmp .eql (.t 13) (.t 14))])
 (.cond (.t 15) (.seq (.reg [rr 4 (.mov (.c (.bool true)))])
 (.ret))
 (.skip)))))
 (.reg [rr 16 (.arith .add (.t 9) (ci 1)),
 mv 9 16])))))))
 (.seq (.reg [rr 4 (.mov (.c (.bool false)))])
 (.ret)))⟩
/-- guichet/txn.from -/
def b245 : AFunc := ⟨20, [.tmp 2],
 .seq (.reg [rr 2 (.mov (.c (.slice none (.n 0) (.exact 0))))])
 (.seq (.seq (.reg [mv 3 0])
 (.block 0 (.seq (.reg [rr 5 (.cmp .eql (.t 3) (ci 1)),
 mv 4 5])
 (.cond (.t 4) (.seq (.reg [nn 6 (.bslice (some (.int .i64)) 1 1 [(ci 0)]),
 mv 2 6])
 (.ret))
 (.seq (.reg [rr 8 (.cmp .eql (.t 3) (ci 4)),
 mv 7 8])
 (.cond (.t 7) (.seq (.reg [nn 9 (.bslice (some (.int .i64)) 1 2 [(ci 1), (ci 2)]),
 mv 2 9])
 (.ret))
 (.seq (.reg [rr 11 (.cmp .eql (.t 3) (ci 5)),
 mv 10 11])
 (.cond (.t 10) (.seq (.reg [nn 12 (.bslice (some (.int .i64)) 1 1 [(ci 2)]),
 mv 2 12])
 (.ret))
 (.seq (.reg [rr 14 (.cmp .eql (.t 3) (ci 6)),
 mv 13 14])
 (.cond (.t 13) (.seq (.reg [nn 15 (.bslice (some (.int .i64)) 1 1 [(ci 3)]),
 mv 2 15])
 (.ret))
 (.seq (.reg [rr 17 (.cmp .eql (.t 3) (ci 7)),
 mv 16 17])
 (.cond (.t 16) (.seq (.reg [nn 18 (.bslice (some (.int .i64)) 1 1 [(ci 4)]),
 mv 2 18])
 (.ret))
 (.skip)))))))))))))
 (.seq (.reg [nn 19 (.bslice (some (.int .i64)) 1 1 [(ci 1)]),
 mv 2 19])
 (.ret)))⟩
/-- guichet/txn.begin -/
def b246 : AFunc := ⟨21, [.cellN 2 11, .tmp 3],
 .seq (.reg [nn 1 (.box (.t 0)),
 nn 2 (.zbox [(.int .u16 0), (.int .u32 0), (.str []), (.int .i64 0), (.int .i64 0), (.int .i64 0), (.int .i64 0), (.int .i64 0), (.int .i64 0), (.int .i64 0), (.int .i64 0)]),
 rr 3 (.mov (ci 0))])
 (.seq (.block 0 (.seq (.reg [rr 5 (.fld 3 (.t 1)),
 rr 6 (.load1 (.t 5)),
 rr 7 (.eq1 (.s) false (.t 6) (.c (.str []))),
 mv 4 7])
 (.cond (.t 4) (.seq (.reg [rr 8 (.build [(.int .u16 0), (.int .u32 0), (.str []), (.int .i64 0), (.int .i64 0), (.int .i64 0), (.int .i64 0), (.int .i64 0), (.int .i64 0), (.int .i64 0), (.int .i64 0)] []),
 ff (.storeN 11 (.t 2) (.t 8)),
 rr 3 (.mov (ci 27))])
 (.ret))
 (.seq (.reg [rr 10 (.fld 4 (.t 1)),
 rr 11 (.load1 (.t 10)),
 rr 12 (.cmp .eql (.t 11) (ci 0)),
 mv 9 12])
 (.cond (.t 9) (.seq (.reg [rr 13 (.build [(.int .u16 0), (.int .u32 0), (.str []), (.int .i64 0), (.int .i64 0), (.int .i64 0), (.int .i64 0), (.int .i64 0), (.int .i64 0), (.int .i64 0), (.int .i64 0)] []),
 ff (.storeN 11 (.t 2) (.t 13)),
 rr 3 (.mov (ci 34))])
 (.ret))
 (.skip))))))
 (.seq (.reg [rr 14 (.fld 1 (.t 1)),
 rr 15 (.loadN 2 (.t 14)),
 rr 16 (.fld 3 (.t 1)),
 rr 17 (.load1 (.t 16)),
 rr 18 (.fld 4 (.t 1)),
 rr 19 (.load1 (.t 18)),
 rr 20 (.build [(.int .u16 0), (.int .u32 0), (.str []), (.int .i64 0), (.int .i64 0), (.int .i64 0), (.int .i64 0), (.int .i64 0), (.int .i64 0), (.int .i64 0), (.int .i64 0)] [(0, (2, (.t 15))), (2, (1, (.t 17))), (3, (1, (.t 19))), (4, (1, (ci 1)))]),
 ff (.storeN 11 (.t 2) (.t 20)),
 rr 3 (.mov (ci 0))])
 (.ret)))⟩
/-- strings.Count -/
def b250 : AFunc := ⟨34, [.tmp 4],
 .seq (.reg [rr 4 (.mov (ci 0))])
 (.seq (.seq (.reg [mv 7 1,
 rr 8 (.len 0 (.t 7)),
 rr 9 (.cmp .eql (.t 8) (ci 0))])
 (.cond (.t 9) (.seq (.reg [mv 10 0,
 cl 11 299 [.t 10],
 rr 12 (.arith .add (.t 11) (ci 1)),
 mv 4 12])
 (.ret))
 (.skip)))
 (.seq (.seq (.reg [mv 13 1,
 rr 14 (.len 0 (.t 13)),
 rr 15 (.cmp .eql (.t 14) (ci 1))])
 (.cond (.t 15) (.seq (.reg [mv 16 0,
 mv 17 1,
 rr 18 (.strAt (.t 17) (ci 0)),
 cl 19 301 [.t 16, .t 18],
 mv 4 19])
 (.ret))
 (.skip)))
 (.seq (.reg [rr 5 (.mov (ci 0))])
 (.block 0 (.loop [] (.block 1 (.seq (.reg [mv 20 0,
 mv 21 1,
 cl 22 251 [.t 20, .t 21],
 mv 6 22])
 (.seq (.seq (.reg [mv 23 6,
 rr 24 (.cmp .eql (.t 23) (ci (-1)))])
 (.cond (.t 24) (.seq (.reg [mv 25 5,
 mv 4 25])
 (.ret))
 (.skip)))
 (.seq (.reg [mv 26 5,
 rr 27 (.arith .add (.t 26) (ci 1)),
 mv 5 27])
 (.reg [mv 28 0,
 mv 29 6,
 mv 30 1,
 rr 31 (.len 0 (.t 30)),
 rr 32 (.arith .add (.t 29) (.t 31)),
 rr 33 (.slcStr (.t 28) (some (.t 32)) none),
 mv 0 33]))))))))))⟩
/-- strings.Index -/
def b251 : AFunc := ⟨8, [.tmp 4],
 .seq (.reg [rr 4 (.mov (ci 0))])
 (.seq (.reg [mv 5 0,
 mv 6 1,
 cl 7 302 [.t 5, .t 6],
 mv 4 7])
 (.ret))⟩
/-- internal/strconv.ParseInt -/
def b252 : AFunc := ⟨73, [.tmp 6, .tmp 7],
 .seq (.reg [rr 6 (.mov (ci 0)),
 rr 7 (.mov (.c .nilIfc))])
 (.seq (.seq (.reg [mv 12 0,
 rr 13 (.eq1 (.s) false (.t 12) (.c (.str [])))])
 (.cond (.t 13) (.seq (.reg [rr 14 (.ifc 378 (ci 2)),
 rr 6 (.mov (ci 0)),
 mv 7 14])
 (.ret))
 (.skip)))
 (.seq (.reg [rr 8 (.mov (.c (.bool false)))])
 (.seq (.seq (.reg [mv 15 0,
 rr 16 (.strAt (.t 15) (ci 0))])
 (.block 0 (.seq (.reg [rr 18 (.cmp .eql (.t 16) (.c (.int .u8 43))),
 mv 17 18])
 (.cond (.t 17) (.reg [mv 19 0,
 rr 20 (.slcStr (.t 19) (some (ci 1)) none),
 mv 0 20])
 (.seq (.reg [rr 22 (.cmp .eql (.t 16) (.c (.int .u8 45))),
 mv 21 22])
 (.cond (.t 21) (.seq (.reg [mv 23 0,
 rr 24 (.slcStr (.t 23) (some (ci 1)) none),
 mv 0 24])
 (.reg [rr 8 (.mov (.c (.bool true)))]))
 (.skip)))))))
 (.seq (.reg [rr 9 (.mov (.c (.int .u64 0)))])
 (.seq (.reg [mv 26 0,
 mv 27 1,
 mv 28 2,
 cl 29 303 [.t 26, .t 27, .t 28],
 mv 25 29,
 rr 30 (.ext (.t 25) 0),
 rr 31 (.ext (.t 25) 1),
 mv 9 30,
 mv 7 31])
 (.seq (.seq (.reg [mv 32 7,
 rr 33 (.eqI true (.t 32)),
 mv 34 33,
 gr 35 (.mov (.t 7)) 34 true,
 gr 36 (.ifc 378 (ci 1)) 34 true,
 ⟨(some 37), .e (.never), (some (34, true))⟩,
 rr 38 (.pick (.t 34) (.t 37) (.c (.bool false)))])
 (.cond (.t 38) (.seq (.reg [mv 39 7,
 rr 6 (.mov (ci 0)),
 mv 7 39])
 (.ret))
 (.skip)))
 (.seq (.seq (.reg [mv 40 2,
 rr 41 (.cmp .eql (.t 40) (ci 0))])
 (.cond (.t 41) (.reg [rr 2 (.mov (ci 64))])
 (.skip)))
 (.seq (.reg [mv 42 2,
 rr 43 (.arith .sub (.t 42) (ci 1)),
 rr 44 (.toInt .u64 (.t 43)),
 rr 45 (.arith .shl (.c (.int .u64 1)) (.t 44)),
 mv 10 45])
 (.seq (.seq (.reg [mv 46 8,
 rr 47 (.not (.t 46)),
 mv 48 47,
 gr 49 (.mov (.t 9)) 48 true,
 gr 50 (.mov (.t 10)) 48 true,
 gr 51 (.cmp .geq (.t 49) (.t 50)) 48 true,
 rr 52 (.pick (.t 48) (.t 51) (.c (.bool false)))])
 (.cond (.t 52) (.seq (.reg [mv 53 10,
 rr 54 (.arith .sub (.t 53) (.c (.int .u64 1))),
 rr 55 (.toInt .i64 (.t 54)),
 rr 56 (.ifc 378 (ci 1)),
 mv 6 55,
 mv 7 56])
 (.ret))
 (.skip)))
 (.seq (.seq (.reg [mv 57 8,
 mv 58 57,
 gr 59 (.mov (.t 9)) 58 true,
 gr 60 (.mov (.t 10)) 58 true,
 gr 61 (.cmp .gtr (.t 59) (.t 60)) 58 true,
 rr 62 (.pick (.t 58) (.t 61) (.c (.bool false)))])
 (.cond (.t 62) (.seq (.reg [mv 63 10,
 rr 64 (.toInt .i64 (.t 63)),
 rr 65 (.neg (.t 64)),
 rr 66 (.ifc 378 (ci 1)),
 mv 6 65,
 mv 7 66])
 (.ret))
 (.skip)))
 (.seq (.reg [mv 67 9,
 rr 68 (.toInt .i64 (.t 67)),
 mv 11 68])
 (.seq (.seq (.reg [mv 69 8])
 (.cond (.t 69) (.reg [mv 70 11,
 rr 71 (.neg (.t 70)),
 mv 11 71])
 (.skip)))
 (.seq (.reg [mv 72 11,
 mv 6 72,
 rr 7 (.mov (.c .nilIfc))])
 (.ret))))))))))))))⟩
/-- (*guichet/mix.search).note -/
def b258 : AFunc := ⟨31, [],
 .seq (.reg [nn 4 (.box (.t 1))])
 (.seq (.seq (.reg [mv 6 2,
 mv 7 0,
 rr 8 (.nilchk (.t 7)),
 rr 9 (.fld 13 (.t 8)),
 rr 10 (.load1 (.t 9)),
 rr 11 (.cmp .lss (.t 6) (.t 10))])
 (.cond (.t 11) (.seq (.reg [mv 12 0,
 mv 13 2,
 rr 14 (.nilchk (.t 12)),
 rr 15 (.fld 13 (.t 14)),
 ff (.store1 (.t 15) (.t 13))])
 (.reg [mv 16 0,
 rr 17 (.nilchk (.t 16)),
 rr 18 (.fld 14 (.t 17)),
 rr 19 (.load1 (.t 18)),
 ff (.clr none (.t 19))]))
 (.skip)))
 (.seq (.reg [mv 20 2,
 mv 21 0,
 rr 22 (.nilchk (.t 21)),
 rr 23 (.fld 13 (.t 22)),
 rr 24 (.load1 (.t 23)),
 rr 25 (.cmp .eql (.t 20) (.t 24))])
 (.cond (.t 25) (.dreg [⟨0, mv 26 0, false, []⟩,
 ⟨1, rr 27 (.nilchk (.t 26)), false, []⟩,
 ⟨2, rr 28 (.fld 14 (.t 27)), false, []⟩,
 ⟨3, rr 29 (.load1 (.t 28)), false, []⟩,
 ⟨4, rr 30 (.loadN 4 (.t 4)), false, []⟩,
 ⟨5, ff (.upd .notes .bool (.t 29) (.t 30) (.c (.bool true))), true, [4, 3, 2, 1, 0]⟩])
 (.skip))))⟩
/-- slices.IndexFunc[[]guichet/api.Txn,guichet/api.Txn] -/
def b260 : AFunc := ⟨19, [.tmp 4],
 .seq (.reg [rr 4 (.mov (ci 0))])
 (.seq (.seq (.reg [mv 6 0,
 rr 7 (.len 1 (.t 6)),
 rr 8 (.mov (ci 0))])
 (.block 0 (.loop [] (.seq (.reg [rr 9 (.cmp .lss (.t 8) (.t 7))])
 (.seq (.cond (.t 9) (.skip)
 (.exit 0))
 (.seq (.block 1 (.seq (.reg [mv 10 8,
 mv 5 10])
 (.seq (.reg [mv 11 1,
 mv 12 0,
 mv 13 5,
 rr 14 (.idxS 11 (.t 12) (.t 13)),
 rr 15 (.loadN 11 (.t 14)),
 ee 16 (.call (.t 11) [.t 15])])
 (.cond (.t 16) (.seq (.reg [mv 17 5,
 mv 4 17])
 (.ret))
 (.skip)))))
 (.reg [rr 18 (.arith .add (.t 8) (ci 1)),
 mv 8 18])))))))
 (.seq (.reg [rr 4 (.mov (ci (-1)))])
 (.ret)))⟩
/-- strconv.FormatUint -/
def b264 : AFunc := ⟨8, [.tmp 4],
 .seq (.reg [rr 4 (.mov (.c (.str [])))])
 (.seq (.reg [mv 5 0,
 mv 6 1,
 cl 7 311 [.t 5, .t 6],
 mv 4 7])
 (.ret))⟩
/-- strconv.FormatInt -/
def b265 : AFunc := ⟨8, [.tmp 4],
 .seq (.reg [rr 4 (.mov (.c (.str [])))])
 (.seq (.reg [mv 5 0,
 mv 6 1,
 cl 7 257 [.t 5, .t 6],
 mv 4 7])
 (.ret))⟩
/-- guichet/ndc.notes -/
def b266 : AFunc := ⟨26, [.tmp 2],
 .seq (.reg [rr 2 (.mov (.c (.slice none (.n 0) (.exact 0))))])
 (.seq (.reg [rr 3 (.mov (.c (.slice none (.n 0) (.exact 0))))])
 (.seq (.seq (.reg [mv 8 0,
 rr 9 (.len 1 (.t 8)),
 rr 10 (.mov (ci 0))])
 (.block 0 (.loop [] (.seq (.reg [rr 11 (.cmp .lss (.t 10) (.t 9))])
 (.seq (.cond (.t 11) (.skip)
 (.exit 0))
 (.seq (.block 1 (.seq (.reg [rr 12 (.idxS 4 (.t 8) (.t 10)),
 rr 13 (.loadN 4 (.t 12)),
 nn 5 (.zbox [(.int .i64 0), (.int .i64 0), (.int .i64 0), (.int .i64 0)]),
 ff (.storeN 4 (.t 5) (.t 13))])
 (.seq (.reg [rr 14 (.loadN 4 (.t 5)),
 rr 15 (.mov (ci 0))])
 (.block 2 (.loop [] (.seq (.reg [rr 16 (.cmp .lss (.t 15) (ci 4))])
 (.seq (.cond (.t 16) (.skip)
 (.exit 2))
 (.seq (.block 3 (.seq (.reg [rr 17 (.at 4 1 true (.t 14) (.t 15)),
 mv 7 17])
 (.reg [mv 18 3,
 mv 19 7,
 cl 20 150 [.t 19],
 nn 21 (.bslice (some .str) 1 1 [.t 20]),
 ee 22 (.append .str (.t 18) (.t 21)),
 mv 3 22])))
 (.reg [rr 23 (.arith .add (.t 15) (ci 1)),
 mv 15 23])))))))))
 (.reg [rr 24 (.arith .add (.t 10) (ci 1)),
 mv 10 24])))))))
 (.seq (.reg [mv 25 3,
 mv 2 25])
 (.ret))))⟩
/-- guichet/wire.Join -/
def b267 : AFunc := ⟨24, [.tmp 2, .tmp 3],
 .seq (.reg [rr 2 (.mov (.c (.slice none (.n 0) (.exact 0)))),
 rr 3 (.mov (.c (.bool false)))])
 (.seq (.seq (.reg [mv 6 0,
 rr 7 (.len 1 (.t 6)),
 rr 8 (.mov (ci 0))])
 (.block 0 (.loop [] (.seq (.reg [rr 9 (.cmp .lss (.t 8) (.t 7))])
 (.seq (.cond (.t 9) (.skip)
 (.exit 0))
 (.seq (.block 1 (.seq (.reg [rr 10 (.idxS 1 (.t 6) (.t 8)),
 rr 11 (.load1 (.t 10)),
 mv 5 11])
 (.seq (.reg [mv 12 5,
 cl 13 312 [.t 12, (.c (.int .u8 28))],
 rr 14 (.cmp .geq (.t 13) (ci 0))])
 (.cond (.t 14) (.seq (.reg [rr 2 (.mov (.c (.slice none (.n 0) (.exact 0)))),
 rr 3 (.mov (.c (.bool false)))])
 (.ret))
 (.skip)))))
 (.reg [rr 15 (.arith .add (.t 8) (ci 1)),
 mv 8 15])))))))
 (.seq (.reg [mv 16 0,
 nn 17 (.bslice (some (.int .u8)) 1 1 [(.c (.int .u8 28))]),
 rr 18 (.toStr (.t 17)),
 cl 19 313 [.t 16, .t 18],
 nn 20 (.bytes (.t 19)),
 mv 21 0,
 rr 22 (.len 1 (.t 21)),
 rr 23 (.cmp .gtr (.t 22) (ci 0)),
 mv 2 20,
 mv 3 23])
 (.ret)))⟩
/-- guichet/iso.Right -/
def b268 : AFunc := ⟨31, [.tmp 2],
 .seq (.reg [nn 1 (.box (.t 0)),
 rr 2 (.mov (.c (.bool false)))])
 (.seq (.reg [rr 3 (.mov (ci 0))])
 (.seq (.seq (.reg [rr 6 (.fld 1 (.t 1)),
 rr 7 (.load1 (.t 6)),
 rr 8 (.len 1 (.t 7)),
 rr 9 (.mov (ci 0))])
 (.block 0 (.loop [] (.seq (.reg [rr 10 (.cmp .lss (.t 9) (.t 8))])
 (.seq (.cond (.t 10) (.skip)
 (.exit 0))
 (.seq (.block 1 (.seq (.reg [rr 11 (.idxS 2 (.t 7) (.t 9)),
 rr 12 (.loadN 2 (.t 11)),
 nn 5 (.zbox [(.int .i64 0), (.str [])]),
 ff (.storeN 2 (.t 5) (.t 12))])
 (.seq (.seq (.reg [rr 13 (.fld 0 (.t 5)),
 rr 14 (.load1 (.t 13)),
 mv 15 3,
 rr 16 (.cmp .leq (.t 14) (.t 15)),
 mv 17 16,
 gr 18 (.fld 0 (.t 5)) 17 false,
 gr 19 (.load1 (.t 18)) 17 false,
 gr 20 (.fld 1 (.t 5)) 17 false,
 gr 21 (.load1 (.t 20)) 17 false,
 ⟨(some 22), .e (.call (.c (.fn (.func 280) [] [])) [.t 19, .t 21]), (some (17, false))⟩,
 gr 23 (.not (.t 22)) 17 false,
 rr 24 (.pick (.t 17) (.c (.bool true)) (.t 23))])
 (.cond (.t 24) (.seq (.reg [rr 2 (.mov (.c (.bool false)))])
 (.ret))
 (.skip)))
 (.reg [rr 25 (.fld 0 (.t 5)),
 rr 26 (.load1 (.t 25)),
 mv 3 26]))))
 (.reg [rr 27 (.arith .add (.t 9) (ci 1)),
 mv 9 27])))))))
 (.seq (.reg [rr 28 (.fld 0 (.t 1)),
 rr 29 (.load1 (.t 28)),
 cl 30 221 [.t 29],
 mv 2 30])
 (.ret))))⟩
/-- guichet/bcd.Pack -/
def b269 : AFunc := ⟨36, [.tmp 2, .tmp 3],
 .seq (.reg [rr 2 (.mov (.c (.slice none (.n 0) (.exact 0)))),
 rr 3 (.mov (.c (.bool false)))])
 (.seq (.seq (.reg [mv 6 0,
 cl 7 274 [.t 6],
 rr 8 (.not (.t 7))])
 (.cond (.t 8) (.seq (.reg [rr 2 (.mov (.c (.slice none (.n 0) (.exact 0)))),
 rr 3 (.mov (.c (.bool false)))])
 (.ret))
 (.skip)))
 (.seq (.seq (.reg [mv 9 0,
 rr 10 (.len 0 (.t 9)),
 rr 11 (.arith .rem (.t 10) (ci 2)),
 rr 12 (.cmp .eql (.t 11) (ci 1))])
 (.cond (.t 12) (.reg [mv 13 0,
 rr 14 (.arith .add (.c (.str [48])) (.t 13)),
 mv 0 14])
 (.skip)))
 (.seq (.reg [rr 4 (.mov (.c (.slice none (.n 0) (.exact 0))))])
 (.seq (.seq (.reg [rr 5 (.mov (ci 0))])
 (.block 0 (.loop [] (.seq (.seq (.reg [mv 15 5,
 mv 16 0,
 rr 17 (.len 0 (.t 16)),
 rr 18 (.cmp .lss (.t 15) (.t 17))])
 (.cond (.t 18) (.skip)
 (.exit 0)))
 (.seq (.block 1 (.dreg [⟨0, mv 21 4, false, []⟩,
 ⟨1, mv 22 0, false, []⟩,
 ⟨2, mv 23 5, false, []⟩,
 ⟨3, rr 24 (.strAt (.t 22) (.t 23)), false, []⟩,
 ⟨4, rr 25 (.arith .sub (.t 24) (.c (.int .u8 48))), false, []⟩,
 ⟨5, rr 26 (.arith .shl (.t 25) (.c (.int .u64 4))), false, []⟩,
 ⟨6, mv 27 0, false, []⟩,
 ⟨7, mv 28 5, false, []⟩,
 ⟨8, rr 29 (.arith .add (.t 28) (ci 1)), false, []⟩,
 ⟨9, rr 30 (.strAt (.t 27) (.t 29)), false, []⟩,
 ⟨10, rr 31 (.arith .sub (.t 30) (.c (.int .u8 48))), false, []⟩,
 ⟨11, rr 32 (.arith .or (.t 26) (.t 31)), false, []⟩,
 ⟨12, nn 33 (.bslice (some (.int .u8)) 1 1 [.t 32]), false, []⟩,
 ⟨13, ee 34 (.append (.int .u8) (.t 21) (.t 33)), true, [12, 11, 10, 9, 8, 7, 6, 5, 4, 3, 2, 1, 0]⟩,
 ⟨14, mv 4 34, false, []⟩]))
 (.reg [mv 19 5,
 rr 20 (.arith .add (.t 19) (ci 2)),
 mv 5 20]))))))
 (.seq (.reg [mv 35 4,
 mv 2 35,
 rr 3 (.mov (.c (.bool true)))])
 (.ret))))))⟩
/-- guichet/field.Put -/
def b270 : AFunc := ⟨51, [.tmp 4, .tmp 5],
 .seq (.reg [rr 4 (.mov (.c (.slice none (.n 0) (.exact 0)))),
 rr 5 (.mov (ci 0))])
 (.seq (.seq (.reg [mv 13 0,
 mv 14 1,
 cl 15 280 [.t 13, .t 14],
 rr 16 (.not (.t 15))])
 (.cond (.t 16) (.seq (.reg [rr 4 (.mov (.c (.slice none (.n 0) (.exact 0)))),
 rr 5 (.mov (ci 27))])
 (.ret))
 (.skip)))
 (.seq (.reg [mv 18 0,
 cl 19 278 [.t 18],
 mv 17 19,
 rr 20 (.ext (.t 17) 0),
 rr 21 (.ext (.t 17) 1),
 nn 6 (.zbox [(.bool false), (.int .i64 0), (.int .i64 0)]),
 ff (.storeN 3 (.t 6) (.t 20)),
 mv 7 21])
 (.seq (.reg [rr 8 (.mov (.c (.slice none (.n 0) (.exact 0))))])
 (.seq (.seq (.reg [rr 22 (.fld 2 (.t 6)),
 rr 23 (.load1 (.t 22)),
 rr 24 (.cmp .gtr (.t 23) (ci 0))])
 (.cond (.t 24) (.seq (.reg [mv 26 1,
 rr 27 (.len 0 (.t 26)),
 rr 28 (.fld 2 (.t 6)),
 rr 29 (.load1 (.t 28)),
 cl 30 217 [.t 27, .t 29],
 mv 25 30,
 rr 31 (.ext (.t 25) 0),
 rr 32 (.ext (.t 25) 1),
 mv 9 31,
 mv 10 32])
 (.reg [mv 34 9,
 cl 35 269 [.t 34],
 mv 33 35,
 rr 36 (.ext (.t 33) 0),
 rr 37 (.ext (.t 33) 1),
 mv 8 36]))
 (.skip)))
 (.seq (.seq (.reg [rr 38 (.fld 0 (.t 6)),
 rr 39 (.load1 (.t 38))])
 (.cond (.t 39) (.seq (.reg [mv 41 1,
 cl 42 269 [.t 41],
 mv 40 42,
 rr 43 (.ext (.t 40) 0),
 rr 44 (.ext (.t 40) 1),
 mv 11 43,
 mv 12 44])
 (.seq (.reg [mv 45 8,
 mv 46 11,
 ee 47 (.append (.int .u8) (.t 45) (.t 46)),
 mv 4 47,
 rr 5 (.mov (ci 0))])
 (.ret)))
 (.skip)))
 (.seq (.reg [mv 48 8,
 mv 49 1,
 ee 50 (.append (.int .u8) (.t 48) (.t 49)),
 mv 4 50,
 rr 5 (.mov (ci 0))])
 (.ret)))))))⟩
/-- guichet/bitmap.Put -/
def b271 : AFunc := ⟨53, [.tmp 2, .tmp 3],
 .seq (.reg [rr 2 (.mov (.c (.slice none (.n 0) (.exact 0)))),
 rr 3 (.mov (.c (.bool false)))])
 (.seq (.reg [nn 8 (.mkslice (.int .u8) (ci 8)),
 mv 4 8])
 (.seq (.reg [rr 5 (.mov (ci 1))])
 (.seq (.seq (.reg [mv 9 0,
 rr 10 (.len 1 (.t 9)),
 rr 11 (.mov (ci 0))])
 (.block 0 (.loop [] (.seq (.reg [rr 12 (.cmp .lss (.t 11) (.t 10))])
 (.seq (.cond (.t 12) (.skip)
 (.exit 0))
 (.seq (.block 1 (.seq (.reg [rr 13 (.idxS 1 (.t 9) (.t 11)),
 rr 14 (.load1 (.t 13)),
 mv 7 14])
 (.seq (.seq (.reg [mv 15 7,
 mv 16 5,
 rr 17 (.cmp .leq (.t 15) (.t 16)),
 mv 18 17,
 gr 19 (.mov (.t 7)) 18 false,
 gr 20 (.cmp .gtr (.t 19) (ci 128)) 18 false,
 rr 21 (.pick (.t 18) (.c (.bool true)) (.t 20))])
 (.cond (.t 21) (.seq (.reg [rr 2 (.mov (.c (.slice none (.n 0) (.exact 0)))),
 rr 3 (.mov (.c (.bool false)))])
 (.ret))
 (.skip)))
 (.seq (.seq (.reg [mv 22 7,
 rr 23 (.cmp .gtr (.t 22) (ci 64)),
 mv 24 23,
 gr 25 (.mov (.t 4)) 24 true,
 gr 26 (.len 1 (.t 25)) 24 true,
 gr 27 (.cmp .eql (.t 26) (ci 8)) 24 true,
 rr 28 (.pick (.t 24) (.t 27) (.c (.bool false)))])
 (.cond (.t 28) (.seq (.reg [mv 29 4,
 ee 30 (.never),
 mv 4 30])
 (.reg [mv 31 4,
 rr 32 (.idxS 1 (.t 31) (ci 0)),
 rr 33 (.load1 (.t 32)),
 rr 34 (.arith .or (.t 33) (.c (.int .u8 128))),
 rr 35 (.idxS 1 (.t 31) (ci 0)),
 ff (.store1 (.t 35) (.t 34))]))
 (.skip)))
 (.seq (.reg [mv 36 4,
 mv 37 7,
 rr 38 (.arith .sub (.t 37) (ci 1)),
 rr 39 (.arith .quo (.t 38) (ci 8)),
 rr 40 (.idxS 1 (.t 36) (.t 39)),
 rr 41 (.load1 (.t 40)),
 mv 42 7,
 rr 43 (.arith .sub (.t 42) (ci 1)),
 rr 44 (.arith .rem (.t 43) (ci 8)),
 rr 45 (.arith .sub (ci 7) (.t 44)),
 rr 46 (.toInt .u64 (.t 45)),
 rr 47 (.arith .shl (.c (.int .u8 1)) (.t 46)),
 rr 48 (.arith .or (.t 41) (.t 47)),
 rr 49 (.idxS 1 (.t 36) (.t 39)),
 ff (.store1 (.t 49) (.t 48))])
 (.reg [mv 50 7,
 mv 5 50]))))))
 (.reg [rr 51 (.arith .add (.t 11) (ci 1)),
 mv 11 51])))))))
 (.seq (.reg [mv 52 4,
 mv 2 52,
 rr 3 (.mov (.c (.bool true)))])
 (.ret)))))⟩
/-- slices.Concat[[]byte,byte] -/
def b272 : AFunc := ⟨36, [.tmp 2],
 .seq (.reg [rr 2 (.mov (.c (.slice none (.n 0) (.exact 0))))])
 (.seq (.reg [rr 3 (.mov (ci 0))])
 (.seq (.seq (.reg [mv 9 0,
 rr 10 (.len 1 (.t 9)),
 rr 11 (.mov (ci 0))])
 (.block 0 (.loop [] (.seq (.reg [rr 12 (.cmp .lss (.t 11) (.t 10))])
 (.seq (.cond (.t 12) (.skip)
 (.exit 0))
 (.seq (.block 1 (.seq (.reg [rr 13 (.idxS 1 (.t 9) (.t 11)),
 rr 14 (.load1 (.t 13)),
 mv 5 14])
 (.seq (.reg [mv 15 3,
 mv 16 5,
 rr 17 (.len 1 (.t 16)),
 rr 18 (.arith .add (.t 15) (.t 17)),
 mv 3 18])
 (.seq (.reg [mv 19 3,
 rr 20 (.cmp .lss (.t 19) (ci 0))])
 (.cond (.t 20) (.reg [rr 21 (.ifc 9 (.c (.str [108, 101, 110, 32, 111, 117, 116, 32, 111, 102, 32, 114, 97, 110, 103, 101]))),
 ff (.never)])
 (.skip))))))
 (.reg [rr 22 (.arith .add (.t 11) (ci 1)),
 mv 11 22])))))))
 (.seq (.reg [mv 23 3,
 cl 24 314 [(.c (.slice none (.n 0) (.exact 0))), .t 23],
 mv 6 24])
 (.seq (.seq (.reg [mv 25 0,
 rr 26 (.len 1 (.t 25)),
 rr 27 (.mov (ci 0))])
 (.block 2 (.loop [] (.seq (.reg [rr 28 (.cmp .lss (.t 27) (.t 26))])
 (.seq (.cond (.t 28) (.skip)
 (.exit 2))
 (.seq (.block 3 (.seq (.reg [rr 29 (.idxS 1 (.t 25) (.t 27)),
 rr 30 (.load1 (.t 29)),
 mv 8 30])
 (.reg [mv 31 6,
 mv 32 8,
 ee 33 (.append (.int .u8) (.t 31) (.t 32)),
 mv 6 33])))
 (.reg [rr 34 (.arith .add (.t 27) (ci 1)),
 mv 27 34])))))))
 (.seq (.reg [mv 35 6,
 mv 2 35])
 (.ret))))))⟩
/-- guichet/bcd.digits -/
def b274 : AFunc := ⟨20, [.tmp 2],
 .seq (.reg [rr 2 (.mov (.c (.bool false)))])
 (.seq (.seq (.reg [mv 4 0,
 rr 5 (.len 0 (.t 4)),
 rr 6 (.mov (ci 0))])
 (.block 0 (.loop [] (.seq (.reg [rr 7 (.cmp .lss (.t 6) (.t 5))])
 (.seq (.cond (.t 7) (.skip)
 (.exit 0))
 (.seq (.block 1 (.seq (.reg [mv 8 6,
 mv 3 8])
 (.seq (.reg [mv 9 0,
 mv 10 3,
 rr 11 (.strAt (.t 9) (.t 10)),
 rr 12 (.cmp .lss (.t 11) (.c (.int .u8 48))),
 mv 13 12,
 gr 14 (.mov (.t 0)) 13 false,
 gr 15 (.mov (.t 3)) 13 false,
 gr 16 (.strAt (.t 14) (.t 15)) 13 false,
 gr 17 (.cmp .gtr (.t 16) (.c (.int .u8 57))) 13 false,
 rr 18 (.pick (.t 13) (.c (.bool true)) (.t 17))])
 (.cond (.t 18) (.seq (.reg [rr 2 (.mov (.c (.bool false)))])
 (.ret))
 (.skip)))))
 (.reg [rr 19 (.arith .add (.t 6) (ci 1)),
 mv 6 19])))))))
 (.seq (.reg [rr 2 (.mov (.c (.bool true)))])
 (.ret)))⟩
/-- strconv.ParseInt -/
def b275 : AFunc := ⟨25, [.tmp 6, .tmp 7],
 .seq (.reg [rr 6 (.mov (ci 0)),
 rr 7 (.mov (.c .nilIfc))])
 (.seq (.reg [mv 10 0,
 mv 11 1,
 mv 12 2,
 cl 13 252 [.t 10, .t 11, .t 12],
 mv 9 13,
 rr 14 (.ext (.t 9) 0),
 rr 15 (.ext (.t 9) 1),
 mv 8 14,
 mv 7 15])
 (.seq (.seq (.reg [mv 16 7,
 rr 17 (.eqI true (.t 16))])
 (.cond (.t 17) (.seq (.reg [mv 18 8,
 mv 19 0,
 mv 20 1,
 mv 21 2,
 mv 22 7,
 cl 23 205 [(.c (.str [80, 97, 114, 115, 101, 73, 110, 116])), .t 19, .t 20, .t 21, .t 22],
 mv 6 18,
 mv 7 23])
 (.ret))
 (.skip)))
 (.seq (.reg [mv 24 8,
 mv 6 24,
 rr 7 (.mov (.c .nilIfc))])
 (.ret))))⟩
/-- guichet/bitmap.Has -/
def b276 : AFunc := ⟨35, [.tmp 4],
 .seq (.reg [rr 4 (.mov (.c (.bool false)))])
 (.seq (.reg [mv 5 1,
 rr 6 (.cmp .geq (.t 5) (ci 1)),
 mv 7 6,
 gr 8 (.mov (.t 1)) 7 true,
 gr 9 (.cmp .leq (.t 8) (ci 128)) 7 true,
 rr 10 (.pick (.t 7) (.t 9) (.c (.bool false))),
 mv 11 10,
 gr 12 (.mov (.t 1)) 11 true,
 gr 13 (.arith .sub (.t 12) (ci 1)) 11 true,
 gr 14 (.arith .quo (.t 13) (ci 8)) 11 true,
 gr 15 (.mov (.t 0)) 11 true,
 gr 16 (.len 1 (.t 15)) 11 true,
 gr 17 (.cmp .lss (.t 14) (.t 16)) 11 true,
 rr 18 (.pick (.t 11) (.t 17) (.c (.bool false))),
 mv 19 18,
 gr 20 (.mov (.t 0)) 19 true,
 gr 21 (.mov (.t 1)) 19 true,
 gr 22 (.arith .sub (.t 21) (ci 1)) 19 true,
 gr 23 (.arith .quo (.t 22) (ci 8)) 19 true,
 gr 24 (.idxS 1 (.t 20) (.t 23)) 19 true,
 gr 25 (.load1 (.t 24)) 19 true,
 gr 26 (.mov (.t 1)) 19 true,
 gr 27 (.arith .sub (.t 26) (ci 1)) 19 true,
 gr 28 (.arith .rem (.t 27) (ci 8)) 19 true,
 gr 29 (.arith .sub (ci 7) (.t 28)) 19 true,
 gr 30 (.toInt .u64 (.t 29)) 19 true,
 gr 31 (.arith .shr (.t 25) (.t 30)) 19 true,
 gr 32 (.arith .and (.t 31) (.c (.int .u8 1))) 19 true,
 gr 33 (.cmp .eql (.t 32) (.c (.int .u8 1))) 19 true,
 rr 34 (.pick (.t 19) (.t 33) (.c (.bool false))),
 mv 4 34])
 (.ret))⟩
/-- slices.Contains[[]int,int] -/
def b277 : AFunc := ⟨9, [.tmp 4],
 .seq (.reg [rr 4 (.mov (.c (.bool false)))])
 (.seq (.reg [mv 5 0,
 mv 6 1,
 cl 7 321 [.t 5, .t 6],
 rr 8 (.cmp .geq (.t 7) (ci 0)),
 mv 4 8])
 (.ret))⟩
/-- guichet/field.Of -/
def b278 : AFunc := ⟨54, [.cellN 2 3, .tmp 3],
 .seq (.reg [nn 2 (.zbox [(.bool false), (.int .i64 0), (.int .i64 0)]),
 rr 3 (.mov (.c (.bool false)))])
 (.seq (.seq (.reg [mv 4 0])
 (.block 0 (.seq (.reg [rr 6 (.cmp .eql (.t 4) (ci 2)),
 mv 5 6])
 (.cond (.t 5) (.seq (.reg [rr 7 (.build [(.bool false), (.int .i64 0), (.int .i64 0)] [(0, (1, (.c (.bool true)))), (1, (1, (ci 19))), (2, (1, (ci 2)))]),
 ff (.storeN 3 (.t 2) (.t 7)),
 rr 3 (.mov (.c (.bool true)))])
 (.ret))
 (.seq (.seq (.reg [rr 9 (.cmp .eql (.t 4) (ci 3)),
 mv 8 9])
 (.cond (.t 8) (.skip)
 (.seq (.reg [rr 10 (.cmp .eql (.t 4) (ci 11)),
 mv 8 10])
 (.cond (.t 8) (.skip)
 (.reg [rr 11 (.cmp .eql (.t 4) (ci 12)),
 mv 8 11])))))
 (.cond (.t 8) (.seq (.reg [rr 12 (.build [(.bool false), (.int .i64 0), (.int .i64 0)] [(0, (1, (.c (.bool true)))), (1, (1, (ci 6))), (2, (1, (ci 0)))]),
 ff (.storeN 3 (.t 2) (.t 12)),
 rr 3 (.mov (.c (.bool true)))])
 (.ret))
 (.seq (.reg [rr 14 (.cmp .eql (.t 4) (ci 4)),
 mv 13 14])
 (.cond (.t 13) (.seq (.reg [rr 15 (.build [(.bool false), (.int .i64 0), (.int .i64 0)] [(0, (1, (.c (.bool true)))), (1, (1, (ci 12))), (2, (1, (ci 0)))]),
 ff (.storeN 3 (.t 2) (.t 15)),
 rr 3 (.mov (.c (.bool true)))])
 (.ret))
 (.seq (.reg [rr 17 (.cmp .eql (.t 4) (ci 7)),
 mv 16 17])
 (.cond (.t 16) (.seq (.reg [rr 18 (.build [(.bool false), (.int .i64 0), (.int .i64 0)] [(0, (1, (.c (.bool true)))), (1, (1, (ci 10))), (2, (1, (ci 0)))]),
 ff (.storeN 3 (.t 2) (.t 18)),
 rr 3 (.mov (.c (.bool true)))])
 (.ret))
 (.seq (.reg [rr 20 (.cmp .eql (.t 4) (ci 13)),
 mv 19 20])
 (.cond (.t 19) (.seq (.reg [rr 21 (.build [(.bool false), (.int .i64 0), (.int .i64 0)] [(0, (1, (.c (.bool true)))), (1, (1, (ci 4))), (2, (1, (ci 0)))]),
 ff (.storeN 3 (.t 2) (.t 21)),
 rr 3 (.mov (.c (.bool true)))])
 (.ret))
 (.seq (.seq (.reg [rr 23 (.cmp .eql (.t 4) (ci 49)),
 mv 22 23])
 (.cond (.t 22) (.skip)
 (.reg [rr 24 (.cmp .eql (.t 4) (ci 70)),
 mv 22 24])))
 (.cond (.t 22) (.seq (.reg [rr 25 (.build [(.bool false), (.int .i64 0), (.int .i64 0)] [(0, (1, (.c (.bool true)))), (1, (1, (ci 3))), (2, (1, (ci 0)))]),
 ff (.storeN 3 (.t 2) (.t 25)),
 rr 3 (.mov (.c (.bool true)))])
 (.ret))
 (.seq (.reg [rr 27 (.cmp .eql (.t 4) (ci 90)),
 mv 26 27])
 (.cond (.t 26) (.seq (.reg [rr 28 (.build [(.bool false), (.int .i64 0), (.int .i64 0)] [(0, (1, (.c (.bool true)))), (1, (1, (ci 42))), (2, (1, (ci 0)))]),
 ff (.storeN 3 (.t 2) (.t 28)),
 rr 3 (.mov (.c (.bool true)))])
 (.ret))
 (.seq (.reg [rr 30 (.cmp .eql (.t 4) (ci 37)),
 mv 29 30])
 (.cond (.t 29) (.seq (.reg [rr 31 (.build [(.bool false), (.int .i64 0), (.int .i64 0)] [(0, (1, (.c (.bool false)))), (1, (1, (ci 12))), (2, (1, (ci 0)))]),
 ff (.storeN 3 (.t 2) (.t 31)),
 rr 3 (.mov (.c (.bool true)))])
 (.ret))
 (.seq (.reg [rr 33 (.cmp .eql (.t 4) (ci 38)),
 mv 32 33])
 (.cond (.t 32) (.seq (.reg [rr 34 (.build [(.bool false), (.int .i64 0), (.int .i64 0)] [(0, (1, (.c (.bool false)))), (1, (1, (ci 6))), (2, (1, (ci 0)))]),
 ff (.storeN 3 (.t 2) (.t 34)),
 rr 3 (.mov (.c (.bool true)))])
 (.ret))
 (.seq (.reg [rr 36 (.cmp .eql (.t 4) (ci 39)),
 mv 35 36])
 (.cond (.t 35) (.seq (.reg [rr 37 (.build [(.bool false), (.int .i64 0), (.int .i64 0)] [(0, (1, (.c (.bool false)))), (1, (1, (ci 2))), (2, (1, (ci 0)))]),
 ff (.storeN 3 (.t 2) (.t 37)),
 rr 3 (.mov (.c (.bool true)))])
 (.ret))
 (.seq (.reg [rr 39 (.cmp .eql (.t 4) (ci 41)),
 mv 38 39])
 (.cond (.t 38) (.seq (.reg [rr 40 (.build [(.bool false), (.int .i64 0), (.int .i64 0)] [(0, (1, (.c (.bool false)))), (1, (1, (ci 8))), (2, (1, (ci 0)))]),
 ff (.storeN 3 (.t 2) (.t 40)),
 rr 3 (.mov (.c (.bool true)))])
 (.ret))
 (.seq (.reg [rr 42 (.cmp .eql (.t 4) (ci 42)),
 mv 41 42])
 (.cond (.t 41) (.seq (.reg [rr 43 (.build [(.bool false), (.int .i64 0), (.int .i64 0)] [(0, (1, (.c (.bool false)))), (1, (1, (ci 15))), (2, (1, (ci 0)))]),
 ff (.storeN 3 (.t 2) (.t 43)),
 rr 3 (.mov (.c (.bool true)))])
 (.ret))
 (.seq (.reg [rr 45 (.cmp .eql (.t 4) (ci 54)),
 mv 44 45])
 (.cond (.t 44) (.seq (.reg [rr 46 (.build [(.bool false), (.int .i64 0), (.int .i64 0)] [(0, (1, (.c (.bool false)))), (1, (1, (ci 120))), (2, (1, (ci 3)))]),
 ff (.storeN 3 (.t 2) (.t 46)),
 rr 3 (.mov (.c (.bool true)))])
 (.ret))
 (.seq (.reg [rr 48 (.cmp .eql (.t 4) (ci 60)),
 mv 47 48])
 (.cond (.t 47) (.seq (.reg [rr 49 (.build [(.bool false), (.int .i64 0), (.int .i64 0)] [(0, (1, (.c (.bool false)))), (1, (1, (ci 999))), (2, (1, (ci 3)))]),
 ff (.storeN 3 (.t 2) (.t 49)),
 rr 3 (.mov (.c (.bool true)))])
 (.ret))
 (.seq (.reg [rr 51 (.cmp .eql (.t 4) (ci 95)),
 mv 50 51])
 (.cond (.t 50) (.seq (.reg [rr 52 (.build [(.bool false), (.int .i64 0), (.int .i64 0)] [(0, (1, (.c (.bool false)))), (1, (1, (ci 42))), (2, (1, (ci 0)))]),
 ff (.storeN 3 (.t 2) (.t 52)),
 rr 3 (.mov (.c (.bool true)))])
 (.ret))
 (.skip)))))))))))))))))))))))))))))))))
 (.seq (.reg [rr 53 (.build [(.bool false), (.int .i64 0), (.int .i64 0)] []),
 ff (.storeN 3 (.t 2) (.t 53)),
 rr 3 (.mov (.c (.bool false)))])
 (.ret)))⟩
/-- guichet/field.Right -/
def b280 : AFunc := ⟨50, [.tmp 4],
 .seq (.reg [rr 4 (.mov (.c (.bool false)))])
 (.seq (.reg [mv 10 0,
 cl 11 278 [.t 10],
 mv 9 11,
 rr 12 (.ext (.t 9) 0),
 rr 13 (.ext (.t 9) 1),
 nn 5 (.zbox [(.bool false), (.int .i64 0), (.int .i64 0)]),
 ff (.storeN 3 (.t 5) (.t 12)),
 mv 6 13])
 (.seq (.seq (.reg [mv 14 6,
 rr 15 (.not (.t 14)),
 mv 16 15,
 gr 17 (.mov (.t 1)) 16 false,
 gr 18 (.len 0 (.t 17)) 16 false,
 gr 19 (.fld 1 (.t 5)) 16 false,
 gr 20 (.load1 (.t 19)) 16 false,
 gr 21 (.cmp .gtr (.t 18) (.t 20)) 16 false,
 rr 22 (.pick (.t 16) (.c (.bool true)) (.t 21)),
 mv 23 22,
 gr 24 (.mov (.t 1)) 23 false,
 gr 25 (.len 0 (.t 24)) 23 false,
 gr 26 (.cmp .lss (.t 25) (ci 1)) 23 false,
 rr 27 (.pick (.t 23) (.c (.bool true)) (.t 26)),
 mv 28 27,
 gr 29 (.fld 2 (.t 5)) 28 false,
 gr 30 (.load1 (.t 29)) 28 false,
 gr 31 (.cmp .eql (.t 30) (ci 0)) 28 false,
 gr 32 (.mov (.t 31)) 28 false,
 gr 33 (.mov (.t 1)) 32 true,
 gr 34 (.len 0 (.t 33)) 32 true,
 gr 35 (.fld 1 (.t 5)) 32 true,
 gr 36 (.load1 (.t 35)) 32 true,
 gr 37 (.cmp .neq (.t 34) (.t 36)) 32 true,
 gr 38 (.pick (.t 32) (.t 37) (.c (.bool false))) 28 false,
 rr 39 (.pick (.t 28) (.c (.bool true)) (.t 38))])
 (.cond (.t 39) (.seq (.reg [rr 4 (.mov (.c (.bool false)))])
 (.ret))
 (.skip)))
 (.seq (.seq (.reg [rr 40 (.fld 0 (.t 5)),
 rr 41 (.load1 (.t 40))])
 (.cond (.t 41) (.seq (.reg [mv 43 1,
 cl 44 269 [.t 43],
 mv 42 44,
 rr 45 (.ext (.t 42) 0),
 rr 46 (.ext (.t 42) 1),
 mv 7 45,
 mv 8 46])
 (.seq (.reg [mv 47 8,
 mv 4 47])
 (.ret)))
 (.skip)))
 (.seq (.reg [mv 48 1,
 cl 49 322 [.t 48],
 mv 4 49])
 (.ret)))))⟩
/-- guichet/journal.frames -/
def b281 : AFunc := ⟨28, [.tmp 2, .tmp 3],
 .seq (.reg [rr 2 (.mov (.c (.slice none (.n 0) (.exact 0)))),
 rr 3 (.mov (ci 0))])
 (.seq (.reg [rr 4 (.mov (.c (.slice none (.n 0) (.exact 0))))])
 (.seq (.seq (.reg [mv 9 0,
 rr 10 (.len 1 (.t 9)),
 rr 11 (.mov (ci 0))])
 (.block 0 (.loop [] (.seq (.reg [rr 12 (.cmp .lss (.t 11) (.t 10))])
 (.seq (.cond (.t 12) (.skip)
 (.exit 0))
 (.seq (.block 1 (.seq (.reg [rr 13 (.idxS 17 (.t 9) (.t 11)),
 rr 14 (.loadN 17 (.t 13)),
 nn 6 (.zbox [(.int .i64 0), (.int .u16 0), (.int .u32 0), (.str []), (.int .i64 0), (.int .i64 0), (.int .i64 0), (.int .i64 0), (.int .i64 0), (.int .i64 0), (.int .i64 0), (.int .i64 0), (.int .i64 0), (.int .i64 0), (.int .i64 0), (.int .i64 0), (.int .i64 0)]),
 ff (.storeN 17 (.t 6) (.t 14))])
 (.seq (.reg [rr 16 (.loadN 17 (.t 6)),
 cl 17 323 [.t 16],
 mv 15 17,
 rr 18 (.ext (.t 15) 0),
 rr 19 (.ext (.t 15) 1),
 mv 7 18,
 mv 8 19])
 (.seq (.seq (.reg [mv 20 8,
 rr 21 (.cmp .neq (.t 20) (ci 0))])
 (.cond (.t 21) (.seq (.reg [mv 22 8,
 rr 2 (.mov (.c (.slice none (.n 0) (.exact 0)))),
 mv 3 22])
 (.ret))
 (.skip)))
 (.reg [mv 23 4,
 mv 24 7,
 ee 25 (.append (.int .u8) (.t 23) (.t 24)),
 mv 4 25])))))
 (.reg [rr 26 (.arith .add (.t 11) (ci 1)),
 mv 11 26])))))))
 (.seq (.reg [mv 27 4,
 mv 2 27,
 rr 3 (.mov (ci 0))])
 (.ret))))⟩
/-- guichet/journal.sectors -/
def b282 : AFunc := ⟨9, [.tmp 2],
 .seq (.reg [rr 2 (.mov (ci 0))])
 (.seq (.reg [mv 3 0,
 rr 4 (.len 1 (.t 3)),
 rr 5 (.arith .add (.t 4) (ci 51)),
 rr 6 (.arith .sub (.t 5) (ci 1)),
 rr 7 (.arith .quo (.t 6) (ci 51)),
 rr 8 (.minmax true (.t 7) (ci 1)),
 mv 2 8])
 (.ret))⟩
/-- (*guichet/journal.Log).batch -/
def b283 : AFunc := ⟨82, [.tmp 6],
 .seq (.reg [rr 6 (.mov (ci 0))])
 (.seq (.reg [mv 13 0,
 rr 14 (.nilchk (.t 13)),
 rr 15 (.fld 4 (.t 14)),
 rr 16 (.load1 (.t 15)),
 rr 17 (.arith .add (.t 16) (.c (.int .u32 1))),
 rr 18 (.nilchk (.t 13)),
 rr 19 (.fld 4 (.t 18)),
 ff (.store1 (.t 19) (.t 17))])
 (.seq (.reg [mv 20 2,
 cl 21 282 [.t 20],
 mv 7 21])
 (.seq (.reg [mv 22 0,
 rr 23 (.nilchk (.t 22)),
 rr 24 (.fld 4 (.t 23)),
 rr 25 (.load1 (.t 24)),
 rr 26 (.toInt .u64 (.t 25)),
 cl 27 324 [.t 26, (ci 4)],
 mv 8 27])
 (.seq (.seq (.reg [mv 28 7,
 rr 29 (.mov (ci 0))])
 (.block 0 (.loop [] (.seq (.reg [rr 30 (.cmp .lss (.t 29) (.t 28))])
 (.seq (.cond (.t 30) (.skip)
 (.exit 0))
 (.seq (.block 1 (.seq (.reg [mv 31 29,
 mv 9 31])
 (.seq (.reg [mv 32 2,
 mv 33 9,
 rr 34 (.arith .mul (.t 33) (ci 51)),
 mv 35 2,
 rr 36 (.len 1 (.t 35)),
 rr 37 (.minmax false (.t 34) (.t 36)),
 mv 38 9,
 rr 39 (.arith .mul (.t 38) (ci 51)),
 rr 40 (.arith .add (.t 39) (ci 51)),
 mv 41 2,
 rr 42 (.len 1 (.t 41)),
 rr 43 (.minmax false (.t 40) (.t 42)),
 rr 44 (.slcS 1 (.t 32) (some (.t 37)) (some (.t 43)) none),
 mv 10 44])
 (.seq (.dreg [⟨0, mv 45 8, false, []⟩,
 ⟨1, mv 46 9, false, []⟩,
 ⟨2, rr 47 (.toInt .u64 (.t 46)), false, []⟩,
 ⟨4, mv 49 7, false, []⟩,
 ⟨5, rr 50 (.toInt .u64 (.t 49)), false, []⟩,
 ⟨7, mv 52 10, false, []⟩,
 ⟨8, rr 53 (.len 1 (.t 52)), false, []⟩,
 ⟨9, rr 54 (.toInt .u8 (.t 53)), false, []⟩,
 ⟨10, nn 55 (.bslice (some (.int .u8)) 1 1 [.t 54]), false, []⟩,
 ⟨11, mv 56 10, false, []⟩,
 ⟨12, mv 57 10, false, []⟩,
 ⟨13, rr 58 (.len 1 (.t 57)), false, []⟩,
 ⟨14, rr 59 (.arith .sub (ci 51) (.t 58)), false, []⟩,
 ⟨15, nn 60 (.mkslice (.int .u8) (.t 59)), false, []⟩,
 ⟨16, mv 61 8, false, []⟩,
 ⟨3, cl 48 324 [.t 47, (ci 2)], true, [2, 1]⟩,
 ⟨6, cl 51 324 [.t 50, (ci 2)], true, [5, 4, 3, 2, 1]⟩,
 ⟨17, nn 62 (.bslice none 1 7 [.t 45, .t 48, .t 51, .t 55, .t 56, .t 60, .t 61]), false, []⟩,
 ⟨18, cl 63 272 [.t 62], true, [17, 16, 15, 14, 13, 12, 11, 10, 9, 8, 7, 6, 5, 4, 3, 2, 1, 0]⟩,
 ⟨19, mv 11 63, false, []⟩])
 (.seq (.reg [mv 64 0,
 rr 65 (.nilchk (.t 64)),
 rr 66 (.fld 0 (.t 65)),
 rr 67 (.load1 (.t 66)),
 mv 68 1,
 mv 69 9,
 rr 70 (.arith .add (.t 68) (.t 69)),
 mv 71 11,
 cl 72 325 [.t 67, .t 70, .t 71],
 mv 12 72])
 (.seq (.reg [mv 73 12,
 rr 74 (.cmp .neq (.t 73) (ci 0))])
 (.cond (.t 74) (.seq (.reg [mv 75 12,
 mv 6 75])
 (.ret))
 (.skip))))))))
 (.reg [rr 76 (.arith .add (.t 29) (ci 1)),
 mv 29 76])))))))
 (.seq (.reg [mv 77 0,
 rr 78 (.nilchk (.t 77)),
 rr 79 (.fld 0 (.t 78)),
 rr 80 (.load1 (.t 79)),
 cl 81 326 [.t 80],
 mv 6 81])
 (.ret))))))⟩
/-- (*guichet/disk.Disk).out -/
def b294 : AFunc := ⟨22, [.tmp 4],
 .seq (.reg [rr 4 (.mov (ci 0))])
 (.seq (.block 0 (.seq (.reg [mv 6 0,
 rr 7 (.nilchk (.t 6)),
 rr 8 (.fld 4 (.t 7)),
 rr 9 (.load1 (.t 8)),
 mv 5 9])
 (.cond (.t 5) (.seq (.reg [rr 4 (.mov (ci 22))])
 (.ret))
 (.seq (.reg [mv 11 1,
 rr 12 (.cmp .lss (.t 11) (ci 0)),
 mv 13 12,
 gr 14 (.mov (.t 1)) 13 false,
 gr 15 (.mov (.t 0)) 13 false,
 gr 16 (.nilchk (.t 15)) 13 false,
 gr 17 (.fld 1 (.t 16)) 13 false,
 gr 18 (.load1 (.t 17)) 13 false,
 gr 19 (.len 1 (.t 18)) 13 false,
 gr 20 (.cmp .geq (.t 14) (.t 19)) 13 false,
 rr 21 (.pick (.t 13) (.c (.bool true)) (.t 20)),
 mv 10 21])
 (.cond (.t 10) (.seq (.reg [rr 4 (.mov (ci 20))])
 (.ret))
 (.skip))))))
 (.seq (.reg [rr 4 (.mov (ci 0))])
 (.ret)))⟩
/-- guichet/txn.notes -/
def b296 : AFunc := ⟨16, [.tmp 2],
 .seq (.reg [nn 1 (.box (.t 0)),
 rr 2 (.mov (.c (.bool false)))])
 (.seq (.seq (.reg [rr 5 (.loadN 4 (.t 1)),
 rr 6 (.mov (ci 0))])
 (.block 0 (.loop [] (.seq (.reg [rr 7 (.cmp .lss (.t 6) (ci 4))])
 (.seq (.cond (.t 7) (.skip)
 (.exit 0))
 (.seq (.block 1 (.seq (.reg [rr 8 (.at 4 1 true (.t 5) (.t 6)),
 mv 4 8])
 (.seq (.reg [mv 9 4,
 rr 10 (.cmp .lss (.t 9) (ci 0)),
 mv 11 10,
 gr 12 (.mov (.t 4)) 11 false,
 gr 13 (.cmp .gtr (.t 12) (ci 10000)) 11 false,
 rr 14 (.pick (.t 11) (.c (.bool true)) (.t 13))])
 (.cond (.t 14) (.seq (.reg [rr 2 (.mov (.c (.bool false)))])
 (.ret))
 (.skip)))))
 (.reg [rr 15 (.arith .add (.t 6) (ci 1)),
 mv 6 15])))))))
 (.seq (.reg [rr 2 (.mov (.c (.bool true)))])
 (.ret)))⟩
/-- guichet/txn.noughts -/
def b297 : AFunc := ⟨6, [.tmp 2],
 .seq (.reg [nn 1 (.box (.t 0)),
 rr 2 (.mov (.c (.bool false)))])
 (.seq (.reg [rr 3 (.loadN 4 (.t 1)),
 rr 4 (.build [(.int .i64 0), (.int .i64 0), (.int .i64 0), (.int .i64 0)] []),
 rr 5 (.eqA [.i .i64, .i .i64, .i .i64, .i .i64] false (.t 3) (.t 4)),
 mv 2 5])
 (.ret))⟩
/-- internal/stringslite.Index -/
def b302 : AFunc := ⟨143, [.tmp 4],
 .seq (.reg [rr 4 (.mov (ci 0))])
 (.seq (.reg [mv 14 1,
 rr 15 (.len 0 (.t 14)),
 mv 5 15])
 (.seq (.block 0 (.seq (.reg [mv 17 5,
 rr 18 (.cmp .eql (.t 17) (ci 0)),
 mv 19 18,
 gr 20 (.mov (.t 1)) 19 false,
 gr 21 (.mov (.t 0)) 19 false,
 gr 22 (.eq1 (.s) false (.t 20) (.t 21)) 19 false,
 rr 23 (.pick (.t 19) (.c (.bool true)) (.t 22)),
 mv 16 23])
 (.cond (.t 16) (.seq (.reg [rr 4 (.mov (ci 0))])
 (.ret))
 (.seq (.reg [mv 25 5,
 rr 26 (.cmp .eql (.t 25) (ci 1)),
 mv 24 26])
 (.cond (.t 24) (.seq (.reg [mv 27 0,
 mv 28 1,
 rr 29 (.strAt (.t 28) (ci 0)),
 cl 30 329 [.t 27, .t 29],
 mv 4 30])
 (.ret))
 (.seq (.reg [mv 32 5,
 mv 33 0,
 rr 34 (.len 0 (.t 33)),
 rr 35 (.cmp .geq (.t 32) (.t 34)),
 mv 31 35])
 (.cond (.t 31) (.seq (.reg [rr 4 (.mov (ci (-1)))])
 (.ret))
 (.seq (.reg [mv 37 5,
 ee 38 (.never),
 rr 39 (.cmp .leq (.t 37) (.t 38)),
 mv 40 39,
 gr 41 (.mov (.t 0)) 40 true,
 gr 42 (.len 0 (.t 41)) 40 true,
 gr 43 (.cmp .leq (.t 42) (ci 64)) 40 true,
 rr 44 (.pick (.t 40) (.t 43) (.c (.bool false))),
 mv 36 44])
 (.cond (.t 36) (.seq (.reg [mv 45 0,
 mv 46 1,
 cl 47 330 [.t 45, .t 46],
 mv 4 47])
 (.ret))
 (.skip))))))))))
 (.seq (.reg [mv 48 1,
 rr 49 (.strAt (.t 48) (ci 0)),
 mv 6 49])
 (.seq (.reg [mv 50 1,
 rr 51 (.strAt (.t 50) (ci 1)),
 mv 7 51])
 (.seq (.reg [rr 8 (.mov (ci 0))])
 (.seq (.reg [mv 52 0,
 rr 53 (.len 0 (.t 52)),
 mv 54 5,
 rr 55 (.arith .sub (.t 53) (.t 54)),
 rr 56 (.arith .add (.t 55) (ci 1)),
 mv 9 56])
 (.seq (.reg [rr 10 (.mov (ci 0))])
 (.seq (.block 1 (.loop [] (.seq (.seq (.reg [mv 57 8,
 mv 58 9,
 rr 59 (.cmp .lss (.t 57) (.t 58))])
 (.cond (.t 59) (.skip)
 (.exit 1)))
 (.block 2 (.seq (.seq (.reg [mv 60 0,
 mv 61 8,
 rr 62 (.strAt (.t 60) (.t 61)),
 mv 63 6,
 rr 64 (.cmp .neq (.t 62) (.t 63))])
 (.cond (.t 64) (.seq (.reg [mv 65 0,
 mv 66 8,
 rr 67 (.arith .add (.t 66) (ci 1)),
 mv 68 9,
 rr 69 (.slcStr (.t 65) (some (.t 67)) (some (.t 68))),
 mv 70 6,
 cl 71 329 [.t 69, .t 70],
 mv 11 71])
 (.seq (.seq (.reg [mv 72 11,
 rr 73 (.cmp .lss (.t 72) (ci 0))])
 (.cond (.t 73) (.seq (.reg [rr 4 (.mov (ci (-1)))])
 (.ret))
 (.skip)))
 (.reg [mv 74 8,
 mv 75 11,
 rr 76 (.arith .add (.t 75) (ci 1)),
 rr 77 (.arith .add (.t 74) (.t 76)),
 mv 8 77])))
 (.skip)))
 (.seq (.seq (.reg [mv 78 0,
 mv 79 8,
 rr 80 (.arith .add (.t 79) (ci 1)),
 rr 81 (.strAt (.t 78) (.t 80)),
 mv 82 7,
 rr 83 (.cmp .eql (.t 81) (.t 82)),
 mv 84 83,
 gr 85 (.mov (.t 0)) 84 true,
 gr 86 (.mov (.t 8)) 84 true,
 gr 87 (.mov (.t 8)) 84 true,
 gr 88 (.mov (.t 5)) 84 true,
 gr 89 (.arith .add (.t 87) (.t 88)) 84 true,
 gr 90 (.slcStr (.t 85) (some (.t 86)) (some (.t 89))) 84 true,
 gr 91 (.mov (.t 1)) 84 true,
 gr 92 (.eq1 (.s) false (.t 90) (.t 91)) 84 true,
 rr 93 (.pick (.t 84) (.t 92) (.c (.bool false)))])
 (.cond (.t 93) (.seq (.reg [mv 94 8,
 mv 4 94])
 (.ret))
 (.skip)))
 (.seq (.reg [mv 95 8,
 rr 96 (.arith .add (.t 95) (ci 1)),
 mv 8 96])
 (.seq (.reg [mv 97 10,
 rr 98 (.arith .add (.t 97) (ci 1)),
 mv 10 98])
 (.seq (.reg [mv 99 5,
 ee 100 (.never),
 rr 101 (.cmp .leq (.t 99) (.t 100)),
 mv 102 101,
 gr 103 (.mov (.t 10)) 102 true,
 gr 104 (.mov (.t 8)) 102 true,
 ⟨(some 105), .e (.call (.c (.fn (.func 331) [] [])) [.t 104]), (some (102, true))⟩,
 gr 106 (.cmp .gtr (.t 103) (.t 105)) 102 true,
 rr 107 (.pick (.t 102) (.t 106) (.c (.bool false)))])
 (.cond (.t 107) (.seq (.reg [mv 108 0,
 mv 109 8,
 rr 110 (.slcStr (.t 108) (some (.t 109)) none),
 mv 111 1,
 cl 112 330 [.t 110, .t 111],
 mv 12 112])
 (.seq (.seq (.reg [mv 113 12,
 rr 114 (.cmp .geq (.t 113) (ci 0))])
 (.cond (.t 114) (.seq (.reg [mv 115 12,
 mv 116 8,
 rr 117 (.arith .add (.t 115) (.t 116)),
 mv 4 117])
 (.ret))
 (.skip)))
 (.seq (.reg [rr 4 (.mov (ci (-1)))])
 (.ret))))
 (.seq (.reg [mv 118 5,
 ee 119 (.never),
 rr 120 (.cmp .gtr (.t 118) (.t 119)),
 mv 121 120,
 gr 122 (.mov (.t 10)) 121 true,
 gr 123 (.mov (.t 8)) 121 true,
 gr 124 (.arith .shr (.t 123) (.c (.int .u64 4))) 121 true,
 gr 125 (.arith .add (ci 4) (.t 124)) 121 true,
 gr 126 (.cmp .geq (.t 122) (.t 125)) 121 true,
 rr 127 (.pick (.t 121) (.t 126) (.c (.bool false))),
 mv 128 127,
 gr 129 (.mov (.t 8)) 128 true,
 gr 130 (.mov (.t 9)) 128 true,
 gr 131 (.cmp .lss (.t 129) (.t 130)) 128 true,
 rr 132 (.pick (.t 128) (.t 131) (.c (.bool false)))])
 (.cond (.t 132) (.seq (.reg [mv 133 0,
 mv 134 8,
 rr 135 (.slcStr (.t 133) (some (.t 134)) none),
 mv 136 1,
 cl 137 332 [.t 135, .t 136],
 mv 13 137])
 (.seq (.seq (.reg [mv 138 13,
 rr 139 (.cmp .lss (.t 138) (ci 0))])
 (.cond (.t 139) (.seq (.reg [rr 4 (.mov (ci (-1)))])
 (.ret))
 (.skip)))
 (.seq (.reg [mv 140 8,
 mv 141 13,
 rr 142 (.arith .add (.t 140) (.t 141)),
 mv 4 142])
 (.ret))))
 (.skip)))))))))))))
 (.seq (.reg [rr 4 (.mov (ci (-1)))])
 (.ret))))))))))⟩
/-- internal/strconv.ParseUint -/
def b303 : AFunc := ⟨172, [.tmp 6, .tmp 7],
 .seq (.reg [rr 6 (.mov (.c (.int .u64 0))),
 rr 7 (.mov (.c .nilIfc))])
 (.seq (.seq (.reg [mv 18 0,
 rr 19 (.eq1 (.s) false (.t 18) (.c (.str [])))])
 (.cond (.t 19) (.seq (.reg [rr 20 (.ifc 378 (ci 2)),
 rr 6 (.mov (.c (.int .u64 0))),
 mv 7 20])
 (.ret))
 (.skip)))
 (.seq (.reg [mv 21 1,
 rr 22 (.cmp .eql (.t 21) (ci 0)),
 mv 8 22])
 (.seq (.reg [mv 23 0,
 mv 9 23])
 (.seq (.block 0 (.seq (.reg [mv 26 1,
 rr 27 (.cmp .leq (ci 2) (.t 26)),
 mv 28 27,
 gr 29 (.mov (.t 1)) 28 true,
 gr 30 (.cmp .leq (.t 29) (ci 36)) 28 true,
 rr 31 (.pick (.t 28) (.t 30) (.c (.bool false))),
 mv 25 31])
 (.cond (.t 25) (.skip)
 (.seq (.reg [mv 33 1,
 rr 34 (.cmp .eql (.t 33) (ci 0)),
 mv 32 34])
 (.cond (.t 32) (.seq (.reg [rr 1 (.mov (ci 10))])
 (.seq (.reg [mv 35 0,
 rr 36 (.strAt (.t 35) (ci 0)),
 rr 37 (.cmp .eql (.t 36) (.c (.int .u8 48)))])
 (.cond (.t 37) (.block 1 (.seq (.reg [mv 41 0,
 rr 42 (.len 0 (.t 41)),
 rr 43 (.cmp .geq (.t 42) (ci 3)),
 mv 44 43,
 gr 45 (.mov (.t 0)) 44 true,
 gr 46 (.strAt (.t 45) (ci 1)) 44 true,
 ⟨(some 47), .e (.call (.c (.fn (.func 333) [] [])) [.t 46]), (some (44, true))⟩,
 gr 48 (.cmp .eql (.t 47) (.c (.int .u8 98))) 44 true,
 rr 49 (.pick (.t 44) (.t 48) (.c (.bool false))),
 mv 40 49])
 (.cond (.t 40) (.seq (.reg [rr 1 (.mov (ci 2))])
 (.reg [mv 50 0,
 rr 51 (.slcStr (.t 50) (some (ci 2)) none),
 mv 0 51]))
 (.seq (.reg [mv 53 0,
 rr 54 (.len 0 (.t 53)),
 rr 55 (.cmp .geq (.t 54) (ci 3)),
 mv 56 55,
 gr 57 (.mov (.t 0)) 56 true,
 gr 58 (.strAt (.t 57) (ci 1)) 56 true,
 ⟨(some 59), .e (.call (.c (.fn (.func 333) [] [])) [.t 58]), (some (56, true))⟩,
 gr 60 (.cmp .eql (.t 59) (.c (.int .u8 111))) 56 true,
 rr 61 (.pick (.t 56) (.t 60) (.c (.bool false))),
 mv 52 61])
 (.cond (.t 52) (.seq (.reg [rr 1 (.mov (ci 8))])
 (.reg [mv 62 0,
 rr 63 (.slcStr (.t 62) (some (ci 2)) none),
 mv 0 63]))
 (.seq (.reg [mv 65 0,
 rr 66 (.len 0 (.t 65)),
 rr 67 (.cmp .geq (.t 66) (ci 3)),
 mv 68 67,
 gr 69 (.mov (.t 0)) 68 true,
 gr 70 (.strAt (.t 69) (ci 1)) 68 true,
 ⟨(some 71), .e (.call (.c (.fn (.func 333) [] [])) [.t 70]), (some (68, true))⟩,
 gr 72 (.cmp .eql (.t 71) (.c (.int .u8 120))) 68 true,
 rr 73 (.pick (.t 68) (.t 72) (.c (.bool false))),
 mv 64 73])
 (.cond (.t 64) (.seq (.reg [rr 1 (.mov (ci 16))])
 (.reg [mv 74 0,
 rr 75 (.slcStr (.t 74) (some (ci 2)) none),
 mv 0 75]))
 (.seq (.reg [rr 1 (.mov (ci 8))])
 (.reg [mv 38 0,
 rr 39 (.slcStr (.t 38) (some (ci 1)) none),
 mv 0 39])))))))))
 (.skip))))
 (.seq (.reg [rr 24 (.ifc 378 (ci 3)),
 rr 6 (.mov (.c (.int .u64 0))),
 mv 7 24])
 (.ret)))))))
 (.seq (.seq (.reg [mv 76 2,
 rr 77 (.cmp .eql (.t 76) (ci 0))])
 (.cond (.t 77) (.reg [rr 2 (.mov (ci 64))])
 (.seq (.reg [mv 78 2,
 rr 79 (.cmp .lss (.t 78) (ci 0)),
 mv 80 79,
 gr 81 (.mov (.t 2)) 80 false,
 gr 82 (.cmp .gtr (.t 81) (ci 64)) 80 false,
 rr 83 (.pick (.t 80) (.c (.bool true)) (.t 82))])
 (.cond (.t 83) (.seq (.reg [rr 84 (.ifc 378 (ci 4)),
 rr 6 (.mov (.c (.int .u64 0))),
 mv 7 84])
 (.ret))
 (.skip)))))
 (.seq (.reg [rr 10 (.mov (.c (.int .u64 0)))])
 (.seq (.seq (.reg [mv 85 1])
 (.block 2 (.seq (.reg [rr 91 (.cmp .eql (.t 85) (ci 10)),
 mv 90 91])
 (.cond (.t 90) (.reg [rr 10 (.mov (.c (.int .u64 1844674407370955162)))])
 (.seq (.reg [rr 93 (.cmp .eql (.t 85) (ci 16)),
 mv 92 93])
 (.cond (.t 92) (.reg [rr 10 (.mov (.c (.int .u64 1152921504606846976)))])
 (.reg [mv 86 1,
 rr 87 (.toInt .u64 (.t 86)),
 rr 88 (.arith .quo (.c (.int .u64 18446744073709551615)) (.t 87)),
 rr 89 (.arith .add (.t 88) (.c (.int .u64 1))),
 mv 10 89])))))))
 (.seq (.reg [mv 94 2,
 rr 95 (.toInt .u64 (.t 94)),
 rr 96 (.arith .shl (.c (.int .u64 1)) (.t 95)),
 rr 97 (.arith .sub (.t 96) (.c (.int .u64 1))),
 mv 11 97])
 (.seq (.reg [rr 12 (.mov (.c (.bool false)))])
 (.seq (.reg [rr 13 (.mov (.c (.int .u64 0)))])
 (.seq (.seq (.reg [mv 98 0,
 nn 99 (.bytes (.t 98)),
 rr 100 (.len 1 (.t 99)),
 rr 101 (.mov (ci 0))])
 (.block 3 (.loop [] (.seq (.reg [rr 102 (.cmp .lss (.t 101) (.t 100))])
 (.seq (.cond (.t 102) (.skip)
 (.exit 3))
 (.seq (.block 4 (.seq (.reg [rr 103 (.idxS 1 (.t 99) (.t 101)),
 rr 104 (.load1 (.t 103)),
 mv 15 104])
 (.seq (.reg [rr 16 (.mov (.c (.int .u8 0)))])
 (.seq (.block 5 (.seq (.reg [mv 107 15,
 rr 108 (.cmp .eql (.t 107) (.c (.int .u8 95))),
 mv 109 108,
 gr 110 (.mov (.t 8)) 109 true,
 rr 111 (.pick (.t 109) (.t 110) (.c (.bool false))),
 mv 106 111])
 (.cond (.t 106) (.seq (.reg [rr 12 (.mov (.c (.bool true)))])
 (.exit 4))
 (.seq (.reg [mv 113 15,
 rr 114 (.cmp .leq (.c (.int .u8 48)) (.t 113)),
 mv 115 114,
 gr 116 (.mov (.t 15)) 115 true,
 gr 117 (.cmp .leq (.t 116) (.c (.int .u8 57))) 115 true,
 rr 118 (.pick (.t 115) (.t 117) (.c (.bool false))),
 mv 112 118])
 (.cond (.t 112) (.reg [mv 119 15,
 rr 120 (.arith .sub (.t 119) (.c (.int .u8 48))),
 mv 16 120])
 (.seq (.reg [mv 122 15,
 cl 123 333 [.t 122],
 rr 124 (.cmp .leq (.c (.int .u8 97)) (.t 123)),
 mv 125 124,
 gr 126 (.mov (.t 15)) 125 true,
 ⟨(some 127), .e (.call (.c (.fn (.func 333) [] [])) [.t 126]), (some (125, true))⟩,
 gr 128 (.cmp .leq (.t 127) (.c (.int .u8 122))) 125 true,
 rr 129 (.pick (.t 125) (.t 128) (.c (.bool false))),
 mv 121 129])
 (.cond (.t 121) (.reg [mv 130 15,
 cl 131 333 [.t 130],
 rr 132 (.arith .sub (.t 131) (.c (.int .u8 97))),
 rr 133 (.arith .add (.t 132) (.c (.int .u8 10))),
 mv 16 133])
 (.seq (.reg [rr 105 (.ifc 378 (ci 2)),
 rr 6 (.mov (.c (.int .u64 0))),
 mv 7 105])
 (.ret)))))))))
 (.seq (.seq (.reg [mv 134 16,
 mv 135 1,
 rr 136 (.toInt .u8 (.t 135)),
 rr 137 (.cmp .geq (.t 134) (.t 136))])
 (.cond (.t 137) (.seq (.reg [rr 138 (.ifc 378 (ci 2)),
 rr 6 (.mov (.c (.int .u64 0))),
 mv 7 138])
 (.ret))
 (.skip)))
 (.seq (.seq (.reg [mv 139 13,
 mv 140 10,
 rr 141 (.cmp .geq (.t 139) (.t 140))])
 (.cond (.t 141) (.seq (.reg [mv 142 11,
 rr 143 (.ifc 378 (ci 1)),
 mv 6 142,
 mv 7 143])
 (.ret))
 (.skip)))
 (.seq (.reg [mv 144 13,
 mv 145 1,
 rr 146 (.toInt .u64 (.t 145)),
 rr 147 (.arith .mul (.t 144) (.t 146)),
 mv 13 147])
 (.seq (.reg [mv 148 13,
 mv 149 16,
 rr 150 (.toInt .u64 (.t 149)),
 rr 151 (.arith .add (.t 148) (.t 150)),
 mv 17 151])
 (.seq (.seq (.reg [mv 152 17,
 mv 153 13,
 rr 154 (.cmp .lss (.t 152) (.t 153)),
 mv 155 154,
 gr 156 (.mov (.t 17)) 155 false,
 gr 157 (.mov (.t 11)) 155 false,
 gr 158 (.cmp .gtr (.t 156) (.t 157)) 155 false,
 rr 159 (.pick (.t 155) (.c (.bool true)) (.t 158))])
 (.cond (.t 159) (.seq (.reg [mv 160 11,
 rr 161 (.ifc 378 (ci 1)),
 mv 6 160,
 mv 7 161])
 (.ret))
 (.skip)))
 (.reg [mv 162 17,
 mv 13 162]))))))))))
 (.reg [rr 163 (.arith .add (.t 101) (ci 1)),
 mv 101 163])))))))
 (.seq (.seq (.reg [mv 164 12,
 mv 165 164,
 gr 166 (.mov (.t 9)) 165 true,
 ⟨(some 167), .e (.call (.c (.fn (.func 334) [] [])) [.t 166]), (some (165, true))⟩,
 gr 168 (.not (.t 167)) 165 true,
 rr 169 (.pick (.t 165) (.t 168) (.c (.bool false)))])
 (.cond (.t 169) (.seq (.reg [rr 170 (.ifc 378 (ci 2)),
 rr 6 (.mov (.c (.int .u64 0))),
 mv 7 170])
 (.ret))
 (.skip)))
 (.seq (.reg [mv 171 13,
 mv 6 171,
 rr 7 (.mov (.c .nilIfc))])
 (.ret))))))))))))))⟩
/-- internal/strconv.small -/
def b306 : AFunc := ⟨15, [.tmp 2],
 .seq (.reg [rr 2 (.mov (.c (.str [])))])
 (.seq (.seq (.reg [mv 3 0,
 rr 4 (.cmp .lss (.t 3) (ci 10))])
 (.cond (.t 4) (.seq (.reg [mv 5 0,
 mv 6 0,
 rr 7 (.arith .add (.t 6) (ci 1)),
 rr 8 (.slcStr (.c (.str [48, 49, 50, 51, 52, 53, 54, 55, 56, 57, 97, 98, 99, 100, 101, 102, 103, 104, 105, 106, 107, 108, 109, 110, 111, 112, 113, 114, 115, 116, 117, 118, 119, 120, 121, 122])) (some (.t 5)) (some (.t 7))),
 mv 2 8])
 (.ret))
 (.skip)))
 (.seq (.reg [mv 9 0,
 rr 10 (.arith .mul (.t 9) (ci 2)),
 mv 11 0,
 rr 12 (.arith .mul (.t 11) (ci 2)),
 rr 13 (.arith .add (.t 12) (ci 2)),
 rr 14 (.slcStr (.c (.str [48, 48, 48, 49, 48, 50, 48, 51, 48, 52, 48, 53, 48, 54, 48, 55, 48, 56, 48, 57, 49, 48, 49, 49, 49, 50, 49, 51, 49, 52, 49, 53, 49, 54, 49, 55, 49, 56, 49, 57, 50, 48, 50, 49, 50, 50, 50, 51, 50, 52, 50, 53, 50, 54, 50, 55, 50, 56, 50, 57, 51, 48, 51, 49, 51, 50, 51, 51, 51, 52, 51, 53, 51, 54, 51, 55, 51, 56, 51, 57, 52, 48, 52, 49, 52, 50, 52, 51, 52, 52, 52, 53, 52, 54, 52, 55, 52, 56, 52, 57, 53, 48, 53, 49, 53, 50, 53, 51, 53, 52, 53, 53, 53, 54, 53, 55, 53, 56, 53, 57, 54, 48, 54, 49, 54, 50, 54, 51, 54, 52, 54, 53, 54, 54, 54, 55, 54, 56, 54, 57, 55, 48, 55, 49, 55, 50, 55, 51, 55, 52, 55, 53, 55, 54, 55, 55, 55, 56, 55, 57, 56, 48, 56, 49, 56, 50, 56, 51, 56, 52, 56, 53, 56, 54, 56, 55, 56, 56, 56, 57, 57, 48, 57, 49, 57, 50, 57, 51, 57, 52, 57, 53, 57, 54, 57, 55, 57, 56, 57, 57])) (some (.t 10)) (some (.t 13))),
 mv 2 14])
 (.ret)))⟩
/-- internal/strconv.FormatUint -/
def b311 : AFunc := ⟨32, [.tmp 4],
 .seq (.reg [rr 4 (.mov (.c (.str [])))])
 (.seq (.seq (.reg [mv 9 1,
 rr 10 (.cmp .eql (.t 9) (ci 10))])
 (.cond (.t 10) (.seq (.seq (.reg [mv 11 0,
 rr 12 (.cmp .lss (.t 11) (.c (.int .u64 100)))])
 (.cond (.t 12) (.seq (.reg [mv 13 0,
 rr 14 (.toInt .i64 (.t 13)),
 cl 15 306 [.t 14],
 mv 4 15])
 (.ret))
 (.skip)))
 (.seq (.reg [nn 5 (.zbox [(.ai .u8 24 (List.replicate 24 0))])])
 (.seq (.reg [mv 16 0,
 cl 17 307 [.t 16],
 mv 6 17])
 (.seq (.reg [mv 18 6,
 rr 19 (.slcA 24 1 (.t 5) none (some (.t 18))),
 mv 20 0,
 cl 21 308 [.t 19, .t 20]])
 (.seq (.reg [mv 22 6,
 rr 23 (.slcA 24 1 (.t 5) none (some (.t 22))),
 rr 24 (.toStr (.t 23)),
 mv 4 24])
 (.ret))))))
 (.skip)))
 (.seq (.reg [mv 26 0,
 mv 27 1,
 cl 28 309 [(.c (.slice none (.n 0) (.exact 0))), .t 26, .t 27, (.c (.bool false)), (.c (.bool false))],
 mv 25 28,
 rr 29 (.ext (.t 25) 0),
 rr 30 (.ext (.t 25) 1),
 mv 7 29,
 mv 8 30])
 (.seq (.reg [mv 31 8,
 mv 4 31])
 (.ret))))⟩
/-- slices.Index[[]int,int] -/
def b321 : AFunc := ⟨19, [.tmp 4],
 .seq (.reg [rr 4 (.mov (ci 0))])
 (.seq (.seq (.reg [mv 6 0,
 rr 7 (.len 1 (.t 6)),
 rr 8 (.mov (ci 0))])
 (.block 0 (.loop [] (.seq (.reg [rr 9 (.cmp .lss (.t 8) (.t 7))])
 (.seq (.cond (.t 9) (.skip)
 (.exit 0))
 (.seq (.block 1 (.seq (.reg [mv 10 8,
 mv 5 10])
 (.seq (.reg [mv 11 1,
 mv 12 0,
 mv 13 5,
 rr 14 (.idxS 1 (.t 12) (.t 13)),
 rr 15 (.load1 (.t 14)),
 rr 16 (.cmp .eql (.t 11) (.t 15))])
 (.cond (.t 16) (.seq (.reg [mv 17 5,
 mv 4 17])
 (.ret))
 (.skip)))))
 (.reg [rr 18 (.arith .add (.t 8) (ci 1)),
 mv 8 18])))))))
 (.seq (.reg [rr 4 (.mov (ci (-1)))])
 (.ret)))⟩
/-- guichet/field.text -/
def b322 : AFunc := ⟨20, [.tmp 2],
 .seq (.reg [rr 2 (.mov (.c (.bool false)))])
 (.seq (.seq (.reg [mv 4 0,
 rr 5 (.len 0 (.t 4)),
 rr 6 (.mov (ci 0))])
 (.block 0 (.loop [] (.seq (.reg [rr 7 (.cmp .lss (.t 6) (.t 5))])
 (.seq (.cond (.t 7) (.skip)
 (.exit 0))
 (.seq (.block 1 (.seq (.reg [mv 8 6,
 mv 3 8])
 (.seq (.reg [mv 9 0,
 mv 10 3,
 rr 11 (.strAt (.t 9) (.t 10)),
 rr 12 (.cmp .lss (.t 11) (.c (.int .u8 32))),
 mv 13 12,
 gr 14 (.mov (.t 0)) 13 false,
 gr 15 (.mov (.t 3)) 13 false,
 gr 16 (.strAt (.t 14) (.t 15)) 13 false,
 gr 17 (.cmp .gtr (.t 16) (.c (.int .u8 126))) 13 false,
 rr 18 (.pick (.t 13) (.c (.bool true)) (.t 17))])
 (.cond (.t 18) (.seq (.reg [rr 2 (.mov (.c (.bool false)))])
 (.ret))
 (.skip)))))
 (.reg [rr 19 (.arith .add (.t 6) (ci 1)),
 mv 6 19])))))))
 (.seq (.reg [rr 2 (.mov (.c (.bool true)))])
 (.ret)))⟩
/-- guichet/frame.Put -/
def b323 : AFunc := ⟨76, [.tmp 2, .tmp 3],
 .seq (.reg [nn 1 (.box (.t 0)),
 rr 2 (.mov (.c (.slice none (.n 0) (.exact 0)))),
 rr 3 (.mov (ci 0))])
 (.seq (.seq (.reg [rr 9 (.loadN 17 (.t 1)),
 cl 10 137 [.t 9],
 rr 11 (.not (.t 10))])
 (.cond (.t 11) (.seq (.reg [rr 2 (.mov (.c (.slice none (.n 0) (.exact 0)))),
 rr 3 (.mov (ci 27))])
 (.ret))
 (.skip)))
 (.seq (.dreg [⟨0, rr 12 (.fld 0 (.t 1)), false, []⟩,
 ⟨1, rr 13 (.load1 (.t 12)), false, []⟩,
 ⟨2, rr 14 (.toInt .u8 (.t 13)), false, []⟩,
 ⟨3, nn 15 (.bslice (some (.int .u8)) 1 1 [.t 14]), false, []⟩,
 ⟨4, rr 16 (.fld 1 (.t 1)), false, []⟩,
 ⟨5, rr 17 (.fld 0 (.t 16)), false, []⟩,
 ⟨6, rr 18 (.load1 (.t 17)), false, []⟩,
 ⟨7, rr 19 (.toInt .u64 (.t 18)), false, []⟩,
 ⟨9, rr 21 (.fld 1 (.t 1)), false, []⟩,
 ⟨10, rr 22 (.fld 1 (.t 21)), false, []⟩,
 ⟨11, rr 23 (.load1 (.t 22)), false, []⟩,
 ⟨12, rr 24 (.toInt .u64 (.t 23)), false, []⟩,
 ⟨14, rr 26 (.fld 4 (.t 1)), false, []⟩,
 ⟨15, rr 27 (.load1 (.t 26)), false, []⟩,
 ⟨16, rr 28 (.toInt .u64 (.t 27)), false, []⟩,
 ⟨8, cl 20 324 [.t 19, (ci 2)], true, [7, 6, 5, 4]⟩,
 ⟨13, cl 25 324 [.t 24, (ci 4)], true, [12, 11, 10, 9, 8, 7, 6, 5, 4]⟩,
 ⟨17, cl 29 324 [.t 28, (ci 4)], true, [16, 15, 14, 13, 12, 11, 10, 9, 8, 7, 6, 5, 4]⟩,
 ⟨18, nn 30 (.bslice none 1 4 [.t 15, .t 20, .t 25, .t 29]), false, []⟩,
 ⟨19, cl 31 272 [.t 30], true, [18, 17, 16, 15, 14, 13, 12, 11, 10, 9, 8, 7, 6, 5, 4, 3, 2, 1, 0]⟩,
 ⟨20, mv 4 31, false, []⟩])
 (.seq (.seq (.reg [rr 32 (.fld 5 (.t 1)),
 rr 33 (.loadN 4 (.t 32)),
 rr 34 (.fld 9 (.t 1)),
 rr 35 (.loadN 4 (.t 34)),
 rr 36 (.fld 13 (.t 1)),
 rr 37 (.loadN 4 (.t 36)),
 nn 38 (.bslice (some .notes) 4 3 [.t 33, .t 35, .t 37]),
 rr 39 (.len 1 (.t 38)),
 rr 40 (.mov (ci 0))])
 (.block 0 (.loop [] (.seq (.reg [rr 41 (.cmp .lss (.t 40) (.t 39))])
 (.seq (.cond (.t 41) (.skip)
 (.exit 0))
 (.seq (.block 1 (.seq (.reg [rr 42 (.idxS 4 (.t 38) (.t 40)),
 rr 43 (.loadN 4 (.t 42)),
 nn 6 (.zbox [(.int .i64 0), (.int .i64 0), (.int .i64 0), (.int .i64 0)]),
 ff (.storeN 4 (.t 6) (.t 43))])
 (.seq (.reg [rr 44 (.loadN 4 (.t 6)),
 rr 45 (.mov (ci 0))])
 (.block 2 (.loop [] (.seq (.reg [rr 46 (.cmp .lss (.t 45) (ci 4))])
 (.seq (.cond (.t 46) (.skip)
 (.exit 2))
 (.seq (.block 3 (.seq (.reg [rr 47 (.at 4 1 true (.t 44) (.t 45)),
 mv 8 47])
 (.reg [mv 48 4,
 mv 49 8,
 rr 50 (.toInt .u64 (.t 49)),
 cl 51 324 [.t 50, (ci 2)],
 ee 52 (.append (.int .u8) (.t 48) (.t 51)),
 mv 4 52])))
 (.reg [rr 53 (.arith .add (.t 45) (ci 1)),
 mv 45 53])))))))))
 (.reg [rr 54 (.arith .add (.t 40) (ci 1)),
 mv 40 54])))))))
 (.seq (.dreg [⟨0, mv 55 4, false, []⟩,
 ⟨1, rr 56 (.fld 3 (.t 1)), false, []⟩,
 ⟨2, rr 57 (.load1 (.t 56)), false, []⟩,
 ⟨3, rr 58 (.len 0 (.t 57)), false, []⟩,
 ⟨4, rr 59 (.toInt .u8 (.t 58)), false, []⟩,
 ⟨5, nn 60 (.bslice (some (.int .u8)) 1 1 [.t 59]), false, []⟩,
 ⟨7, rr 62 (.fld 3 (.t 1)), false, []⟩,
 ⟨8, rr 63 (.load1 (.t 62)), false, []⟩,
 ⟨6, ee 61 (.append (.int .u8) (.t 55) (.t 60)), true, [5, 4, 3, 2, 1, 0]⟩,
 ⟨9, ee 64 (.append (.int .u8) (.t 61) (.t 63)), true, [8, 7, 6, 5, 4, 3, 2, 1, 0]⟩,
 ⟨10, mv 4 64, false, []⟩])
 (.seq (.reg [mv 65 4,
 rr 66 (.len 1 (.t 65)),
 rr 67 (.toInt .u8 (.t 66)),
 nn 68 (.bslice (some (.int .u8)) 1 2 [(.c (.int .u8 165)), .t 67]),
 mv 69 4,
 mv 70 4,
 cl 71 193 [.t 70],
 rr 72 (.toInt .u64 (.t 71)),
 cl 73 324 [.t 72, (ci 4)],
 nn 74 (.bslice none 1 3 [.t 68, .t 69, .t 73]),
 cl 75 272 [.t 74],
 mv 2 75,
 rr 3 (.mov (ci 0))])
 (.ret))))))⟩
/-- guichet/arith.Bytes -/
def b324 : AFunc := ⟨32, [.tmp 4],
 .seq (.reg [rr 4 (.mov (.c (.slice none (.n 0) (.exact 0))))])
 (.seq (.reg [rr 5 (.mov (.c (.slice none (.n 0) (.exact 0))))])
 (.seq (.seq (.reg [mv 8 1,
 rr 9 (.minmax false (.t 8) (ci 64)),
 rr 10 (.arith .sub (.t 9) (ci 1)),
 mv 6 10])
 (.block 0 (.loop [] (.seq (.seq (.reg [mv 11 1,
 rr 12 (.cmp .gtr (.t 11) (ci 0)),
 mv 13 12,
 gr 14 (.mov (.t 6)) 13 true,
 gr 15 (.cmp .geq (.t 14) (ci 0)) 13 true,
 rr 16 (.pick (.t 13) (.t 15) (.c (.bool false)))])
 (.cond (.t 16) (.skip)
 (.exit 0)))
 (.seq (.block 1 (.seq (.reg [rr 7 (.mov (.c (.int .u8 0)))])
 (.seq (.seq (.reg [mv 19 6,
 rr 20 (.cmp .lss (.t 19) (ci 8))])
 (.cond (.t 20) (.reg [mv 21 0,
 mv 22 6,
 rr 23 (.arith .mul (ci 8) (.t 22)),
 rr 24 (.toInt .u64 (.t 23)),
 rr 25 (.arith .shr (.t 21) (.t 24)),
 rr 26 (.toInt .u8 (.t 25)),
 mv 7 26])
 (.skip)))
 (.reg [mv 27 5,
 mv 28 7,
 nn 29 (.bslice (some (.int .u8)) 1 1 [.t 28]),
 ee 30 (.append (.int .u8) (.t 27) (.t 29)),
 mv 5 30]))))
 (.reg [mv 17 6,
 rr 18 (.arith .sub (.t 17) (ci 1)),
 mv 6 18]))))))
 (.seq (.reg [mv 31 5,
 mv 4 31])
 (.ret))))⟩
/-- (*guichet/disk.Disk).Write -/
def b325 : AFunc := ⟨43, [.tmp 6],
 .seq (.reg [rr 6 (.mov (ci 0))])
 (.seq (.seq (.reg [mv 10 0,
 mv 11 1,
 cl 12 294 [.t 10, .t 11],
 mv 7 12])
 (.seq (.reg [mv 13 7,
 rr 14 (.cmp .neq (.t 13) (ci 0))])
 (.cond (.t 14) (.seq (.reg [mv 15 7,
 mv 6 15])
 (.ret))
 (.skip))))
 (.seq (.seq (.reg [mv 16 0,
 cl 17 343 [.t 16],
 mv 8 17])
 (.seq (.reg [mv 18 8,
 rr 19 (.cmp .neq (.t 18) (ci 0))])
 (.cond (.t 19) (.seq (.reg [mv 20 8,
 mv 6 20])
 (.ret))
 (.skip))))
 (.seq (.reg [nn 9 (.zbox [(.ai .u8 64 (List.replicate 64 0))])])
 (.seq (.reg [rr 21 (.slcA 64 1 (.t 9) none none),
 mv 22 2,
 ee 23 (.copy (.int .u8) (.t 21) (.t 22))])
 (.seq (.dreg [⟨0, mv 24 0, false, []⟩,
 ⟨1, rr 25 (.nilchk (.t 24)), false, []⟩,
 ⟨2, rr 26 (.fld 1 (.t 25)), false, []⟩,
 ⟨3, rr 27 (.load1 (.t 26)), false, []⟩,
 ⟨4, mv 28 1, false, []⟩,
 ⟨5, rr 29 (.loadN 64 (.t 9)), false, []⟩,
 ⟨6, rr 30 (.idxS 64 (.t 27) (.t 28)), false, []⟩,
 ⟨7, ff (.storeN 64 (.t 30) (.t 29)), true, [6, 5, 4, 3, 2, 1, 0]⟩])
 (.seq (.dreg [⟨0, mv 31 0, false, []⟩,
 ⟨1, mv 32 0, false, []⟩,
 ⟨2, rr 33 (.nilchk (.t 32)), false, []⟩,
 ⟨3, rr 34 (.fld 2 (.t 33)), false, []⟩,
 ⟨4, rr 35 (.load1 (.t 34)), false, []⟩,
 ⟨5, mv 36 1, false, []⟩,
 ⟨6, rr 37 (.loadN 64 (.t 9)), false, []⟩,
 ⟨7, rr 38 (.build [(.int .i64 0), (.ai .u8 64 (List.replicate 64 0))] [(0, (1, (.t 36))), (1, (64, (.t 37)))]), false, []⟩,
 ⟨8, nn 39 (.bslice (some .wr) 65 1 [.t 38]), false, []⟩,
 ⟨9, ee 40 (.append .wr (.t 35) (.t 39)), true, [8, 7, 6, 5, 4, 3, 2, 1]⟩,
 ⟨10, rr 41 (.nilchk (.t 31)), false, []⟩,
 ⟨11, rr 42 (.fld 2 (.t 41)), false, []⟩,
 ⟨12, ff (.store1 (.t 42) (.t 40)), true, [11, 10, 9, 8, 7, 6, 5, 4, 3, 2, 1, 0]⟩])
 (.seq (.reg [rr 6 (.mov (ci 0))])
 (.ret))))))))⟩
/-- (*guichet/disk.Disk).Sync -/
def b326 : AFunc := ⟨37, [.tmp 2],
 .seq (.reg [rr 2 (.mov (ci 0))])
 (.seq (.seq (.reg [mv 6 0,
 rr 7 (.nilchk (.t 6)),
 rr 8 (.fld 4 (.t 7)),
 rr 9 (.load1 (.t 8))])
 (.cond (.t 9) (.seq (.reg [rr 2 (.mov (ci 22))])
 (.ret))
 (.skip)))
 (.seq (.seq (.reg [mv 10 0,
 cl 11 343 [.t 10],
 mv 3 11])
 (.seq (.reg [mv 12 3,
 rr 13 (.cmp .neq (.t 12) (ci 0))])
 (.cond (.t 13) (.seq (.reg [mv 14 3,
 mv 2 14])
 (.ret))
 (.skip))))
 (.seq (.seq (.reg [mv 15 0,
 rr 16 (.nilchk (.t 15)),
 rr 17 (.fld 2 (.t 16)),
 rr 18 (.load1 (.t 17)),
 rr 19 (.len 1 (.t 18)),
 rr 20 (.mov (ci 0))])
 (.block 0 (.loop [] (.seq (.reg [rr 21 (.cmp .lss (.t 20) (.t 19))])
 (.seq (.cond (.t 21) (.skip)
 (.exit 0))
 (.seq (.block 1 (.seq (.reg [rr 22 (.idxS 65 (.t 18) (.t 20)),
 rr 23 (.loadN 65 (.t 22)),
 nn 5 (.zbox [(.int .i64 0), (.ai .u8 64 (List.replicate 64 0))]),
 ff (.storeN 65 (.t 5) (.t 23))])
 (.dreg [⟨0, mv 24 0, false, []⟩,
 ⟨1, rr 25 (.nilchk (.t 24)), false, []⟩,
 ⟨2, rr 26 (.fld 0 (.t 25)), false, []⟩,
 ⟨3, rr 27 (.load1 (.t 26)), false, []⟩,
 ⟨4, rr 28 (.fld 0 (.t 5)), false, []⟩,
 ⟨5, rr 29 (.load1 (.t 28)), false, []⟩,
 ⟨6, rr 30 (.fld 1 (.t 5)), false, []⟩,
 ⟨7, rr 31 (.loadN 64 (.t 30)), false, []⟩,
 ⟨8, rr 32 (.idxS 64 (.t 27) (.t 29)), false, []⟩,
 ⟨9, ff (.storeN 64 (.t 32) (.t 31)), true, [8, 7, 6, 5, 4, 3, 2, 1, 0]⟩])))
 (.reg [rr 33 (.arith .add (.t 20) (ci 1)),
 mv 20 33])))))))
 (.seq (.reg [mv 34 0,
 rr 35 (.nilchk (.t 34)),
 rr 36 (.fld 2 (.t 35)),
 ff (.store1 (.t 36) (.c (.slice none (.n 0) (.exact 0))))])
 (.seq (.reg [rr 2 (.mov (ci 0))])
 (.ret))))))⟩
/-- internal/stringslite.IndexByte -/
def b329 : AFunc := ⟨8, [.tmp 4],
 .seq (.reg [rr 4 (.mov (ci 0))])
 (.seq (.reg [mv 5 0,
 mv 6 1,
 cl 7 344 [.t 5, .t 6],
 mv 4 7])
 (.ret))⟩
/-- (*guichet/disk.Disk).power -/
def b343 : AFunc := ⟨27, [.tmp 2],
 .seq (.reg [rr 2 (.mov (ci 0))])
 (.seq (.seq (.reg [mv 3 0,
 rr 4 (.nilchk (.t 3)),
 rr 5 (.fld 3 (.t 4)),
 rr 6 (.load1 (.t 5)),
 rr 7 (.cmp .gtr (.t 6) (ci 0))])
 (.cond (.t 7) (.seq (.reg [mv 8 0,
 rr 9 (.nilchk (.t 8)),
 rr 10 (.fld 3 (.t 9)),
 rr 11 (.load1 (.t 10)),
 rr 12 (.arith .sub (.t 11) (ci 1)),
 rr 13 (.nilchk (.t 8)),
 rr 14 (.fld 3 (.t 13)),
 ff (.store1 (.t 14) (.t 12))])
 (.reg [mv 15 0,
 mv 16 0,
 rr 17 (.nilchk (.t 16)),
 rr 18 (.fld 3 (.t 17)),
 rr 19 (.load1 (.t 18)),
 rr 20 (.cmp .eql (.t 19) (ci 0)),
 rr 21 (.nilchk (.t 15)),
 rr 22 (.fld 4 (.t 21)),
 ff (.store1 (.t 22) (.t 20))]))
 (.skip)))
 (.seq (.seq (.reg [mv 23 0,
 rr 24 (.nilchk (.t 23)),
 rr 25 (.fld 4 (.t 24)),
 rr 26 (.load1 (.t 25))])
 (.cond (.t 26) (.seq (.reg [rr 2 (.mov (ci 22))])
 (.ret))
 (.skip)))
 (.seq (.reg [rr 2 (.mov (ci 0))])
 (.ret))))⟩
end Go.Sx

/- That these are the program's functions: part 0. -/
set_option maxRecDepth 1000000
namespace Go.Sx
open Go.Proofs
theorem d8 : compF Tryz.prog tt Tryz.f8 = some b8 := by kernel_rfl
theorem d11 : compF Tryz.prog tt Tryz.f11 = some b11 := by kernel_rfl
theorem d12 : compF Tryz.prog tt Tryz.f12 = some b12 := by kernel_rfl
theorem d13 : compF Tryz.prog tt Tryz.f13 = some b13 := by kernel_rfl
theorem d14 : compF Tryz.prog tt Tryz.f14 = some b14 := by kernel_rfl
theorem d16 : compF Tryz.prog tt Tryz.f16 = some b16 := by kernel_rfl
theorem d17 : compF Tryz.prog tt Tryz.f17 = some b17 := by kernel_rfl
theorem d18 : compF Tryz.prog tt Tryz.f18 = some b18 := by kernel_rfl
theorem d19 : compF Tryz.prog tt Tryz.f19 = some b19 := by kernel_rfl
theorem d20 : compF Tryz.prog tt Tryz.f20 = some b20 := by kernel_rfl
theorem d21 : compF Tryz.prog tt Tryz.f21 = some b21 := by kernel_rfl
theorem d22 : compF Tryz.prog tt Tryz.f22 = some b22 := by kernel_rfl
theorem d23 : compF Tryz.prog tt Tryz.f23 = some b23 := by kernel_rfl
theorem d25 : compF Tryz.prog tt Tryz.f25 = some b25 := by kernel_rfl
theorem d26 : compF Tryz.prog tt Tryz.f26 = some b26 := by kernel_rfl
theorem d27 : compF Tryz.prog tt Tryz.f27 = some b27 := by kernel_rfl
theorem d29 : compF Tryz.prog tt Tryz.f29 = some b29 := by kernel_rfl
theorem d33 : compF Tryz.prog tt Tryz.f33 = some b33 := by kernel_rfl
theorem d34 : compF Tryz.prog tt Tryz.f34 = some b34 := by kernel_rfl
theorem d36 : compF Tryz.prog tt Tryz.f36 = some b36 := by kernel_rfl
theorem d38 : compF Tryz.prog tt Tryz.f38 = some b38 := by kernel_rfl
theorem d40 : compF Tryz.prog tt Tryz.f40 = some b40 := by kernel_rfl
theorem d42 : compF Tryz.prog tt Tryz.f42 = some b42 := by kernel_rfl
theorem d43 : compF Tryz.prog tt Tryz.f43 = some b43 := by kernel_rfl
theorem d44 : compF Tryz.prog tt Tryz.f44 = some b44 := by kernel_rfl
theorem d45 : compF Tryz.prog tt Tryz.f45 = some b45 := by kernel_rfl
theorem d46 : compF Tryz.prog tt Tryz.f46 = some b46 := by kernel_rfl
theorem d47 : compF Tryz.prog tt Tryz.f47 = some b47 := by kernel_rfl
theorem d48 : compF Tryz.prog tt Tryz.f48 = some b48 := by kernel_rfl
theorem d49 : compF Tryz.prog tt Tryz.f49 = some b49 := by kernel_rfl
theorem d50 : compF Tryz.prog tt Tryz.f50 = some b50 := by kernel_rfl
theorem d51 : compF Tryz.prog tt Tryz.f51 = some b51 := by kernel_rfl
theorem d52 : compF Tryz.prog tt Tryz.f52 = some b52 := by kernel_rfl
theorem d53 : compF Tryz.prog tt Tryz.f53 = some b53 := by kernel_rfl
theorem d54 : compF Tryz.prog tt Tryz.f54 = some b54 := by kernel_rfl
theorem d56 : compF Tryz.prog tt Tryz.f56 = some b56 := by kernel_rfl
theorem d59 : compF Tryz.prog tt Tryz.f59 = some b59 := by kernel_rfl
theorem d60 : compF Tryz.prog tt Tryz.f60 = some b60 := by kernel_rfl
theorem d66 : compF Tryz.prog tt Tryz.f66 = some b66 := by kernel_rfl
theorem d67 : compF Tryz.prog tt Tryz.f67 = some b67 := by kernel_rfl
theorem d69 : compF Tryz.prog tt Tryz.f69 = some b69 := by kernel_rfl
theorem d71 : compF Tryz.prog tt Tryz.f71 = some b71 := by kernel_rfl
theorem d72 : compF Tryz.prog tt Tryz.f72 = some b72 := by kernel_rfl
theorem d73 : compF Tryz.prog tt Tryz.f73 = some b73 := by kernel_rfl
theorem d74 : compF Tryz.prog tt Tryz.f74 = some b74 := by kernel_rfl
theorem d77 : compF Tryz.prog tt Tryz.f77 = some b77 := by kernel_rfl
theorem d78 : compF Tryz.prog tt Tryz.f78 = some b78 := by kernel_rfl
theorem d80 : compF Tryz.prog tt Tryz.f80 = some b80 := by kernel_rfl
theorem d81 : compF Tryz.prog tt Tryz.f81 = some b81 := by kernel_rfl
theorem d82 : compF Tryz.prog tt Tryz.f82 = some b82 := by kernel_rfl
theorem d83 : compF Tryz.prog tt Tryz.f83 = some b83 := by kernel_rfl
theorem d85 : compF Tryz.prog tt Tryz.f85 = some b85 := by kernel_rfl
theorem d86 : compF Tryz.prog tt Tryz.f86 = some b86 := by kernel_rfl
theorem d87 : compF Tryz.prog tt Tryz.f87 = some b87 := by kernel_rfl
theorem d88 : compF Tryz.prog tt Tryz.f88 = some b88 := by kernel_rfl
theorem d90 : compF Tryz.prog tt Tryz.f90 = some b90 := by kernel_rfl
theorem d91 : compF Tryz.prog tt Tryz.f91 = some b91 := by kernel_rfl
theorem d94 : compF Tryz.prog tt Tryz.f94 = some b94 := by kernel_rfl
theorem d95 : compF Tryz.prog tt Tryz.f95 = some b95 := by kernel_rfl
theorem d97 : compF Tryz.prog tt Tryz.f97 = some b97 := by kernel_rfl
theorem d98 : compF Tryz.prog tt Tryz.f98 = some b98 := by kernel_rfl
theorem d99 : compF Tryz.prog tt Tryz.f99 = some b99 := by kernel_rfl
theorem d100 : compF Tryz.prog tt Tryz.f100 = some b100 := by kernel_rfl
theorem d101 : compF Tryz.prog tt Tryz.f101 = some b101 := by kernel_rfl
theorem d102 : compF Tryz.prog tt Tryz.f102 = some b102 := by kernel_rfl
theorem d103 : compF Tryz.prog tt Tryz.f103 = some b103 := by kernel_rfl
theorem d104 : compF Tryz.prog tt Tryz.f104 = some b104 := by kernel_rfl
end Go.Sx

/- That these are the program's functions: part 1. -/
set_option maxRecDepth 1000000
namespace Go.Sx
open Go.Proofs
theorem d105 : compF Tryz.prog tt Tryz.f105 = some b105 := by kernel_rfl
theorem d106 : compF Tryz.prog tt Tryz.f106 = some b106 := by kernel_rfl
theorem d107 : compF Tryz.prog tt Tryz.f107 = some b107 := by kernel_rfl
theorem d110 : compF Tryz.prog tt Tryz.f110 = some b110 := by kernel_rfl
theorem d111 : compF Tryz.prog tt Tryz.f111 = some b111 := by kernel_rfl
theorem d112 : compF Tryz.prog tt Tryz.f112 = some b112 := by kernel_rfl
theorem d113 : compF Tryz.prog tt Tryz.f113 = some b113 := by kernel_rfl
theorem d114 : compF Tryz.prog tt Tryz.f114 = some b114 := by kernel_rfl
theorem d115 : compF Tryz.prog tt Tryz.f115 = some b115 := by kernel_rfl
theorem d116 : compF Tryz.prog tt Tryz.f116 = some b116 := by kernel_rfl
theorem d118 : compF Tryz.prog tt Tryz.f118 = some b118 := by kernel_rfl
theorem d119 : compF Tryz.prog tt Tryz.f119 = some b119 := by kernel_rfl
theorem d121 : compF Tryz.prog tt Tryz.f121 = some b121 := by kernel_rfl
theorem d122 : compF Tryz.prog tt Tryz.f122 = some b122 := by kernel_rfl
theorem d125 : compF Tryz.prog tt Tryz.f125 = some b125 := by kernel_rfl
theorem d126 : compF Tryz.prog tt Tryz.f126 = some b126 := by kernel_rfl
theorem d131 : compF Tryz.prog tt Tryz.f131 = some b131 := by kernel_rfl
theorem d132 : compF Tryz.prog tt Tryz.f132 = some b132 := by kernel_rfl
theorem d136 : compF Tryz.prog tt Tryz.f136 = some b136 := by kernel_rfl
theorem d137 : compF Tryz.prog tt Tryz.f137 = some b137 := by kernel_rfl
theorem d140 : compF Tryz.prog tt Tryz.f140 = some b140 := by kernel_rfl
theorem d143 : compF Tryz.prog tt Tryz.f143 = some b143 := by kernel_rfl
theorem d144 : compF Tryz.prog tt Tryz.f144 = some b144 := by kernel_rfl
theorem d145 : compF Tryz.prog tt Tryz.f145 = some b145 := by kernel_rfl
theorem d148 : compF Tryz.prog tt Tryz.f148 = some b148 := by kernel_rfl
theorem d149 : compF Tryz.prog tt Tryz.f149 = some b149 := by kernel_rfl
theorem d150 : compF Tryz.prog tt Tryz.f150 = some b150 := by kernel_rfl
theorem d151 : compF Tryz.prog tt Tryz.f151 = some b151 := by kernel_rfl
theorem d152 : compF Tryz.prog tt Tryz.f152 = some b152 := by kernel_rfl
theorem d153 : compF Tryz.prog tt Tryz.f153 = some b153 := by kernel_rfl
theorem d154 : compF Tryz.prog tt Tryz.f154 = some b154 := by kernel_rfl
theorem d155 : compF Tryz.prog tt Tryz.f155 = some b155 := by kernel_rfl
theorem d156 : compF Tryz.prog tt Tryz.f156 = some b156 := by kernel_rfl
theorem d158 : compF Tryz.prog tt Tryz.f158 = some b158 := by kernel_rfl
theorem d162 : compF Tryz.prog tt Tryz.f162 = some b162 := by kernel_rfl
theorem d163 : compF Tryz.prog tt Tryz.f163 = some b163 := by kernel_rfl
theorem d164 : compF Tryz.prog tt Tryz.f164 = some b164 := by kernel_rfl
theorem d165 : compF Tryz.prog tt Tryz.f165 = some b165 := by kernel_rfl
theorem d166 : compF Tryz.prog tt Tryz.f166 = some b166 := by kernel_rfl
theorem d169 : compF Tryz.prog tt Tryz.f169 = some b169 := by kernel_rfl
theorem d170 : compF Tryz.prog tt Tryz.f170 = some b170 := by kernel_rfl
theorem d171 : compF Tryz.prog tt Tryz.f171 = some b171 := by kernel_rfl
theorem d173 : compF Tryz.prog tt Tryz.f173 = some b173 := by kernel_rfl
theorem d174 : compF Tryz.prog tt Tryz.f174 = some b174 := by kernel_rfl
theorem d176 : compF Tryz.prog tt Tryz.f176 = some b176 := by kernel_rfl
theorem d177 : compF Tryz.prog tt Tryz.f177 = some b177 := by kernel_rfl
theorem d178 : compF Tryz.prog tt Tryz.f178 = some b178 := by kernel_rfl
theorem d179 : compF Tryz.prog tt Tryz.f179 = some b179 := by kernel_rfl
theorem d180 : compF Tryz.prog tt Tryz.f180 = some b180 := by kernel_rfl
theorem d181 : compF Tryz.prog tt Tryz.f181 = some b181 := by kernel_rfl
theorem d182 : compF Tryz.prog tt Tryz.f182 = some b182 := by kernel_rfl
theorem d183 : compF Tryz.prog tt Tryz.f183 = some b183 := by kernel_rfl
theorem d184 : compF Tryz.prog tt Tryz.f184 = some b184 := by kernel_rfl
theorem d186 : compF Tryz.prog tt Tryz.f186 = some b186 := by kernel_rfl
theorem d187 : compF Tryz.prog tt Tryz.f187 = some b187 := by kernel_rfl
theorem d193 : compF Tryz.prog tt Tryz.f193 = some b193 := by kernel_rfl
theorem d194 : compF Tryz.prog tt Tryz.f194 = some b194 := by kernel_rfl
theorem d196 : compF Tryz.prog tt Tryz.f196 = some b196 := by kernel_rfl
theorem d197 : compF Tryz.prog tt Tryz.f197 = some b197 := by kernel_rfl
theorem d203 : compF Tryz.prog tt Tryz.f203 = some b203 := by kernel_rfl
theorem d204 : compF Tryz.prog tt Tryz.f204 = some b204 := by kernel_rfl
theorem d206 : compF Tryz.prog tt Tryz.f206 = some b206 := by kernel_rfl
theorem d207 : compF Tryz.prog tt Tryz.f207 = some b207 := by kernel_rfl
theorem d209 : compF Tryz.prog tt Tryz.f209 = some b209 := by kernel_rfl
theorem d214 : compF Tryz.prog tt Tryz.f214 = some b214 := by kernel_rfl
theorem d215 : compF Tryz.prog tt Tryz.f215 = some b215 := by kernel_rfl
theorem d216 : compF Tryz.prog tt Tryz.f216 = some b216 := by kernel_rfl
theorem d217 : compF Tryz.prog tt Tryz.f217 = some b217 := by kernel_rfl
theorem d218 : compF Tryz.prog tt Tryz.f218 = some b218 := by kernel_rfl
theorem d219 : compF Tryz.prog tt Tryz.f219 = some b219 := by kernel_rfl
theorem d220 : compF Tryz.prog tt Tryz.f220 = some b220 := by kernel_rfl
theorem d221 : compF Tryz.prog tt Tryz.f221 = some b221 := by kernel_rfl
theorem d222 : compF Tryz.prog tt Tryz.f222 = some b222 := by kernel_rfl
end Go.Sx

/- That these are the program's functions: part 2. -/
set_option maxRecDepth 1000000
namespace Go.Sx
open Go.Proofs
theorem d223 : compF Tryz.prog tt Tryz.f223 = some b223 := by kernel_rfl
theorem d226 : compF Tryz.prog tt Tryz.f226 = some b226 := by kernel_rfl
theorem d227 : compF Tryz.prog tt Tryz.f227 = some b227 := by kernel_rfl
theorem d228 : compF Tryz.prog tt Tryz.f228 = some b228 := by kernel_rfl
theorem d229 : compF Tryz.prog tt Tryz.f229 = some b229 := by kernel_rfl
theorem d230 : compF Tryz.prog tt Tryz.f230 = some b230 := by kernel_rfl
theorem d239 : compF Tryz.prog tt Tryz.f239 = some b239 := by kernel_rfl
theorem d243 : compF Tryz.prog tt Tryz.f243 = some b243 := by kernel_rfl
theorem d244 : compF Tryz.prog tt Tryz.f244 = some b244 := by kernel_rfl
theorem d245 : compF Tryz.prog tt Tryz.f245 = some b245 := by kernel_rfl
theorem d246 : compF Tryz.prog tt Tryz.f246 = some b246 := by kernel_rfl
theorem d250 : compF Tryz.prog tt Tryz.f250 = some b250 := by kernel_rfl
theorem d251 : compF Tryz.prog tt Tryz.f251 = some b251 := by kernel_rfl
theorem d252 : compF Tryz.prog tt Tryz.f252 = some b252 := by kernel_rfl
theorem d258 : compF Tryz.prog tt Tryz.f258 = some b258 := by kernel_rfl
theorem d260 : compF Tryz.prog tt Tryz.f260 = some b260 := by kernel_rfl
theorem d264 : compF Tryz.prog tt Tryz.f264 = some b264 := by kernel_rfl
theorem d265 : compF Tryz.prog tt Tryz.f265 = some b265 := by kernel_rfl
theorem d266 : compF Tryz.prog tt Tryz.f266 = some b266 := by kernel_rfl
theorem d267 : compF Tryz.prog tt Tryz.f267 = some b267 := by kernel_rfl
theorem d268 : compF Tryz.prog tt Tryz.f268 = some b268 := by kernel_rfl
theorem d269 : compF Tryz.prog tt Tryz.f269 = some b269 := by kernel_rfl
theorem d270 : compF Tryz.prog tt Tryz.f270 = some b270 := by kernel_rfl
theorem d271 : compF Tryz.prog tt Tryz.f271 = some b271 := by kernel_rfl
theorem d272 : compF Tryz.prog tt Tryz.f272 = some b272 := by kernel_rfl
theorem d274 : compF Tryz.prog tt Tryz.f274 = some b274 := by kernel_rfl
theorem d275 : compF Tryz.prog tt Tryz.f275 = some b275 := by kernel_rfl
theorem d276 : compF Tryz.prog tt Tryz.f276 = some b276 := by kernel_rfl
theorem d277 : compF Tryz.prog tt Tryz.f277 = some b277 := by kernel_rfl
theorem d278 : compF Tryz.prog tt Tryz.f278 = some b278 := by kernel_rfl
theorem d280 : compF Tryz.prog tt Tryz.f280 = some b280 := by kernel_rfl
theorem d281 : compF Tryz.prog tt Tryz.f281 = some b281 := by kernel_rfl
theorem d282 : compF Tryz.prog tt Tryz.f282 = some b282 := by kernel_rfl
theorem d283 : compF Tryz.prog tt Tryz.f283 = some b283 := by kernel_rfl
theorem d294 : compF Tryz.prog tt Tryz.f294 = some b294 := by kernel_rfl
theorem d296 : compF Tryz.prog tt Tryz.f296 = some b296 := by kernel_rfl
theorem d297 : compF Tryz.prog tt Tryz.f297 = some b297 := by kernel_rfl
theorem d302 : compF Tryz.prog tt Tryz.f302 = some b302 := by kernel_rfl
theorem d303 : compF Tryz.prog tt Tryz.f303 = some b303 := by kernel_rfl
theorem d306 : compF Tryz.prog tt Tryz.f306 = some b306 := by kernel_rfl
theorem d311 : compF Tryz.prog tt Tryz.f311 = some b311 := by kernel_rfl
theorem d321 : compF Tryz.prog tt Tryz.f321 = some b321 := by kernel_rfl
theorem d322 : compF Tryz.prog tt Tryz.f322 = some b322 := by kernel_rfl
theorem d323 : compF Tryz.prog tt Tryz.f323 = some b323 := by kernel_rfl
theorem d324 : compF Tryz.prog tt Tryz.f324 = some b324 := by kernel_rfl
theorem d325 : compF Tryz.prog tt Tryz.f325 = some b325 := by kernel_rfl
theorem d326 : compF Tryz.prog tt Tryz.f326 = some b326 := by kernel_rfl
theorem d329 : compF Tryz.prog tt Tryz.f329 = some b329 := by kernel_rfl
theorem d343 : compF Tryz.prog tt Tryz.f343 = some b343 := by kernel_rfl
end Go.Sx

/- The tables: what known() and CoreQueries reach, with the specifications of what is proved by hand. -/
set_option maxRecDepth 100000
namespace Go.Sx
open Go.Proofs
/-- Noughts, so many. -/
def allZ : List Int → Nat → Bool
  | [], 0 => true
  | .ofNat 0 :: l, n + 1 => allZ l n
  | _, _ => false
def allZs : List (List Int) → Nat → Bool
  | [], 0 => true
  | x :: l, n + 1 => cond (allZ x 64) (allZs l n) false
  | _, _ => false
/-- journal.Open on a new disk, where memory is just as core.New finds it. -/
def spOpen (E : Env) : Spec := fun R args h k => match args, h with
  | [.ptr (some ⟨5, 0, 0, 0⟩)], [x0, x1, x2, x3, x4, .cells [.slice (some ⟨6, 64, 0, 0⟩) .all (.exact 1000), .slice (some ⟨7, 64, 0, 0⟩) .all (.exact 1000), .slice none (.n 0) (.exact 0), .int .i64 (-1), .bool false], x6, .rows false .sector l, x8] =>
    cond (allZs l 1000) (k (.tup [.ptr (some ⟨9, 0, 0, 0⟩), .slice none (.n 0) (.exact 0), .int .i64 0]) (h ++ [.cells [.ptr (some ⟨5, 0, 0, 0⟩), .int .i64 500, .int .i64 0, .int .i64 0, .int .u32 0, .slice none (.n 0) (.exact 0)]]) []) none
  | _, _ => none
/-- known(), called with nothing in memory. -/
def spKnown (E : Env) : Spec := fun R args h k => match args, h with
  | [], [] => k (.bool true) [] []
  | _, _ => none
def TBK : Tab := .node .no (.node .no (.node .no (.node .no (.node .no (.node .no (.leaf) (.node (.fn b95) (.leaf) (.node (.fn b223) (.leaf) (.leaf)))) (.node (.fn b47) (.node .no (.node (.fn b143) (.node (.fn b271) (.leaf) (.leaf)) (.leaf)) (.node (.fn b207) (.leaf) (.leaf))) (.node (.fn b111) (.node .no (.node (.fn b303) (.leaf) (.leaf)) (.leaf)) (.node (.fn b239) (.leaf) (.leaf))))) (.node (.fn b23) (.node .no (.node (.fn b71) (.leaf) (.leaf)) (.node (.fn b103) (.leaf) (.leaf))) (.node .no (.node (.fn b87) (.node (.fn b151) (.leaf) (.leaf)) (.node (.fn b215) (.node (.fn b343) (.leaf) (.leaf)) (.leaf))) (.node (.fn b119) (.node (.fn b183) (.node (.fn b311) (.leaf) (.leaf)) (.leaf)) (.leaf))))) (.node (.fn b11) (.node (.fn b19) (.node .no (.node (.fn b67) (.node (.fn b131) (.leaf) (.leaf)) (.node .no (.node (.fn b323) (.leaf) (.leaf)) (.leaf))) (.node (.fn b99) (.node (.fn b163) (.leaf) (.leaf)) (.node (.fn b227) (.leaf) (.leaf)))) (.node (.fn b51) (.node (.fn b83) (.node .no (.node (.fn b275) (.leaf) (.leaf)) (.leaf)) (.leaf)) (.node (.fn b115) (.node (.fn b179) (.node (.sp spNumDigits) (.leaf) (.leaf)) (.leaf)) (.node (.fn b243) (.leaf) (.leaf))))) (.node (.fn b27) (.node (.fn b43) (.node .no (.node .no (.node (.fn b267) (.leaf) (.leaf)) (.leaf)) (.node (.fn b203) (.leaf) (.leaf))) (.node (.fn b107) (.node (.fn b171) (.leaf) (.leaf)) (.leaf))) (.node (.fn b59) (.node (.fn b91) (.node (.fn b155) (.node (.fn b283) (.leaf) (.leaf)) (.leaf)) (.node (.fn b219) (.leaf) (.leaf))) (.node .no (.node (.fn b187) (.leaf) (.leaf)) (.node (.fn b251) (.leaf) (.leaf))))))) (.node .no (.node .no (.node (.fn b17) (.node (.fn b33) (.node .no (.node .no (.node (.sp spFormat) (.leaf) (.leaf)) (.leaf)) (.node (.fn b193) (.node (.fn b321) (.leaf) (.leaf)) (.leaf))) (.node (.fn b97) (.leaf) (.leaf))) (.node (.fn b49) (.node (.fn b81) (.node (.fn b145) (.node (.sp spRepeat) (.leaf) (.leaf)) (.leaf)) (.node (.fn b209) (.leaf) (.leaf))) (.node (.fn b113) (.node (.fn b177) (.leaf) (.leaf)) (.leaf)))) (.node (.fn b25) (.node .no (.node (.fn b73) (.node (.fn b137) (.node (.fn b265) (.leaf) (.leaf)) (.leaf)) (.node .no (.node (.fn b329) (.leaf) (.leaf)) (.leaf))) (.node (.fn b105) (.node (.fn b169) (.node (.fn b297) (.leaf) (.leaf)) (.leaf)) (.leaf))) (.node .no (.node .no (.node (.fn b153) (.node (.fn b281) (.leaf) (.leaf)) (.leaf)) (.node (.fn b217) (.leaf) (.leaf))) (.node (.fn b121) (.node (.sp spApp0) (.node (.sp spJoin) (.leaf) (.leaf)) (.leaf)) (.leaf))))) (.node (.fn b13) (.node (.fn b21) (.node .no (.node (.fn b69) (.leaf) (.node (.fn b197) (.node (.fn b325) (.leaf) (.leaf)) (.leaf))) (.node (.fn b101) (.node (.fn b165) (.leaf) (.leaf)) (.node (.fn b229) (.leaf) (.leaf)))) (.node (.fn b53) (.node (.fn b85) (.node (.fn b149) (.node (.fn b277) (.leaf) (.leaf)) (.leaf)) (.leaf)) (.node .no (.node (.fn b181) (.leaf) (.leaf)) (.node (.fn b245) (.leaf) (.leaf))))) (.node (.fn b29) (.node (.fn b45) (.node (.fn b77) (.node .no (.node (.fn b269) (.leaf) (.leaf)) (.leaf)) (.leaf)) (.node .no (.node (.fn b173) (.node (.sp spCount) (.leaf) (.leaf)) (.leaf)) (.leaf))) (.node .no (.node .no (.leaf) (.node (.fn b221) (.leaf) (.leaf))) (.node (.fn b125) (.leaf) (.leaf))))))) (.node .no (.node .no (.node (.fn b8) (.node (.fn b16) (.leaf) (.node (.fn b48) (.node (.fn b80) (.node (.fn b144) (.node (.fn b272) (.leaf) (.leaf)) (.leaf)) (.node (.sp spBest1) (.leaf) (.leaf))) (.node (.fn b112) (.node (.fn b176) (.leaf) (.leaf)) (.leaf)))) (.node .no (.node (.fn b40) (.node (.fn b72) (.node (.fn b136) (.node (.fn b264) (.leaf) (.leaf)) (.leaf)) (.leaf)) (.node (.fn b104) (.node (.sp spMapClone) (.node (.fn b296) (.leaf) (.leaf)) (.leaf)) (.leaf))) (.node (.fn b56) (.node (.fn b88) (.node (.fn b152) (.node (.fn b280) (.leaf) (.leaf)) (.leaf)) (.node (.fn b216) (.node (.sp spIndexByte) (.leaf) (.leaf)) (.leaf))) (.node .no (.node (.fn b184) (.node (.sp spIndexByte) (.leaf) (.leaf)) (.leaf)) (.node (.sp spAdd64) (.leaf) (.leaf)))))) (.node (.fn b12) (.node (.fn b20) (.node (.fn b36) (.node .no (.node (.fn b132) (.node (.fn b260) (.leaf) (.leaf)) (.leaf)) (.node (.fn b196) (.node (.fn b324) (.leaf) (.leaf)) (.leaf))) (.node (.fn b100) (.node (.fn b164) (.leaf) (.leaf)) (.node (.fn b228) (.leaf) (.leaf)))) (.node (.fn b52) (.node .no (.node (.fn b148) (.node (.fn b276) (.leaf) (.leaf)) (.leaf)) (.leaf)) (.node (.fn b116) (.node (.fn b180) (.leaf) (.leaf)) (.node (.fn b244) (.leaf) (.leaf))))) (.node .no (.node (.fn b44) (.node .no (.node (.fn b140) (.node (.fn b268) (.leaf) (.leaf)) (.leaf)) (.node (.fn b204) (.leaf) (.leaf))) (.leaf)) (.node (.fn b60) (.node .no (.node (.fn b156) (.leaf) (.leaf)) (.node (.fn b220) (.leaf) (.leaf))) (.node .no (.leaf) (.node (.fn b252) (.leaf) (.leaf))))))) (.node .no (.node .no (.node (.fn b18) (.node (.fn b34) (.node (.fn b66) (.node .no (.node (.fn b258) (.leaf) (.leaf)) (.leaf)) (.node (.fn b194) (.node (.fn b322) (.leaf) (.leaf)) (.leaf))) (.node (.fn b98) (.node (.fn b162) (.leaf) (.leaf)) (.node (.fn b226) (.leaf) (.leaf)))) (.node (.fn b50) (.node (.fn b82) (.node .no (.node (.fn b274) (.leaf) (.leaf)) (.leaf)) (.leaf)) (.node (.fn b114) (.node (.fn b178) (.node (.fn b306) (.leaf) (.leaf)) (.leaf)) (.leaf)))) (.node (.fn b26) (.node (.fn b42) (.node (.fn b74) (.node .no (.node (.fn b266) (.leaf) (.leaf)) (.leaf)) (.leaf)) (.node (.fn b106) (.node (.fn b170) (.leaf) (.leaf)) (.leaf))) (.node .no (.node (.fn b90) (.node (.fn b154) (.node (.fn b282) (.leaf) (.leaf)) (.leaf)) (.node (.fn b218) (.leaf) (.leaf))) (.node (.fn b122) (.node (.fn b186) (.node (.sp spGrow) (.leaf) (.leaf)) (.leaf)) (.node (.fn b250) (.leaf) (.leaf)))))) (.node (.fn b14) (.node (.fn b22) (.node (.fn b38) (.node (.sp spOpen) (.leaf) (.node .no (.node (.fn b326) (.leaf) (.leaf)) (.leaf))) (.node (.fn b102) (.node (.fn b166) (.node (.fn b294) (.leaf) (.leaf)) (.leaf)) (.node (.fn b230) (.leaf) (.leaf)))) (.node (.fn b54) (.node (.fn b86) (.node (.fn b150) (.node (.fn b278) (.leaf) (.leaf)) (.leaf)) (.node (.fn b214) (.leaf) (.leaf))) (.node (.fn b118) (.node (.fn b182) (.leaf) (.leaf)) (.node (.fn b246) (.leaf) (.leaf))))) (.node .no (.node (.fn b46) (.node (.fn b78) (.node .no (.node (.fn b270) (.leaf) (.leaf)) (.leaf)) (.node (.fn b206) (.leaf) (.leaf))) (.node (.fn b110) (.node (.fn b174) (.node (.fn b302) (.leaf) (.leaf)) (.leaf)) (.leaf))) (.node .no (.node (.fn b94) (.node (.fn b158) (.leaf) (.leaf)) (.node (.fn b222) (.leaf) (.leaf))) (.node (.fn b126) (.leaf) (.leaf)))))))
def TBQ : Tab := .node .no (.node .no (.node .no (.node .no (.node .no (.node .no (.leaf) (.node (.fn b95) (.leaf) (.node (.fn b223) (.leaf) (.leaf)))) (.node (.fn b47) (.node .no (.node (.fn b143) (.node (.fn b271) (.leaf) (.leaf)) (.leaf)) (.node (.fn b207) (.leaf) (.leaf))) (.node .no (.node .no (.node (.fn b303) (.leaf) (.leaf)) (.leaf)) (.node (.fn b239) (.leaf) (.leaf))))) (.node (.fn b23) (.node .no (.node (.fn b71) (.leaf) (.leaf)) (.leaf)) (.node .no (.node (.fn b87) (.node (.fn b151) (.leaf) (.leaf)) (.node (.fn b215) (.node (.fn b343) (.leaf) (.leaf)) (.leaf))) (.node .no (.node .no (.node (.fn b311) (.leaf) (.leaf)) (.leaf)) (.leaf))))) (.node (.sp spKnown) (.node (.fn b19) (.node .no (.node (.fn b67) (.node (.fn b131) (.leaf) (.leaf)) (.node .no (.node (.fn b323) (.leaf) (.leaf)) (.leaf))) (.node (.fn b99) (.node (.fn b163) (.leaf) (.leaf)) (.leaf))) (.node .no (.node (.fn b83) (.leaf) (.leaf)) (.node .no (.node .no (.node (.sp spNumDigits) (.leaf) (.leaf)) (.leaf)) (.node (.fn b243) (.leaf) (.leaf))))) (.node (.fn b27) (.node (.fn b43) (.node .no (.node .no (.node (.fn b267) (.leaf) (.leaf)) (.leaf)) (.node (.fn b203) (.leaf) (.leaf))) (.node (.fn b107) (.leaf) (.leaf))) (.node (.fn b59) (.node (.fn b91) (.node (.fn b155) (.node (.fn b283) (.leaf) (.leaf)) (.leaf)) (.leaf)) (.node .no (.node (.fn b187) (.leaf) (.leaf)) (.node (.fn b251) (.leaf) (.leaf))))))) (.node .no (.node .no (.node (.fn b17) (.node (.fn b33) (.node .no (.node .no (.node (.sp spFormat) (.leaf) (.leaf)) (.leaf)) (.node (.fn b193) (.node (.fn b321) (.leaf) (.leaf)) (.leaf))) (.node (.fn b97) (.leaf) (.leaf))) (.node (.fn b49) (.node (.fn b81) (.node (.fn b145) (.node (.sp spRepeat) (.leaf) (.leaf)) (.leaf)) (.node (.fn b209) (.leaf) (.leaf))) (.leaf))) (.node .no (.node .no (.node (.fn b73) (.node (.fn b137) (.node (.fn b265) (.leaf) (.leaf)) (.leaf)) (.node .no (.node (.fn b329) (.leaf) (.leaf)) (.leaf))) (.node .no (.node .no (.node (.fn b297) (.leaf) (.leaf)) (.leaf)) (.leaf))) (.node .no (.node .no (.node (.fn b153) (.node (.fn b281) (.leaf) (.leaf)) (.leaf)) (.node (.fn b217) (.leaf) (.leaf))) (.node .no (.node (.sp spApp0) (.node (.sp spJoin) (.leaf) (.leaf)) (.leaf)) (.leaf))))) (.node (.fn b13) (.node .no (.node .no (.node (.fn b69) (.leaf) (.node (.fn b197) (.node (.fn b325) (.leaf) (.leaf)) (.leaf))) (.node (.fn b101) (.node (.fn b165) (.leaf) (.leaf)) (.leaf))) (.node .no (.node (.fn b85) (.node (.fn b149) (.node (.fn b277) (.leaf) (.leaf)) (.leaf)) (.leaf)) (.node .no (.leaf) (.node (.fn b245) (.leaf) (.leaf))))) (.node (.fn b29) (.node (.fn b45) (.node (.fn b77) (.node .no (.node (.fn b269) (.leaf) (.leaf)) (.leaf)) (.leaf)) (.node .no (.node .no (.node (.sp spCount) (.leaf) (.leaf)) (.leaf)) (.leaf))) (.node .no (.node .no (.leaf) (.node (.fn b221) (.leaf) (.leaf))) (.node (.fn b125) (.leaf) (.leaf))))))) (.node .no (.node .no (.node (.fn b8) (.node (.fn b16) (.leaf) (.node (.fn b48) (.node (.fn b80) (.node (.fn b144) (.node (.fn b272) (.leaf) (.leaf)) (.leaf)) (.node (.sp spBest1) (.leaf) (.leaf))) (.leaf))) (.node .no (.node (.fn b40) (.node (.fn b72) (.node (.fn b136) (.node (.fn b264) (.leaf) (.leaf)) (.leaf)) (.leaf)) (.node .no (.node (.sp spMapClone) (.node (.fn b296) (.leaf) (.leaf)) (.leaf)) (.leaf))) (.node .no (.node (.fn b88) (.node (.fn b152) (.node (.fn b280) (.leaf) (.leaf)) (.leaf)) (.node (.fn b216) (.node (.sp spIndexByte) (.leaf) (.leaf)) (.leaf))) (.node .no (.node .no (.node (.sp spIndexByte) (.leaf) (.leaf)) (.leaf)) (.node (.sp spAdd64) (.leaf) (.leaf)))))) (.node (.fn b12) (.node (.fn b20) (.node (.fn b36) (.node .no (.node (.fn b132) (.node (.fn b260) (.leaf) (.leaf)) (.leaf)) (.node (.fn b196) (.node (.fn b324) (.leaf) (.leaf)) (.leaf))) (.node (.fn b100) (.node (.fn b164) (.leaf) (.leaf)) (.leaf))) (.node .no (.node .no (.node (.fn b148) (.leaf) (.leaf)) (.leaf)) (.node (.fn b116) (.leaf) (.node (.fn b244) (.leaf) (.leaf))))) (.node .no (.node (.fn b44) (.node .no (.node (.fn b140) (.node (.fn b268) (.leaf) (.leaf)) (.leaf)) (.node (.fn b204) (.leaf) (.leaf))) (.leaf)) (.node (.fn b60) (.node .no (.node (.fn b156) (.leaf) (.leaf)) (.leaf)) (.node .no (.leaf) (.node (.fn b252) (.leaf) (.leaf))))))) (.node .no (.node .no (.node .no (.node (.fn b34) (.node (.fn b66) (.node .no (.node (.fn b258) (.leaf) (.leaf)) (.leaf)) (.node (.fn b194) (.node (.fn b322) (.leaf) (.leaf)) (.leaf))) (.node (.fn b98) (.node (.fn b162) (.leaf) (.leaf)) (.leaf))) (.node (.fn b50) (.node (.fn b82) (.node .no (.node (.fn b274) (.leaf) (.leaf)) (.leaf)) (.leaf)) (.node .no (.node .no (.node (.fn b306) (.leaf) (.leaf)) (.leaf)) (.leaf)))) (.node .no (.node .no (.node (.fn b74) (.node .no (.node (.fn b266) (.leaf) (.leaf)) (.leaf)) (.leaf)) (.node (.fn b106) (.leaf) (.leaf))) (.node .no (.node (.fn b90) (.node (.fn b154) (.node (.fn b282) (.leaf) (.leaf)) (.leaf)) (.leaf)) (.node (.fn b122) (.node (.fn b186) (.node (.sp spGrow) (.leaf) (.leaf)) (.leaf)) (.node (.fn b250) (.leaf) (.leaf)))))) (.node (.fn b14) (.node (.fn b22) (.node (.fn b38) (.node (.sp spOpen) (.leaf) (.node .no (.node (.fn b326) (.leaf) (.leaf)) (.leaf))) (.node (.fn b102) (.node (.fn b166) (.node (.fn b294) (.leaf) (.leaf)) (.leaf)) (.node (.fn b230) (.leaf) (.leaf)))) (.node .no (.node (.fn b86) (.node (.fn b150) (.node (.fn b278) (.leaf) (.leaf)) (.leaf)) (.node (.fn b214) (.leaf) (.leaf))) (.node .no (.leaf) (.node (.fn b246) (.leaf) (.leaf))))) (.node .no (.node (.fn b46) (.node (.fn b78) (.node .no (.node (.fn b270) (.leaf) (.leaf)) (.leaf)) (.node (.fn b206) (.leaf) (.leaf))) (.node .no (.node (.fn b174) (.node (.fn b302) (.leaf) (.leaf)) (.leaf)) (.leaf))) (.node .no (.node (.fn b94) (.node (.fn b158) (.leaf) (.leaf)) (.leaf)) (.node (.fn b126) (.leaf) (.leaf)))))))
theorem tabOkK {B : Base} (hB : Pow10 B) (hO : ∀ E, EnvOk Tryz.prog B E → CallOk Tryz.prog B 70 (spOpen E)) : TabOk Tryz.prog B tt fr0 TBK := TabOk.of ⟨trivial, ⟨trivial, ⟨trivial, ⟨trivial, ⟨trivial, ⟨trivial, trivial, ⟨(FnOk.of Tryz.func95 d95), trivial, ⟨(FnOk.of Tryz.func223 d223), trivial, trivial⟩⟩⟩, ⟨(FnOk.of Tryz.func47 d47), ⟨trivial, ⟨(FnOk.of Tryz.func143 d143), ⟨(FnOk.of Tryz.func271 d271), trivial, trivial⟩, trivial⟩, ⟨(FnOk.of Tryz.func207 d207), trivial, trivial⟩⟩, ⟨(FnOk.of Tryz.func111 d111), ⟨trivial, ⟨(FnOk.of Tryz.func303 d303), trivial, trivial⟩, trivial⟩, ⟨(FnOk.of Tryz.func239 d239), trivial, trivial⟩⟩⟩⟩, ⟨(FnOk.of Tryz.func23 d23), ⟨trivial, ⟨(FnOk.of Tryz.func71 d71), trivial, trivial⟩, ⟨(FnOk.of Tryz.func103 d103), trivial, trivial⟩⟩, ⟨trivial, ⟨(FnOk.of Tryz.func87 d87), ⟨(FnOk.of Tryz.func151 d151), trivial, trivial⟩, ⟨(FnOk.of Tryz.func215 d215), ⟨(FnOk.of Tryz.func343 d343), trivial, trivial⟩, trivial⟩⟩, ⟨(FnOk.of Tryz.func119 d119), ⟨(FnOk.of Tryz.func183 d183), ⟨(FnOk.of Tryz.func311 d311), trivial, trivial⟩, trivial⟩, trivial⟩⟩⟩⟩, ⟨(FnOk.of Tryz.func11 d11), ⟨(FnOk.of Tryz.func19 d19), ⟨trivial, ⟨(FnOk.of Tryz.func67 d67), ⟨(FnOk.of Tryz.func131 d131), trivial, trivial⟩, ⟨trivial, ⟨(FnOk.of Tryz.func323 d323), trivial, trivial⟩, trivial⟩⟩, ⟨(FnOk.of Tryz.func99 d99), ⟨(FnOk.of Tryz.func163 d163), trivial, trivial⟩, ⟨(FnOk.of Tryz.func227 d227), trivial, trivial⟩⟩⟩, ⟨(FnOk.of Tryz.func51 d51), ⟨(FnOk.of Tryz.func83 d83), ⟨trivial, ⟨(FnOk.of Tryz.func275 d275), trivial, trivial⟩, trivial⟩, trivial⟩, ⟨(FnOk.of Tryz.func115 d115), ⟨(FnOk.of Tryz.func179 d179), ⟨(fun E _ => ok_NumDigits hB E), trivial, trivial⟩, trivial⟩, ⟨(FnOk.of Tryz.func243 d243), trivial, trivial⟩⟩⟩⟩, ⟨(FnOk.of Tryz.func27 d27), ⟨(FnOk.of Tryz.func43 d43), ⟨trivial, ⟨trivial, ⟨(FnOk.of Tryz.func267 d267), trivial, trivial⟩, trivial⟩, ⟨(FnOk.of Tryz.func203 d203), trivial, trivial⟩⟩, ⟨(FnOk.of Tryz.func107 d107), ⟨(FnOk.of Tryz.func171 d171), trivial, trivial⟩, trivial⟩⟩, ⟨(FnOk.of Tryz.func59 d59), ⟨(FnOk.of Tryz.func91 d91), ⟨(FnOk.of Tryz.func155 d155), ⟨(FnOk.of Tryz.func283 d283), trivial, trivial⟩, trivial⟩, ⟨(FnOk.of Tryz.func219 d219), trivial, trivial⟩⟩, ⟨trivial, ⟨(FnOk.of Tryz.func187 d187), trivial, trivial⟩, ⟨(FnOk.of Tryz.func251 d251), trivial, trivial⟩⟩⟩⟩⟩⟩, ⟨trivial, ⟨trivial, ⟨(FnOk.of Tryz.func17 d17), ⟨(FnOk.of Tryz.func33 d33), ⟨trivial, ⟨trivial, ⟨(fun E _ => ok_Format hB E), trivial, trivial⟩, trivial⟩, ⟨(FnOk.of Tryz.func193 d193), ⟨(FnOk.of Tryz.func321 d321), trivial, trivial⟩, trivial⟩⟩, ⟨(FnOk.of Tryz.func97 d97), trivial, trivial⟩⟩, ⟨(FnOk.of Tryz.func49 d49), ⟨(FnOk.of Tryz.func81 d81), ⟨(FnOk.of Tryz.func145 d145), ⟨(fun E _ => ok_Repeat E), trivial, trivial⟩, trivial⟩, ⟨(FnOk.of Tryz.func209 d209), trivial, trivial⟩⟩, ⟨(FnOk.of Tryz.func113 d113), ⟨(FnOk.of Tryz.func177 d177), trivial, trivial⟩, trivial⟩⟩⟩, ⟨(FnOk.of Tryz.func25 d25), ⟨trivial, ⟨(FnOk.of Tryz.func73 d73), ⟨(FnOk.of Tryz.func137 d137), ⟨(FnOk.of Tryz.func265 d265), trivial, trivial⟩, trivial⟩, ⟨trivial, ⟨(FnOk.of Tryz.func329 d329), trivial, trivial⟩, trivial⟩⟩, ⟨(FnOk.of Tryz.func105 d105), ⟨(FnOk.of Tryz.func169 d169), ⟨(FnOk.of Tryz.func297 d297), trivial, trivial⟩, trivial⟩, trivial⟩⟩, ⟨trivial, ⟨trivial, ⟨(FnOk.of Tryz.func153 d153), ⟨(FnOk.of Tryz.func281 d281), trivial, trivial⟩, trivial⟩, ⟨(FnOk.of Tryz.func217 d217), trivial, trivial⟩⟩, ⟨(FnOk.of Tryz.func121 d121), ⟨(fun E _ => ok_App0 E), ⟨(fun E _ => ok_Join E), trivial, trivial⟩, trivial⟩, trivial⟩⟩⟩⟩, ⟨(FnOk.of Tryz.func13 d13), ⟨(FnOk.of Tryz.func21 d21), ⟨trivial, ⟨(FnOk.of Tryz.func69 d69), trivial, ⟨(FnOk.of Tryz.func197 d197), ⟨(FnOk.of Tryz.func325 d325), trivial, trivial⟩, trivial⟩⟩, ⟨(FnOk.of Tryz.func101 d101), ⟨(FnOk.of Tryz.func165 d165), trivial, trivial⟩, ⟨(FnOk.of Tryz.func229 d229), trivial, trivial⟩⟩⟩, ⟨(FnOk.of Tryz.func53 d53), ⟨(FnOk.of Tryz.func85 d85), ⟨(FnOk.of Tryz.func149 d149), ⟨(FnOk.of Tryz.func277 d277), trivial, trivial⟩, trivial⟩, trivial⟩, ⟨trivial, ⟨(FnOk.of Tryz.func181 d181), trivial, trivial⟩, ⟨(FnOk.of Tryz.func245 d245), trivial, trivial⟩⟩⟩⟩, ⟨(FnOk.of Tryz.func29 d29), ⟨(FnOk.of Tryz.func45 d45), ⟨(FnOk.of Tryz.func77 d77), ⟨trivial, ⟨(FnOk.of Tryz.func269 d269), trivial, trivial⟩, trivial⟩, trivial⟩, ⟨trivial, ⟨(FnOk.of Tryz.func173 d173), ⟨(fun E _ => ok_CountS E), trivial, trivial⟩, trivial⟩, trivial⟩⟩, ⟨trivial, ⟨trivial, trivial, ⟨(FnOk.of Tryz.func221 d221), trivial, trivial⟩⟩, ⟨(FnOk.of Tryz.func125 d125), trivial, trivial⟩⟩⟩⟩⟩⟩, ⟨trivial, ⟨trivial, ⟨(FnOk.of Tryz.func8 d8), ⟨(FnOk.of Tryz.func16 d16), trivial, ⟨(FnOk.of Tryz.func48 d48), ⟨(FnOk.of Tryz.func80 d80), ⟨(FnOk.of Tryz.func144 d144), ⟨(FnOk.of Tryz.func272 d272), trivial, trivial⟩, trivial⟩, ⟨(fun E _ => ok_Best1 E), trivial, trivial⟩⟩, ⟨(FnOk.of Tryz.func112 d112), ⟨(FnOk.of Tryz.func176 d176), trivial, trivial⟩, trivial⟩⟩⟩, ⟨trivial, ⟨(FnOk.of Tryz.func40 d40), ⟨(FnOk.of Tryz.func72 d72), ⟨(FnOk.of Tryz.func136 d136), ⟨(FnOk.of Tryz.func264 d264), trivial, trivial⟩, trivial⟩, trivial⟩, ⟨(FnOk.of Tryz.func104 d104), ⟨(fun E _ => ok_MapClone E), ⟨(FnOk.of Tryz.func296 d296), trivial, trivial⟩, trivial⟩, trivial⟩⟩, ⟨(FnOk.of Tryz.func56 d56), ⟨(FnOk.of Tryz.func88 d88), ⟨(FnOk.of Tryz.func152 d152), ⟨(FnOk.of Tryz.func280 d280), trivial, trivial⟩, trivial⟩, ⟨(FnOk.of Tryz.func216 d216), ⟨(fun E _ => ok_IndexByteS E), trivial, trivial⟩, trivial⟩⟩, ⟨trivial, ⟨(FnOk.of Tryz.func184 d184), ⟨(fun E _ => ok_IndexByte E), trivial, trivial⟩, trivial⟩, ⟨(fun E _ => ok_Add64 E), trivial, trivial⟩⟩⟩⟩⟩, ⟨(FnOk.of Tryz.func12 d12), ⟨(FnOk.of Tryz.func20 d20), ⟨(FnOk.of Tryz.func36 d36), ⟨trivial, ⟨(FnOk.of Tryz.func132 d132), ⟨(FnOk.of Tryz.func260 d260), trivial, trivial⟩, trivial⟩, ⟨(FnOk.of Tryz.func196 d196), ⟨(FnOk.of Tryz.func324 d324), trivial, trivial⟩, trivial⟩⟩, ⟨(FnOk.of Tryz.func100 d100), ⟨(FnOk.of Tryz.func164 d164), trivial, trivial⟩, ⟨(FnOk.of Tryz.func228 d228), trivial, trivial⟩⟩⟩, ⟨(FnOk.of Tryz.func52 d52), ⟨trivial, ⟨(FnOk.of Tryz.func148 d148), ⟨(FnOk.of Tryz.func276 d276), trivial, trivial⟩, trivial⟩, trivial⟩, ⟨(FnOk.of Tryz.func116 d116), ⟨(FnOk.of Tryz.func180 d180), trivial, trivial⟩, ⟨(FnOk.of Tryz.func244 d244), trivial, trivial⟩⟩⟩⟩, ⟨trivial, ⟨(FnOk.of Tryz.func44 d44), ⟨trivial, ⟨(FnOk.of Tryz.func140 d140), ⟨(FnOk.of Tryz.func268 d268), trivial, trivial⟩, trivial⟩, ⟨(FnOk.of Tryz.func204 d204), trivial, trivial⟩⟩, trivial⟩, ⟨(FnOk.of Tryz.func60 d60), ⟨trivial, ⟨(FnOk.of Tryz.func156 d156), trivial, trivial⟩, ⟨(FnOk.of Tryz.func220 d220), trivial, trivial⟩⟩, ⟨trivial, trivial, ⟨(FnOk.of Tryz.func252 d252), trivial, trivial⟩⟩⟩⟩⟩⟩, ⟨trivial, ⟨trivial, ⟨(FnOk.of Tryz.func18 d18), ⟨(FnOk.of Tryz.func34 d34), ⟨(FnOk.of Tryz.func66 d66), ⟨trivial, ⟨(FnOk.of Tryz.func258 d258), trivial, trivial⟩, trivial⟩, ⟨(FnOk.of Tryz.func194 d194), ⟨(FnOk.of Tryz.func322 d322), trivial, trivial⟩, trivial⟩⟩, ⟨(FnOk.of Tryz.func98 d98), ⟨(FnOk.of Tryz.func162 d162), trivial, trivial⟩, ⟨(FnOk.of Tryz.func226 d226), trivial, trivial⟩⟩⟩, ⟨(FnOk.of Tryz.func50 d50), ⟨(FnOk.of Tryz.func82 d82), ⟨trivial, ⟨(FnOk.of Tryz.func274 d274), trivial, trivial⟩, trivial⟩, trivial⟩, ⟨(FnOk.of Tryz.func114 d114), ⟨(FnOk.of Tryz.func178 d178), ⟨(FnOk.of Tryz.func306 d306), trivial, trivial⟩, trivial⟩, trivial⟩⟩⟩, ⟨(FnOk.of Tryz.func26 d26), ⟨(FnOk.of Tryz.func42 d42), ⟨(FnOk.of Tryz.func74 d74), ⟨trivial, ⟨(FnOk.of Tryz.func266 d266), trivial, trivial⟩, trivial⟩, trivial⟩, ⟨(FnOk.of Tryz.func106 d106), ⟨(FnOk.of Tryz.func170 d170), trivial, trivial⟩, trivial⟩⟩, ⟨trivial, ⟨(FnOk.of Tryz.func90 d90), ⟨(FnOk.of Tryz.func154 d154), ⟨(FnOk.of Tryz.func282 d282), trivial, trivial⟩, trivial⟩, ⟨(FnOk.of Tryz.func218 d218), trivial, trivial⟩⟩, ⟨(FnOk.of Tryz.func122 d122), ⟨(FnOk.of Tryz.func186 d186), ⟨(fun E _ => ok_Grow E), trivial, trivial⟩, trivial⟩, ⟨(FnOk.of Tryz.func250 d250), trivial, trivial⟩⟩⟩⟩⟩, ⟨(FnOk.of Tryz.func14 d14), ⟨(FnOk.of Tryz.func22 d22), ⟨(FnOk.of Tryz.func38 d38), ⟨hO, trivial, ⟨trivial, ⟨(FnOk.of Tryz.func326 d326), trivial, trivial⟩, trivial⟩⟩, ⟨(FnOk.of Tryz.func102 d102), ⟨(FnOk.of Tryz.func166 d166), ⟨(FnOk.of Tryz.func294 d294), trivial, trivial⟩, trivial⟩, ⟨(FnOk.of Tryz.func230 d230), trivial, trivial⟩⟩⟩, ⟨(FnOk.of Tryz.func54 d54), ⟨(FnOk.of Tryz.func86 d86), ⟨(FnOk.of Tryz.func150 d150), ⟨(FnOk.of Tryz.func278 d278), trivial, trivial⟩, trivial⟩, ⟨(FnOk.of Tryz.func214 d214), trivial, trivial⟩⟩, ⟨(FnOk.of Tryz.func118 d118), ⟨(FnOk.of Tryz.func182 d182), trivial, trivial⟩, ⟨(FnOk.of Tryz.func246 d246), trivial, trivial⟩⟩⟩⟩, ⟨trivial, ⟨(FnOk.of Tryz.func46 d46), ⟨(FnOk.of Tryz.func78 d78), ⟨trivial, ⟨(FnOk.of Tryz.func270 d270), trivial, trivial⟩, trivial⟩, ⟨(FnOk.of Tryz.func206 d206), trivial, trivial⟩⟩, ⟨(FnOk.of Tryz.func110 d110), ⟨(FnOk.of Tryz.func174 d174), ⟨(FnOk.of Tryz.func302 d302), trivial, trivial⟩, trivial⟩, trivial⟩⟩, ⟨trivial, ⟨(FnOk.of Tryz.func94 d94), ⟨(FnOk.of Tryz.func158 d158), trivial, trivial⟩, ⟨(FnOk.of Tryz.func222 d222), trivial, trivial⟩⟩, ⟨(FnOk.of Tryz.func126 d126), trivial, trivial⟩⟩⟩⟩⟩⟩⟩
theorem tabOkQ {B : Base} (hB : Pow10 B) (hO : ∀ E, EnvOk Tryz.prog B E → CallOk Tryz.prog B 70 (spOpen E)) (hK : ∀ E, EnvOk Tryz.prog B E → CallOk Tryz.prog B 11 (spKnown E)) : TabOk Tryz.prog B tt fr0 TBQ := TabOk.of ⟨trivial, ⟨trivial, ⟨trivial, ⟨trivial, ⟨trivial, ⟨trivial, trivial, ⟨(FnOk.of Tryz.func95 d95), trivial, ⟨(FnOk.of Tryz.func223 d223), trivial, trivial⟩⟩⟩, ⟨(FnOk.of Tryz.func47 d47), ⟨trivial, ⟨(FnOk.of Tryz.func143 d143), ⟨(FnOk.of Tryz.func271 d271), trivial, trivial⟩, trivial⟩, ⟨(FnOk.of Tryz.func207 d207), trivial, trivial⟩⟩, ⟨trivial, ⟨trivial, ⟨(FnOk.of Tryz.func303 d303), trivial, trivial⟩, trivial⟩, ⟨(FnOk.of Tryz.func239 d239), trivial, trivial⟩⟩⟩⟩, ⟨(FnOk.of Tryz.func23 d23), ⟨trivial, ⟨(FnOk.of Tryz.func71 d71), trivial, trivial⟩, trivial⟩, ⟨trivial, ⟨(FnOk.of Tryz.func87 d87), ⟨(FnOk.of Tryz.func151 d151), trivial, trivial⟩, ⟨(FnOk.of Tryz.func215 d215), ⟨(FnOk.of Tryz.func343 d343), trivial, trivial⟩, trivial⟩⟩, ⟨trivial, ⟨trivial, ⟨(FnOk.of Tryz.func311 d311), trivial, trivial⟩, trivial⟩, trivial⟩⟩⟩⟩, ⟨hK, ⟨(FnOk.of Tryz.func19 d19), ⟨trivial, ⟨(FnOk.of Tryz.func67 d67), ⟨(FnOk.of Tryz.func131 d131), trivial, trivial⟩, ⟨trivial, ⟨(FnOk.of Tryz.func323 d323), trivial, trivial⟩, trivial⟩⟩, ⟨(FnOk.of Tryz.func99 d99), ⟨(FnOk.of Tryz.func163 d163), trivial, trivial⟩, trivial⟩⟩, ⟨trivial, ⟨(FnOk.of Tryz.func83 d83), trivial, trivial⟩, ⟨trivial, ⟨trivial, ⟨(fun E _ => ok_NumDigits hB E), trivial, trivial⟩, trivial⟩, ⟨(FnOk.of Tryz.func243 d243), trivial, trivial⟩⟩⟩⟩, ⟨(FnOk.of Tryz.func27 d27), ⟨(FnOk.of Tryz.func43 d43), ⟨trivial, ⟨trivial, ⟨(FnOk.of Tryz.func267 d267), trivial, trivial⟩, trivial⟩, ⟨(FnOk.of Tryz.func203 d203), trivial, trivial⟩⟩, ⟨(FnOk.of Tryz.func107 d107), trivial, trivial⟩⟩, ⟨(FnOk.of Tryz.func59 d59), ⟨(FnOk.of Tryz.func91 d91), ⟨(FnOk.of Tryz.func155 d155), ⟨(FnOk.of Tryz.func283 d283), trivial, trivial⟩, trivial⟩, trivial⟩, ⟨trivial, ⟨(FnOk.of Tryz.func187 d187), trivial, trivial⟩, ⟨(FnOk.of Tryz.func251 d251), trivial, trivial⟩⟩⟩⟩⟩⟩, ⟨trivial, ⟨trivial, ⟨(FnOk.of Tryz.func17 d17), ⟨(FnOk.of Tryz.func33 d33), ⟨trivial, ⟨trivial, ⟨(fun E _ => ok_Format hB E), trivial, trivial⟩, trivial⟩, ⟨(FnOk.of Tryz.func193 d193), ⟨(FnOk.of Tryz.func321 d321), trivial, trivial⟩, trivial⟩⟩, ⟨(FnOk.of Tryz.func97 d97), trivial, trivial⟩⟩, ⟨(FnOk.of Tryz.func49 d49), ⟨(FnOk.of Tryz.func81 d81), ⟨(FnOk.of Tryz.func145 d145), ⟨(fun E _ => ok_Repeat E), trivial, trivial⟩, trivial⟩, ⟨(FnOk.of Tryz.func209 d209), trivial, trivial⟩⟩, trivial⟩⟩, ⟨trivial, ⟨trivial, ⟨(FnOk.of Tryz.func73 d73), ⟨(FnOk.of Tryz.func137 d137), ⟨(FnOk.of Tryz.func265 d265), trivial, trivial⟩, trivial⟩, ⟨trivial, ⟨(FnOk.of Tryz.func329 d329), trivial, trivial⟩, trivial⟩⟩, ⟨trivial, ⟨trivial, ⟨(FnOk.of Tryz.func297 d297), trivial, trivial⟩, trivial⟩, trivial⟩⟩, ⟨trivial, ⟨trivial, ⟨(FnOk.of Tryz.func153 d153), ⟨(FnOk.of Tryz.func281 d281), trivial, trivial⟩, trivial⟩, ⟨(FnOk.of Tryz.func217 d217), trivial, trivial⟩⟩, ⟨trivial, ⟨(fun E _ => ok_App0 E), ⟨(fun E _ => ok_Join E), trivial, trivial⟩, trivial⟩, trivial⟩⟩⟩⟩, ⟨(FnOk.of Tryz.func13 d13), ⟨trivial, ⟨trivial, ⟨(FnOk.of Tryz.func69 d69), trivial, ⟨(FnOk.of Tryz.func197 d197), ⟨(FnOk.of Tryz.func325 d325), trivial, trivial⟩, trivial⟩⟩, ⟨(FnOk.of Tryz.func101 d101), ⟨(FnOk.of Tryz.func165 d165), trivial, trivial⟩, trivial⟩⟩, ⟨trivial, ⟨(FnOk.of Tryz.func85 d85), ⟨(FnOk.of Tryz.func149 d149), ⟨(FnOk.of Tryz.func277 d277), trivial, trivial⟩, trivial⟩, trivial⟩, ⟨trivial, trivial, ⟨(FnOk.of Tryz.func245 d245), trivial, trivial⟩⟩⟩⟩, ⟨(FnOk.of Tryz.func29 d29), ⟨(FnOk.of Tryz.func45 d45), ⟨(FnOk.of Tryz.func77 d77), ⟨trivial, ⟨(FnOk.of Tryz.func269 d269), trivial, trivial⟩, trivial⟩, trivial⟩, ⟨trivial, ⟨trivial, ⟨(fun E _ => ok_CountS E), trivial, trivial⟩, trivial⟩, trivial⟩⟩, ⟨trivial, ⟨trivial, trivial, ⟨(FnOk.of Tryz.func221 d221), trivial, trivial⟩⟩, ⟨(FnOk.of Tryz.func125 d125), trivial, trivial⟩⟩⟩⟩⟩⟩, ⟨trivial, ⟨trivial, ⟨(FnOk.of Tryz.func8 d8), ⟨(FnOk.of Tryz.func16 d16), trivial, ⟨(FnOk.of Tryz.func48 d48), ⟨(FnOk.of Tryz.func80 d80), ⟨(FnOk.of Tryz.func144 d144), ⟨(FnOk.of Tryz.func272 d272), trivial, trivial⟩, trivial⟩, ⟨(fun E _ => ok_Best1 E), trivial, trivial⟩⟩, trivial⟩⟩, ⟨trivial, ⟨(FnOk.of Tryz.func40 d40), ⟨(FnOk.of Tryz.func72 d72), ⟨(FnOk.of Tryz.func136 d136), ⟨(FnOk.of Tryz.func264 d264), trivial, trivial⟩, trivial⟩, trivial⟩, ⟨trivial, ⟨(fun E _ => ok_MapClone E), ⟨(FnOk.of Tryz.func296 d296), trivial, trivial⟩, trivial⟩, trivial⟩⟩, ⟨trivial, ⟨(FnOk.of Tryz.func88 d88), ⟨(FnOk.of Tryz.func152 d152), ⟨(FnOk.of Tryz.func280 d280), trivial, trivial⟩, trivial⟩, ⟨(FnOk.of Tryz.func216 d216), ⟨(fun E _ => ok_IndexByteS E), trivial, trivial⟩, trivial⟩⟩, ⟨trivial, ⟨trivial, ⟨(fun E _ => ok_IndexByte E), trivial, trivial⟩, trivial⟩, ⟨(fun E _ => ok_Add64 E), trivial, trivial⟩⟩⟩⟩⟩, ⟨(FnOk.of Tryz.func12 d12), ⟨(FnOk.of Tryz.func20 d20), ⟨(FnOk.of Tryz.func36 d36), ⟨trivial, ⟨(FnOk.of Tryz.func132 d132), ⟨(FnOk.of Tryz.func260 d260), trivial, trivial⟩, trivial⟩, ⟨(FnOk.of Tryz.func196 d196), ⟨(FnOk.of Tryz.func324 d324), trivial, trivial⟩, trivial⟩⟩, ⟨(FnOk.of Tryz.func100 d100), ⟨(FnOk.of Tryz.func164 d164), trivial, trivial⟩, trivial⟩⟩, ⟨trivial, ⟨trivial, ⟨(FnOk.of Tryz.func148 d148), trivial, trivial⟩, trivial⟩, ⟨(FnOk.of Tryz.func116 d116), trivial, ⟨(FnOk.of Tryz.func244 d244), trivial, trivial⟩⟩⟩⟩, ⟨trivial, ⟨(FnOk.of Tryz.func44 d44), ⟨trivial, ⟨(FnOk.of Tryz.func140 d140), ⟨(FnOk.of Tryz.func268 d268), trivial, trivial⟩, trivial⟩, ⟨(FnOk.of Tryz.func204 d204), trivial, trivial⟩⟩, trivial⟩, ⟨(FnOk.of Tryz.func60 d60), ⟨trivial, ⟨(FnOk.of Tryz.func156 d156), trivial, trivial⟩, trivial⟩, ⟨trivial, trivial, ⟨(FnOk.of Tryz.func252 d252), trivial, trivial⟩⟩⟩⟩⟩⟩, ⟨trivial, ⟨trivial, ⟨trivial, ⟨(FnOk.of Tryz.func34 d34), ⟨(FnOk.of Tryz.func66 d66), ⟨trivial, ⟨(FnOk.of Tryz.func258 d258), trivial, trivial⟩, trivial⟩, ⟨(FnOk.of Tryz.func194 d194), ⟨(FnOk.of Tryz.func322 d322), trivial, trivial⟩, trivial⟩⟩, ⟨(FnOk.of Tryz.func98 d98), ⟨(FnOk.of Tryz.func162 d162), trivial, trivial⟩, trivial⟩⟩, ⟨(FnOk.of Tryz.func50 d50), ⟨(FnOk.of Tryz.func82 d82), ⟨trivial, ⟨(FnOk.of Tryz.func274 d274), trivial, trivial⟩, trivial⟩, trivial⟩, ⟨trivial, ⟨trivial, ⟨(FnOk.of Tryz.func306 d306), trivial, trivial⟩, trivial⟩, trivial⟩⟩⟩, ⟨trivial, ⟨trivial, ⟨(FnOk.of Tryz.func74 d74), ⟨trivial, ⟨(FnOk.of Tryz.func266 d266), trivial, trivial⟩, trivial⟩, trivial⟩, ⟨(FnOk.of Tryz.func106 d106), trivial, trivial⟩⟩, ⟨trivial, ⟨(FnOk.of Tryz.func90 d90), ⟨(FnOk.of Tryz.func154 d154), ⟨(FnOk.of Tryz.func282 d282), trivial, trivial⟩, trivial⟩, trivial⟩, ⟨(FnOk.of Tryz.func122 d122), ⟨(FnOk.of Tryz.func186 d186), ⟨(fun E _ => ok_Grow E), trivial, trivial⟩, trivial⟩, ⟨(FnOk.of Tryz.func250 d250), trivial, trivial⟩⟩⟩⟩⟩, ⟨(FnOk.of Tryz.func14 d14), ⟨(FnOk.of Tryz.func22 d22), ⟨(FnOk.of Tryz.func38 d38), ⟨hO, trivial, ⟨trivial, ⟨(FnOk.of Tryz.func326 d326), trivial, trivial⟩, trivial⟩⟩, ⟨(FnOk.of Tryz.func102 d102), ⟨(FnOk.of Tryz.func166 d166), ⟨(FnOk.of Tryz.func294 d294), trivial, trivial⟩, trivial⟩, ⟨(FnOk.of Tryz.func230 d230), trivial, trivial⟩⟩⟩, ⟨trivial, ⟨(FnOk.of Tryz.func86 d86), ⟨(FnOk.of Tryz.func150 d150), ⟨(FnOk.of Tryz.func278 d278), trivial, trivial⟩, trivial⟩, ⟨(FnOk.of Tryz.func214 d214), trivial, trivial⟩⟩, ⟨trivial, trivial, ⟨(FnOk.of Tryz.func246 d246), trivial, trivial⟩⟩⟩⟩, ⟨trivial, ⟨(FnOk.of Tryz.func46 d46), ⟨(FnOk.of Tryz.func78 d78), ⟨trivial, ⟨(FnOk.of Tryz.func270 d270), trivial, trivial⟩, trivial⟩, ⟨(FnOk.of Tryz.func206 d206), trivial, trivial⟩⟩, ⟨trivial, ⟨(FnOk.of Tryz.func174 d174), ⟨(FnOk.of Tryz.func302 d302), trivial, trivial⟩, trivial⟩, trivial⟩⟩, ⟨trivial, ⟨(FnOk.of Tryz.func94 d94), ⟨(FnOk.of Tryz.func158 d158), trivial, trivial⟩, trivial⟩, ⟨(FnOk.of Tryz.func126 d126), trivial, trivial⟩⟩⟩⟩⟩⟩⟩
end Go.Sx
