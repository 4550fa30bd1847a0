/- CoreQueries: each terminal is asked what it counts when the switch begins, when its power is back, and at each so-manieth tick; true for every k and ticks. Part Cb of the proof. Condition: the listed package variables hold what the program's text lays. -/
import Derived.Test.YtncpkgjihijjhaaGreatDoorSc
set_option linter.unusedVariables false
set_option linter.unusedSimpArgs false
noncomputable section
/- The program's functions, as the evaluator runs them: part 0. -/
set_option maxRecDepth 100000
namespace Go.Sx
/-- guichet/guichetlaw27.CoreQueries -/
def b8 : AFunc := ⟨70, [.tmp 4],
 .seq (.reg [rr 4 (.mov (.c (.bool false)))])
 (.seq (.seq (.reg [cl 10 11 [],
 rr 11 (.not (.t 10))])
 (.cond (.t 11) (.seq (.reg [rr 4 (.mov (.c (.bool false)))])
 (.ret))
 (.skip)))
 (.seq (.reg [mv 13 0,
 cl 14 12 [(.c (.int .u8 1)), .t 13],
 cl 15 13 [.t 14],
 mv 12 15,
 rr 16 (.ext (.t 12) 0),
 rr 17 (.ext (.t 12) 1),
 mv 5 16,
 mv 6 17])
 (.seq (.seq (.reg [mv 18 5,
 rr 19 (.eqP false (.t 18) (.c (.ptr none))),
 mv 20 19,
 gr 21 (.mov (.t 5)) 20 false,
 ⟨(some 22), .e (.call (.c (.fn (.func 14) [] [])) [.t 21]), (some (20, false))⟩,
 ⟨(some 23), .e (.call (.c (.fn (.func 36) [] [])) [.t 22, (ci 0), (ci 7)]), (some (20, false))⟩,
 gr 24 (.cmp .neq (.t 23) (ci 1)) 20 false,
 rr 25 (.pick (.t 20) (.c (.bool true)) (.t 24))])
 (.cond (.t 25) (.seq (.reg [rr 4 (.mov (.c (.bool false)))])
 (.ret))
 (.skip)))
 (.seq (.reg [mv 26 5,
 rr 27 (.build [(.int .i64 0), (.int .u16 0), (.int .u32 0), (.str []), (.int .i64 0), (.int .i64 0), (.int .i64 0), (.int .i64 0), (.int .i64 0), (.int .i64 0), (.int .i64 0), (.int .i64 0), (.int .i64 0), (.int .i64 0), (.int .i64 0), (.int .i64 0), (.int .i64 0), (.int .i64 0), (.int .i64 0), (.int .i64 0), (.int .i64 0), (.int .i64 0), (.int .i64 0), (.int .i64 0), (.int .i64 0), (.int .i64 0)] [(0, (1, (ci 3))), (1, (1, (.c (.int .u16 1))))]),
 cl 28 17 [.t 27],
 cl 29 16 [.t 26, (ci 1), .t 28]])
 (.seq (.reg [mv 30 5,
 cl 31 14 [.t 30],
 mv 7 31])
 (.seq (.seq (.reg [mv 32 7,
 cl 33 36 [.t 32, (ci 1), (ci 7)],
 rr 34 (.cmp .neq (.t 33) (ci 1)),
 mv 35 34,
 gr 36 (.mov (.t 7)) 35 false,
 ⟨(some 37), .e (.call (.c (.fn (.func 36) [] [])) [.t 36, (ci 0), (ci 7)]), (some (35, false))⟩,
 gr 38 (.cmp .neq (.t 37) (ci 0)) 35 false,
 rr 39 (.pick (.t 35) (.c (.bool true)) (.t 38))])
 (.cond (.t 39) (.seq (.reg [rr 4 (.mov (.c (.bool false)))])
 (.ret))
 (.skip)))
 (.seq (.reg [mv 40 1,
 rr 41 (.arith .rem (.t 40) (.c (.int .u8 40))),
 rr 42 (.toInt .i64 (.t 41)),
 mv 8 42])
 (.seq (.seq (.reg [rr 9 (.mov (ci 0))])
 (.block 0 (.loop [] (.seq (.seq (.reg [mv 43 9,
 mv 44 8,
 rr 45 (.cmp .lss (.t 43) (.t 44))])
 (.cond (.t 45) (.skip)
 (.exit 0)))
 (.seq (.block 1 (.reg [mv 48 5,
 cl 49 38 [.t 48]]))
 (.reg [mv 46 9,
 rr 47 (.arith .add (.t 46) (ci 1)),
 mv 9 47]))))))
 (.seq (.reg [mv 50 5,
 cl 51 14 [.t 50],
 mv 7 51])
 (.seq (.reg [mv 52 7,
 cl 53 36 [.t 52, (ci 0), (ci 7)],
 mv 54 8,
 rr 55 (.arith .quo (.t 54) (ci 4)),
 rr 56 (.cmp .eql (.t 53) (.t 55)),
 mv 57 56,
 gr 58 (.mov (.t 7)) 57 true,
 ⟨(some 59), .e (.call (.c (.fn (.func 36) [] [])) [.t 58, (ci 1), (ci 7)]), (some (57, true))⟩,
 gr 60 (.mov (.t 8)) 57 true,
 gr 61 (.arith .quo (.t 60) (ci 4)) 57 true,
 gr 62 (.cmp .eql (.t 59) (.t 61)) 57 true,
 rr 63 (.pick (.t 57) (.t 62) (.c (.bool false))),
 mv 64 63,
 gr 65 (.mov (.t 5)) 64 true,
 ⟨(some 66), .e (.call (.c (.fn (.func 29) [] [])) [.t 65]), (some (64, true))⟩,
 gr 67 (.len 1 (.t 66)) 64 true,
 gr 68 (.cmp .eql (.t 67) (ci 0)) 64 true,
 rr 69 (.pick (.t 64) (.t 68) (.c (.bool false))),
 mv 4 69])
 (.ret)))))))))))⟩
/-- guichet/guichetlaw27.known -/
def b11 : AFunc := ⟨61, [.tmp 0],
 .seq (.reg [rr 0 (.mov (.c (.bool false)))])
 (.seq (.reg [cl 9 12 [(.c (.int .u8 0)), (.c (.int .u8 0))],
 cl 10 13 [.t 9],
 mv 8 10,
 rr 11 (.ext (.t 8) 0),
 rr 12 (.ext (.t 8) 1),
 mv 1 11,
 mv 2 12])
 (.seq (.seq (.reg [mv 13 1,
 rr 14 (.eqP false (.t 13) (.c (.ptr none)))])
 (.cond (.t 14) (.seq (.reg [rr 0 (.mov (.c (.bool false)))])
 (.ret))
 (.skip)))
 (.seq (.reg [mv 15 1,
 cl 16 14 [.t 15]])
 (.seq (.reg [mv 17 1,
 cl 18 22 [(.c (.int .u8 1))],
 cl 19 21 [.t 17, (.c (.int .u16 0)), (.c (.int .u32 1)), .t 18, (ci 1000)],
 mv 3 19])
 (.seq (.reg [rr 20 (.build [(.int .u16 0), (.int .u32 0)] [(1, (1, (.c (.int .u32 1))))]),
 nn 4 (.zbox [(.int .u16 0), (.int .u32 0)]),
 ff (.storeN 2 (.t 4) (.t 20))])
 (.seq (.reg [mv 21 1,
 rr 22 (.loadN 2 (.t 4)),
 cl 23 26 [(ci 210), .t 22, (ci 1000), (.c (.str [48, 48]))],
 cl 24 25 [.t 21, .t 23]])
 (.seq (.reg [mv 25 1,
 cl 26 14 [.t 25],
 mv 5 26])
 (.seq (.dreg [⟨0, mv 28 1, false, []⟩,
 ⟨2, rr 30 (.loadN 2 (.t 4)), false, []⟩,
 ⟨7, nn 6 (.zbox [(.int .u16 0), (.int .u32 0), (.str []), (.int .i64 0), (.int .i64 0), (.int .i64 0), (.int .i64 0), (.int .i64 0), (.int .i64 0), (.int .i64 0), (.int .i64 0)]), false, []⟩,
 ⟨1, cl 29 18 [.t 28], true, [0]⟩,
 ⟨3, cl 31 27 [.t 29, .t 30], true, [2, 1, 0]⟩,
 ⟨4, mv 27 31, false, []⟩,
 ⟨5, rr 32 (.ext (.t 27) 0), false, []⟩,
 ⟨6, rr 33 (.ext (.t 27) 1), false, []⟩,
 ⟨8, ff (.storeN 11 (.t 6) (.t 32)), true, [7, 5, 4, 3, 2, 1, 0]⟩,
 ⟨9, mv 7 33, false, []⟩])
 (.seq (.reg [mv 34 3,
 cl 35 36 [.t 34, (ci (-1)), (ci 200)],
 rr 36 (.cmp .eql (.t 35) (ci 1)),
 mv 37 36,
 gr 38 (.mov (.t 5)) 37 true,
 ⟨(some 39), .e (.call (.c (.fn (.func 36) [] [])) [.t 38, (ci 0), (ci 5)]), (some (37, true))⟩,
 gr 40 (.cmp .eql (.t 39) (ci 1)) 37 true,
 rr 41 (.pick (.t 37) (.t 40) (.c (.bool false))),
 mv 42 41,
 gr 43 (.mov (.t 7)) 42 true,
 rr 44 (.pick (.t 42) (.t 43) (.c (.bool false))),
 mv 45 44,
 gr 46 (.fld 4 (.t 6)) 45 true,
 gr 47 (.load1 (.t 46)) 45 true,
 gr 48 (.cmp .eql (.t 47) (ci 3)) 45 true,
 rr 49 (.pick (.t 45) (.t 48) (.c (.bool false))),
 mv 50 49,
 gr 51 (.mov (.t 1)) 50 true,
 ⟨(some 52), .e (.call (.c (.fn (.func 29) [] [])) [.t 51]), (some (50, true))⟩,
 gr 53 (.len 1 (.t 52)) 50 true,
 gr 54 (.cmp .eql (.t 53) (ci 3)) 50 true,
 rr 55 (.pick (.t 50) (.t 54) (.c (.bool false))),
 mv 56 55,
 gr 57 (.mov (.t 1)) 56 true,
 ⟨(some 58), .e (.call (.c (.fn (.func 42) [] [])) [.t 57]), (some (56, true))⟩,
 gr 59 (.not (.t 58)) 56 true,
 rr 60 (.pick (.t 56) (.t 59) (.c (.bool false))),
 mv 0 60])
 (.ret))))))))))⟩
/-- guichet/guichetseat.Bank -/
def b12 : AFunc := ⟨66, [.cellN 4 5],
 .seq (.reg [nn 4 (.zbox [(.slice none (.n 0) (.exact 0)), (.slice none (.n 0) (.exact 0)), (.slice none (.n 0) (.exact 0)), (.int .i64 0), (.int .i64 0)])])
 (.seq (.reg [rr 10 (.build [(.slice none (.n 0) (.exact 0)), (.slice none (.n 0) (.exact 0)), (.slice none (.n 0) (.exact 0)), (.int .i64 0), (.int .i64 0)] [(3, (1, (ci 500))), (4, (1, (ci 100000)))]),
 nn 5 (.zbox [(.slice none (.n 0) (.exact 0)), (.slice none (.n 0) (.exact 0)), (.slice none (.n 0) (.exact 0)), (.int .i64 0), (.int .i64 0)]),
 ff (.storeN 5 (.t 5) (.t 10))])
 (.seq (.seq (.reg [rr 6 (.mov (ci 0))])
 (.block 0 (.loop [] (.seq (.seq (.reg [mv 11 6,
 mv 12 0,
 rr 13 (.arith .rem (.t 12) (.c (.int .u8 3))),
 rr 14 (.toInt .i64 (.t 13)),
 rr 15 (.arith .add (.t 14) (ci 1)),
 rr 16 (.cmp .lss (.t 11) (.t 15))])
 (.cond (.t 16) (.skip)
 (.exit 0)))
 (.seq (.block 1 (.seq (.reg [mv 19 1,
 mv 20 6,
 rr 21 (.toInt .u8 (.t 20)),
 rr 22 (.arith .add (.t 19) (.t 21)),
 cl 23 43 [.t 22],
 nn 7 (.zbox [(.int .i64 0), (.int .i64 0), (.int .i64 0), (.int .i64 0), (.int .i64 0), (.int .i64 0), (.int .i64 0), (.int .i64 0), (.int .i64 0), (.int .i64 0), (.int .i64 0), (.int .i64 0), (.int .i64 0), (.int .i64 0), (.int .i64 0), (.int .i64 0)]),
 ff (.storeN 16 (.t 7) (.t 23))])
 (.seq (.seq (.reg [rr 8 (.mov (ci 0))])
 (.block 2 (.loop [] (.seq (.seq (.reg [mv 24 8,
 rr 25 (.cmp .lss (.t 24) (ci 4))])
 (.cond (.t 25) (.skip)
 (.exit 2)))
 (.seq (.block 3 (.reg [mv 28 8,
 mv 29 8,
 rr 30 (.idxA 4 4 (.t 7) (.t 29)),
 rr 31 (.fld 1 (.t 30)),
 rr 32 (.load1 (.t 31)),
 rr 33 (.minmax true (.t 32) (ci 9)),
 rr 34 (.idxA 4 4 (.t 7) (.t 28)),
 rr 35 (.fld 1 (.t 34)),
 ff (.store1 (.t 35) (.t 33))]))
 (.reg [mv 26 8,
 rr 27 (.arith .add (.t 26) (ci 1)),
 mv 8 27]))))))
 (.reg [rr 36 (.fld 0 (.t 5)),
 rr 37 (.load1 (.t 36)),
 rr 38 (.loadN 16 (.t 7)),
 nn 39 (.bslice (some .c4) 16 1 [.t 38]),
 ee 40 (.append .c4 (.t 37) (.t 39)),
 rr 41 (.fld 0 (.t 5)),
 ff (.store1 (.t 41) (.t 40))]))))
 (.reg [mv 17 6,
 rr 18 (.arith .add (.t 17) (ci 1)),
 mv 6 18]))))))
 (.seq (.seq (.reg [rr 9 (.mov (.c (.int .u8 0)))])
 (.block 4 (.loop [] (.seq (.seq (.reg [mv 42 9,
 rr 43 (.cmp .lss (.t 42) (.c (.int .u8 4)))])
 (.cond (.t 43) (.skip)
 (.exit 4)))
 (.seq (.block 5 (.seq (.dreg [⟨0, rr 46 (.fld 1 (.t 5)), false, []⟩,
 ⟨1, rr 47 (.load1 (.t 46)), false, []⟩,
 ⟨2, mv 48 9, false, []⟩,
 ⟨3, cl 49 22 [.t 48], true, [2]⟩,
 ⟨4, nn 50 (.bslice (some .str) 1 1 [.t 49]), false, []⟩,
 ⟨5, ee 51 (.append .str (.t 47) (.t 50)), true, [4, 3, 2, 1, 0]⟩,
 ⟨6, rr 52 (.fld 1 (.t 5)), false, []⟩,
 ⟨7, ff (.store1 (.t 52) (.t 51)), true, [6, 5, 4, 3, 2, 1, 0]⟩])
 (.reg [rr 53 (.fld 2 (.t 5)),
 rr 54 (.load1 (.t 53)),
 mv 55 9,
 rr 56 (.toInt .i64 (.t 55)),
 rr 57 (.arith .mul (.t 56) (ci 20000)),
 mv 58 1,
 rr 59 (.toInt .i64 (.t 58)),
 rr 60 (.arith .mul (.t 59) (ci 100)),
 rr 61 (.arith .add (.t 57) (.t 60)),
 nn 62 (.bslice (some (.int .i64)) 1 1 [.t 61]),
 ee 63 (.append (.int .i64) (.t 54) (.t 62)),
 rr 64 (.fld 2 (.t 5)),
 ff (.store1 (.t 64) (.t 63))])))
 (.reg [mv 44 9,
 rr 45 (.arith .add (.t 44) (.c (.int .u8 1))),
 mv 9 45]))))))
 (.seq (.reg [rr 65 (.loadN 5 (.t 5)),
 ff (.storeN 5 (.t 4) (.t 65))])
 (.ret)))))⟩
/-- guichet/guichetlaw27.sw -/
def b13 : AFunc := ⟨18, [.tmp 2, .tmp 3],
 .seq (.reg [nn 1 (.box (.t 0)),
 rr 2 (.mov (.c (.ptr none))),
 rr 3 (.mov (.c (.ptr none)))])
 (.seq (.reg [cl 7 44 [(ci 1000)],
 mv 4 7])
 (.seq (.reg [rr 9 (.loadN 5 (.t 1)),
 mv 10 4,
 cl 11 34 [.t 9, .t 10],
 mv 8 11,
 rr 12 (.ext (.t 8) 0),
 rr 13 (.ext (.t 8) 1),
 mv 5 12,
 mv 6 13])
 (.seq (.seq (.reg [mv 14 6,
 rr 15 (.cmp .neq (.t 14) (ci 0))])
 (.cond (.t 15) (.seq (.reg [rr 2 (.mov (.c (.ptr none))),
 rr 3 (.mov (.c (.ptr none)))])
 (.ret))
 (.skip)))
 (.seq (.reg [mv 16 5,
 mv 17 4,
 mv 2 16,
 mv 3 17])
 (.ret)))))⟩
/-- (*guichet/core.Switch).Out -/
def b14 : AFunc := ⟨12, [.tmp 2],
 .seq (.reg [rr 2 (.mov (.c (.slice none (.n 0) (.exact 0))))])
 (.seq (.reg [mv 4 0,
 rr 5 (.nilchk (.t 4)),
 rr 6 (.fld 11 (.t 5)),
 rr 7 (.load1 (.t 6)),
 mv 3 7])
 (.seq (.reg [mv 8 0,
 rr 9 (.nilchk (.t 8)),
 rr 10 (.fld 11 (.t 9)),
 ff (.store1 (.t 10) (.c (.slice none (.n 0) (.exact 0))))])
 (.seq (.reg [mv 11 3,
 mv 2 11])
 (.ret))))⟩
/-- (*guichet/core.Switch).Terminal -/
def b16 : AFunc := ⟨51, [],
 .seq (.seq (.reg [mv 8 0,
 rr 9 (.nilchk (.t 8)),
 rr 10 (.fld 12 (.t 9)),
 rr 11 (.load1 (.t 10))])
 (.cond (.t 11) (.ret)
 (.skip)))
 (.seq (.reg [mv 13 2,
 cl 14 45 [.t 13],
 mv 12 14,
 rr 15 (.ext (.t 12) 0),
 rr 16 (.ext (.t 12) 1),
 nn 6 (.zbox [(.int .i64 0), (.int .u16 0), (.int .u32 0), (.str []), (.int .i64 0), (.int .i64 0), (.int .i64 0), (.int .i64 0), (.int .i64 0), (.int .i64 0), (.int .i64 0), (.int .i64 0), (.int .i64 0), (.int .i64 0), (.int .i64 0), (.int .i64 0), (.int .i64 0), (.int .i64 0), (.int .i64 0), (.int .i64 0), (.int .i64 0), (.int .i64 0), (.int .i64 0), (.int .i64 0), (.int .i64 0), (.int .i64 0)]),
 ff (.storeN 26 (.t 6) (.t 15)),
 mv 7 16])
 (.seq (.seq (.reg [mv 17 7,
 rr 18 (.cmp .neq (.t 17) (ci 0)),
 mv 19 18,
 gr 20 (.fld 1 (.t 6)) 19 false,
 gr 21 (.load1 (.t 20)) 19 false,
 gr 22 (.toInt .i64 (.t 21)) 19 false,
 gr 23 (.mov (.t 1)) 19 false,
 gr 24 (.cmp .neq (.t 22) (.t 23)) 19 false,
 rr 25 (.pick (.t 19) (.c (.bool true)) (.t 24)),
 mv 26 25,
 gr 27 (.mov (.t 1)) 26 false,
 gr 28 (.mov (.t 0)) 26 false,
 gr 29 (.nilchk (.t 28)) 26 false,
 gr 30 (.fld 0 (.t 29)) 26 false,
 gr 31 (.fld 0 (.t 30)) 26 false,
 gr 32 (.load1 (.t 31)) 26 false,
 gr 33 (.len 1 (.t 32)) 26 false,
 gr 34 (.cmp .geq (.t 27) (.t 33)) 26 false,
 rr 35 (.pick (.t 26) (.c (.bool true)) (.t 34)),
 mv 36 35,
 gr 37 (.mov (.t 0)) 36 false,
 gr 38 (.loadN 26 (.t 6)) 36 false,
 ⟨(some 39), .e (.call (.c (.fn (.func 46) [] [])) [.t 37, .t 38]), (some (36, false))⟩,
 gr 40 (.not (.t 39)) 36 false,
 rr 41 (.pick (.t 36) (.c (.bool true)) (.t 40))])
 (.cond (.t 41) (.reg [mv 42 0,
 rr 43 (.nilchk (.t 42)),
 rr 44 (.fld 13 (.t 43)),
 rr 45 (.load1 (.t 44)),
 rr 46 (.arith .add (.t 45) (ci 1)),
 rr 47 (.nilchk (.t 42)),
 rr 48 (.fld 13 (.t 47)),
 ff (.store1 (.t 48) (.t 46))])
 (.skip)))
 (.reg [mv 49 0,
 cl 50 47 [.t 49]])))⟩
/-- guichet/guichetseat.Bytes -/
def b17 : AFunc := ⟨11, [.tmp 2],
 .seq (.reg [nn 1 (.box (.t 0)),
 rr 2 (.mov (.c (.slice none (.n 0) (.exact 0))))])
 (.seq (.reg [rr 6 (.loadN 26 (.t 1)),
 cl 7 48 [.t 6],
 mv 5 7,
 rr 8 (.ext (.t 5) 0),
 rr 9 (.ext (.t 5) 1),
 mv 3 8,
 mv 4 9])
 (.seq (.reg [mv 10 3,
 mv 2 10])
 (.ret)))⟩
/-- (*guichet/core.Switch).Book -/
def b18 : AFunc := ⟨8, [.tmp 2],
 .seq (.reg [rr 2 (.mov (.c (.ptr none)))])
 (.seq (.reg [mv 3 0,
 rr 4 (.nilchk (.t 3)),
 rr 5 (.fld 7 (.t 4)),
 rr 6 (.load1 (.t 5)),
 cl 7 49 [.t 6],
 mv 2 7])
 (.ret))⟩
/-- (*guichet/book.Book).Cassettes -/
def b19 : AFunc := ⟨23, [.cellN 4 16, .tmp 5],
 .seq (.reg [nn 4 (.zbox [(.int .i64 0), (.int .i64 0), (.int .i64 0), (.int .i64 0), (.int .i64 0), (.int .i64 0), (.int .i64 0), (.int .i64 0), (.int .i64 0), (.int .i64 0), (.int .i64 0), (.int .i64 0), (.int .i64 0), (.int .i64 0), (.int .i64 0), (.int .i64 0)]),
 rr 5 (.mov (.c (.bool false)))])
 (.seq (.seq (.reg [mv 6 1,
 rr 7 (.toInt .i64 (.t 6)),
 mv 8 0,
 rr 9 (.nilchk (.t 8)),
 rr 10 (.fld 1 (.t 9)),
 rr 11 (.load1 (.t 10)),
 rr 12 (.len 1 (.t 11)),
 rr 13 (.cmp .geq (.t 7) (.t 12))])
 (.cond (.t 13) (.seq (.reg [rr 14 (.build [(.int .i64 0), (.int .i64 0), (.int .i64 0), (.int .i64 0), (.int .i64 0), (.int .i64 0), (.int .i64 0), (.int .i64 0), (.int .i64 0), (.int .i64 0), (.int .i64 0), (.int .i64 0), (.int .i64 0), (.int .i64 0), (.int .i64 0), (.int .i64 0)] []),
 ff (.storeN 16 (.t 4) (.t 14)),
 rr 5 (.mov (.c (.bool false)))])
 (.ret))
 (.skip)))
 (.seq (.reg [mv 15 0,
 rr 16 (.nilchk (.t 15)),
 rr 17 (.fld 1 (.t 16)),
 rr 18 (.load1 (.t 17)),
 mv 19 1,
 rr 20 (.idxS 18 (.t 18) (.t 19)),
 rr 21 (.fld 0 (.t 20)),
 cl 22 50 [.t 21],
 ff (.storeN 16 (.t 4) (.t 22)),
 rr 5 (.mov (.c (.bool true)))])
 (.ret)))⟩
/-- (*guichet/book.Book).Out -/
def b20 : AFunc := ⟨23, [.tmp 4],
 .seq (.reg [rr 4 (.mov (.c (.bool false)))])
 (.seq (.reg [mv 5 1,
 rr 6 (.toInt .i64 (.t 5)),
 mv 7 0,
 rr 8 (.nilchk (.t 7)),
 rr 9 (.fld 1 (.t 8)),
 rr 10 (.load1 (.t 9)),
 rr 11 (.len 1 (.t 10)),
 rr 12 (.cmp .lss (.t 6) (.t 11)),
 mv 13 12,
 gr 14 (.mov (.t 0)) 13 true,
 gr 15 (.nilchk (.t 14)) 13 true,
 gr 16 (.fld 1 (.t 15)) 13 true,
 gr 17 (.load1 (.t 16)) 13 true,
 gr 18 (.mov (.t 1)) 13 true,
 gr 19 (.idxS 18 (.t 17) (.t 18)) 13 true,
 gr 20 (.fld 16 (.t 19)) 13 true,
 gr 21 (.load1 (.t 20)) 13 true,
 rr 22 (.pick (.t 13) (.t 21) (.c (.bool false))),
 mv 4 22])
 (.ret))⟩
/-- guichet/guichetlaw27.ask -/
def b21 : AFunc := ⟨23, [.tmp 10],
 .seq (.reg [rr 10 (.mov (.c (.slice none (.n 0) (.exact 0))))])
 (.seq (.reg [mv 11 0,
 mv 12 1,
 rr 13 (.toInt .i64 (.t 12)),
 mv 14 1,
 mv 15 2,
 mv 16 3,
 mv 17 4,
 rr 18 (.build [(.int .i64 0), (.int .u16 0), (.int .u32 0), (.str []), (.int .i64 0), (.int .i64 0), (.int .i64 0), (.int .i64 0), (.int .i64 0), (.int .i64 0), (.int .i64 0), (.int .i64 0), (.int .i64 0), (.int .i64 0), (.int .i64 0), (.int .i64 0), (.int .i64 0), (.int .i64 0), (.int .i64 0), (.int .i64 0), (.int .i64 0), (.int .i64 0), (.int .i64 0), (.int .i64 0), (.int .i64 0), (.int .i64 0)] [(0, (1, (ci 1))), (1, (1, (.t 14))), (2, (1, (.t 15))), (3, (1, (.t 16))), (4, (1, (.t 17)))]),
 cl 19 17 [.t 18],
 cl 20 16 [.t 11, .t 13, .t 19]])
 (.seq (.reg [mv 21 0,
 cl 22 14 [.t 21],
 mv 10 22])
 (.ret)))⟩
/-- guichet/guichetseat.Pan -/
def b22 : AFunc := ⟨8, [.tmp 2],
 .seq (.reg [rr 2 (.mov (.c (.str [])))])
 (.seq (.reg [nn 3 (.bslice (some .str) 1 4 [(.c (.str [52, 48, 48, 48, 49, 50, 51, 52, 49, 50, 51, 52, 49, 50, 51, 52])), (.c (.str [53, 49])), (.c (.str [57])), (.c (.str [54, 48, 49, 49, 48, 48, 48, 57, 57, 48, 49, 51, 57, 52, 50, 52]))]),
 mv 4 0,
 rr 5 (.arith .rem (.t 4) (.c (.int .u8 4))),
 rr 6 (.idxS 1 (.t 3) (.t 5)),
 rr 7 (.load1 (.t 6)),
 mv 2 7])
 (.ret))⟩
/-- guichet/guichetlaw27.to -/
def b23 : AFunc := ⟨74, [.tmp 6],
 .seq (.reg [nn 3 (.box (.t 0)),
 rr 6 (.mov (.c (.bool false)))])
 (.seq (.seq (.reg [rr 9 (.fld 0 (.t 3)),
 rr 10 (.load1 (.t 9)),
 mv 11 1,
 rr 12 (.cmp .neq (.t 10) (.t 11))])
 (.cond (.t 12) (.seq (.reg [rr 6 (.mov (.c (.bool false)))])
 (.ret))
 (.skip)))
 (.seq (.seq (.reg [mv 13 1,
 rr 14 (.cmp .geq (.t 13) (ci 0))])
 (.cond (.t 14) (.seq (.reg [rr 16 (.fld 1 (.t 3)),
 rr 17 (.load1 (.t 16)),
 cl 18 40 [.t 17],
 mv 15 18,
 rr 19 (.ext (.t 15) 0),
 rr 20 (.ext (.t 15) 1),
 nn 7 (.zbox [(.int .i64 0), (.int .u16 0), (.int .u32 0), (.str []), (.int .i64 0), (.int .i64 0), (.int .i64 0), (.int .i64 0), (.int .i64 0), (.int .i64 0), (.int .i64 0), (.int .i64 0), (.int .i64 0), (.int .i64 0), (.int .i64 0), (.int .i64 0), (.int .i64 0), (.int .i64 0), (.int .i64 0), (.int .i64 0), (.int .i64 0), (.int .i64 0), (.int .i64 0), (.int .i64 0), (.int .i64 0), (.int .i64 0)]),
 ff (.storeN 26 (.t 7) (.t 19)),
 mv 8 20])
 (.seq (.reg [mv 21 8,
 rr 22 (.cmp .eql (.t 21) (ci 0)),
 mv 23 22,
 gr 24 (.fld 0 (.t 7)) 23 true,
 gr 25 (.load1 (.t 24)) 23 true,
 gr 26 (.mov (.t 2)) 23 true,
 gr 27 (.cmp .eql (.t 25) (.t 26)) 23 true,
 rr 28 (.pick (.t 23) (.t 27) (.c (.bool false))),
 mv 29 28,
 gr 30 (.fld 1 (.t 7)) 29 true,
 gr 31 (.load1 (.t 30)) 29 true,
 gr 32 (.toInt .i64 (.t 31)) 29 true,
 gr 33 (.mov (.t 1)) 29 true,
 gr 34 (.cmp .eql (.t 32) (.t 33)) 29 true,
 rr 35 (.pick (.t 29) (.t 34) (.c (.bool false))),
 mv 6 35])
 (.ret)))
 (.skip)))
 (.seq (.dreg [⟨0, rr 36 (.fld 1 (.t 3)), false, []⟩,
 ⟨1, rr 37 (.load1 (.t 36)), false, []⟩,
 ⟨2, rr 38 (.len 1 (.t 37)), false, []⟩,
 ⟨3, rr 39 (.cmp .gtr (.t 38) (ci 2)), false, []⟩,
 ⟨4, mv 40 39, false, []⟩,
 ⟨5, gr 41 (.fld 1 (.t 3)) 40 true, false, []⟩,
 ⟨6, gr 42 (.load1 (.t 41)) 40 true, false, []⟩,
 ⟨7, gr 43 (.idxS 1 (.t 42) (ci 0)) 40 true, false, []⟩,
 ⟨8, gr 44 (.load1 (.t 43)) 40 true, false, []⟩,
 ⟨9, gr 45 (.arith .shr (.t 44) (.c (.int .u64 4))) 40 true, false, []⟩,
 ⟨10, gr 46 (.toInt .i64 (.t 45)) 40 true, false, []⟩,
 ⟨11, gr 47 (.arith .mul (.t 46) (ci 1000)) 40 true, false, []⟩,
 ⟨12, gr 48 (.fld 1 (.t 3)) 40 true, false, []⟩,
 ⟨13, gr 49 (.load1 (.t 48)) 40 true, false, []⟩,
 ⟨14, gr 50 (.idxS 1 (.t 49) (ci 0)) 40 true, false, []⟩,
 ⟨15, gr 51 (.load1 (.t 50)) 40 true, false, []⟩,
 ⟨16, gr 52 (.arith .and (.t 51) (.c (.int .u8 15))) 40 true, false, []⟩,
 ⟨17, gr 53 (.toInt .i64 (.t 52)) 40 true, false, []⟩,
 ⟨18, gr 54 (.arith .mul (.t 53) (ci 100)) 40 true, false, []⟩,
 ⟨19, gr 55 (.arith .add (.t 47) (.t 54)) 40 true, false, []⟩,
 ⟨20, gr 56 (.fld 1 (.t 3)) 40 true, false, []⟩,
 ⟨21, gr 57 (.load1 (.t 56)) 40 true, false, []⟩,
 ⟨22, gr 58 (.idxS 1 (.t 57) (ci 1)) 40 true, false, []⟩,
 ⟨23, gr 59 (.load1 (.t 58)) 40 true, false, []⟩,
 ⟨24, gr 60 (.arith .shr (.t 59) (.c (.int .u64 4))) 40 true, false, []⟩,
 ⟨25, gr 61 (.toInt .i64 (.t 60)) 40 true, false, []⟩,
 ⟨26, gr 62 (.arith .mul (.t 61) (ci 10)) 40 true, false, []⟩,
 ⟨27, gr 63 (.arith .add (.t 55) (.t 62)) 40 true, false, []⟩,
 ⟨28, gr 64 (.fld 1 (.t 3)) 40 true, false, []⟩,
 ⟨29, gr 65 (.load1 (.t 64)) 40 true, false, []⟩,
 ⟨30, gr 66 (.idxS 1 (.t 65) (ci 1)) 40 true, false, []⟩,
 ⟨31, gr 67 (.load1 (.t 66)) 40 true, false, []⟩,
 ⟨32, gr 68 (.arith .and (.t 67) (.c (.int .u8 15))) 40 true, false, []⟩,
 ⟨33, gr 69 (.toInt .i64 (.t 68)) 40 true, false, []⟩,
 ⟨34, gr 70 (.arith .add (.t 63) (.t 69)) 40 true, false, []⟩,
 ⟨35, gr 71 (.mov (.t 2)) 40 true, false, []⟩,
 ⟨36, gr 72 (.cmp .eql (.t 70) (.t 71)) 40 true, false, []⟩,
 ⟨37, rr 73 (.pick (.t 40) (.t 72) (.c (.bool false))), false, []⟩,
 ⟨38, mv 6 73, false, []⟩])
 (.ret))))⟩
/-- (*guichet/core.Switch).Host -/
def b25 : AFunc := ⟨38, [],
 .seq (.seq (.reg [mv 8 0,
 rr 9 (.nilchk (.t 8)),
 rr 10 (.fld 12 (.t 9)),
 rr 11 (.load1 (.t 10))])
 (.cond (.t 11) (.ret)
 (.skip)))
 (.seq (.reg [mv 13 1,
 cl 14 51 [.t 13],
 mv 12 14,
 rr 15 (.ext (.t 12) 0),
 rr 16 (.ext (.t 12) 1),
 rr 17 (.ext (.t 12) 2),
 rr 18 (.ext (.t 12) 3),
 nn 4 (.zbox [(.int .u16 0), (.int .u32 0)]),
 ff (.storeN 2 (.t 4) (.t 15)),
 mv 5 16,
 mv 6 17,
 mv 7 18])
 (.seq (.seq (.reg [mv 19 7,
 rr 20 (.not (.t 19)),
 mv 21 20,
 gr 22 (.mov (.t 0)) 21 false,
 gr 23 (.loadN 2 (.t 4)) 21 false,
 gr 24 (.mov (.t 5)) 21 false,
 gr 25 (.mov (.t 6)) 21 false,
 ⟨(some 26), .e (.call (.c (.fn (.func 52) [] [])) [.t 22, .t 23, .t 24, .t 25]), (some (21, false))⟩,
 gr 27 (.not (.t 26)) 21 false,
 rr 28 (.pick (.t 21) (.c (.bool true)) (.t 27))])
 (.cond (.t 28) (.reg [mv 29 0,
 rr 30 (.nilchk (.t 29)),
 rr 31 (.fld 13 (.t 30)),
 rr 32 (.load1 (.t 31)),
 rr 33 (.arith .add (.t 32) (ci 1)),
 rr 34 (.nilchk (.t 29)),
 rr 35 (.fld 13 (.t 34)),
 ff (.store1 (.t 35) (.t 33))])
 (.skip)))
 (.reg [mv 36 0,
 cl 37 47 [.t 36]])))⟩
/-- guichet/guichetlaw27.answer -/
def b26 : AFunc := ⟨47, [.tmp 8],
 .seq (.reg [nn 5 (.box (.t 1)),
 rr 8 (.mov (.c (.slice none (.n 0) (.exact 0))))])
 (.seq (.reg [nn 14 (.bslice (some .str) 1 1 [(.c (.str [53, 49]))]),
 nn 15 (.bslice (some (.int .i64)) 1 1 [(ci 1000000)]),
 cl 16 53 [.t 14, .t 15],
 mv 9 16])
 (.seq (.reg [rr 18 (.loadN 2 (.t 5)),
 mv 19 2,
 cl 20 54 [.t 18, (.c (.str [53, 49])), .t 19],
 mv 17 20,
 rr 21 (.ext (.t 17) 0),
 rr 22 (.ext (.t 17) 1),
 mv 10 21,
 mv 11 22])
 (.seq (.seq (.reg [mv 23 0,
 rr 24 (.cmp .eql (.t 23) (ci 430))])
 (.cond (.t 24) (.reg [rr 26 (.loadN 2 (.t 5)),
 mv 27 2,
 cl 28 55 [.t 26, (.c (.str [53, 49])), .t 27, (ci 0)],
 mv 25 28,
 rr 29 (.ext (.t 25) 0),
 rr 30 (.ext (.t 25) 1),
 mv 10 29])
 (.skip)))
 (.seq (.seq (.reg [mv 31 3,
 rr 32 (.eq1 (.s) true (.t 31) (.c (.str [48, 48]))),
 mv 33 32,
 gr 34 (.mov (.t 0)) 33 true,
 gr 35 (.cmp .eql (.t 34) (ci 210)) 33 true,
 rr 36 (.pick (.t 33) (.t 35) (.c (.bool false)))])
 (.cond (.t 36) (.reg [nn 37 (.bslice (some .str) 1 1 [(.c (.str [53, 49]))]),
 nn 38 (.bslice (some (.int .i64)) 1 1 [(ci 0)]),
 cl 39 53 [.t 37, .t 38],
 mv 9 39])
 (.skip)))
 (.seq (.reg [mv 41 9,
 mv 42 10,
 cl 43 56 [.t 41, .t 42],
 mv 40 43,
 rr 44 (.ext (.t 40) 0),
 rr 45 (.ext (.t 40) 1),
 mv 12 44,
 mv 13 45])
 (.seq (.reg [mv 46 12,
 mv 8 46])
 (.ret)))))))⟩
/-- (*guichet/book.Book).Get -/
def b27 : AFunc := ⟨19, [.cellN 4 11, .tmp 5],
 .seq (.reg [nn 3 (.box (.t 1)),
 nn 4 (.zbox [(.int .u16 0), (.int .u32 0), (.str []), (.int .i64 0), (.int .i64 0), (.int .i64 0), (.int .i64 0), (.int .i64 0), (.int .i64 0), (.int .i64 0), (.int .i64 0)]),
 rr 5 (.mov (.c (.bool false)))])
 (.seq (.dreg [⟨0, mv 9 0, false, []⟩,
 ⟨1, rr 10 (.nilchk (.t 9)), false, []⟩,
 ⟨2, rr 11 (.fld 2 (.t 10)), false, []⟩,
 ⟨3, rr 12 (.load1 (.t 11)), false, []⟩,
 ⟨4, rr 13 (.loadN 2 (.t 3)), false, []⟩,
 ⟨5, rr 14 (.look .key .txn true (.t 12) (.t 13)), false, []⟩,
 ⟨6, mv 8 14, false, []⟩,
 ⟨7, rr 15 (.ext (.t 8) 0), false, []⟩,
 ⟨8, rr 16 (.ext (.t 8) 1), false, []⟩,
 ⟨9, nn 6 (.zbox [(.int .u16 0), (.int .u32 0), (.str []), (.int .i64 0), (.int .i64 0), (.int .i64 0), (.int .i64 0), (.int .i64 0), (.int .i64 0), (.int .i64 0), (.int .i64 0)]), false, []⟩,
 ⟨10, ff (.storeN 11 (.t 6) (.t 15)), true, [9, 7, 6, 5, 4, 3, 2, 1, 0]⟩,
 ⟨11, mv 7 16, false, []⟩])
 (.seq (.reg [rr 17 (.loadN 11 (.t 6)),
 mv 18 7,
 ff (.storeN 11 (.t 4) (.t 17)),
 mv 5 18])
 (.ret)))⟩
/-- (*guichet/core.Switch).Journal -/
def b29 : AFunc := ⟨8, [.tmp 2],
 .seq (.reg [rr 2 (.mov (.c (.slice none (.n 0) (.exact 0))))])
 (.seq (.reg [mv 3 0,
 rr 4 (.nilchk (.t 3)),
 rr 5 (.fld 6 (.t 4)),
 rr 6 (.load1 (.t 5)),
 cl 7 59 [.t 6],
 mv 2 7])
 (.ret))⟩
/-- (*guichet/book.Book).All -/
def b33 : AFunc := ⟨28, [.tmp 2],
 .seq (.reg [rr 2 (.mov (.c (.slice none (.n 0) (.exact 0))))])
 (.seq (.reg [rr 3 (.mov (.c (.slice none (.n 0) (.exact 0))))])
 (.seq (.seq (.reg [mv 6 0,
 rr 7 (.nilchk (.t 6)),
 rr 8 (.fld 2 (.t 7)),
 rr 9 (.load1 (.t 8)),
 cl 10 67 [.t 9],
 cl 11 66 [.t 10, (.c (.fn (.func 68) [] []))],
 rr 12 (.len 1 (.t 11)),
 rr 13 (.mov (ci 0))])
 (.block 0 (.loop [] (.seq (.reg [rr 14 (.cmp .lss (.t 13) (.t 12))])
 (.seq (.cond (.t 14) (.skip)
 (.exit 0))
 (.seq (.block 1 (.seq (.reg [rr 15 (.idxS 2 (.t 11) (.t 13)),
 rr 16 (.loadN 2 (.t 15)),
 nn 5 (.zbox [(.int .u16 0), (.int .u32 0)]),
 ff (.storeN 2 (.t 5) (.t 16))])
 (.dreg [⟨0, mv 17 3, false, []⟩,
 ⟨1, mv 18 0, false, []⟩,
 ⟨2, rr 19 (.nilchk (.t 18)), false, []⟩,
 ⟨3, rr 20 (.fld 2 (.t 19)), false, []⟩,
 ⟨4, rr 21 (.load1 (.t 20)), false, []⟩,
 ⟨5, rr 22 (.loadN 2 (.t 5)), false, []⟩,
 ⟨6, rr 23 (.look .key .txn false (.t 21) (.t 22)), false, []⟩,
 ⟨7, nn 24 (.bslice (some .txn) 11 1 [.t 23]), false, []⟩,
 ⟨8, ee 25 (.append .txn (.t 17) (.t 24)), true, [7, 6, 5, 4, 3, 2, 1, 0]⟩,
 ⟨9, mv 3 25, false, []⟩])))
 (.reg [rr 26 (.arith .add (.t 13) (ci 1)),
 mv 13 26])))))))
 (.seq (.reg [mv 27 3,
 mv 2 27])
 (.ret))))⟩
/-- guichet/core.New -/
def b34 : AFunc := ⟨90, [.tmp 4, .tmp 5],
 .seq (.reg [nn 2 (.box (.t 0)),
 rr 4 (.mov (.c (.ptr none))),
 rr 5 (.mov (ci 0))])
 (.seq (.seq (.reg [rr 14 (.loadN 5 (.t 2)),
 cl 15 69 [.t 14],
 rr 16 (.not (.t 15))])
 (.cond (.t 16) (.seq (.reg [rr 4 (.mov (.c (.ptr none))),
 rr 5 (.mov (ci 27))])
 (.ret))
 (.skip)))
 (.seq (.reg [mv 18 1,
 cl 19 70 [.t 18],
 mv 17 19,
 rr 20 (.ext (.t 17) 0),
 rr 21 (.ext (.t 17) 1),
 rr 22 (.ext (.t 17) 2),
 mv 6 20,
 mv 7 21,
 mv 8 22])
 (.seq (.seq (.reg [mv 23 8,
 rr 24 (.cmp .neq (.t 23) (ci 0))])
 (.cond (.t 24) (.seq (.reg [mv 25 8,
 rr 4 (.mov (.c (.ptr none))),
 mv 5 25])
 (.ret))
 (.skip)))
 (.seq (.dreg [⟨0, rr 26 (.loadN 5 (.t 2)), false, []⟩,
 ⟨1, mv 27 6, false, []⟩,
 ⟨2, mv 28 7, false, []⟩,
 ⟨3, rr 29 (.loadN 5 (.t 2)), false, []⟩,
 ⟨6, nn 32 (.mkmap .key (.int .i64)), false, []⟩,
 ⟨4, cl 30 71 [.t 29], true, [3]⟩,
 ⟨5, cl 31 72 [], true, [4, 3]⟩,
 ⟨7, rr 33 (.build [(.slice none (.n 0) (.exact 0)), (.slice none (.n 0) (.exact 0)), (.slice none (.n 0) (.exact 0)), (.int .i64 0), (.int .i64 0), (.ptr none), (.slice none (.n 0) (.exact 0)), (.ptr none), (.ptr none), (.int .i64 0), (.map none), (.slice none (.n 0) (.exact 0)), (.bool false), (.int .i64 0)] [(0, (5, (.t 26))), (5, (1, (.t 27))), (6, (1, (.t 28))), (7, (1, (.t 30))), (8, (1, (.t 31))), (10, (1, (.t 32)))]), false, []⟩,
 ⟨8, nn 34 (.box (.t 33)), false, []⟩,
 ⟨9, mv 9 34, false, []⟩])
 (.seq (.reg [mv 35 9,
 rr 36 (.fld 0 (.t 2)),
 rr 37 (.load1 (.t 36)),
 cl 38 73 [.t 37],
 rr 39 (.nilchk (.t 35)),
 rr 40 (.fld 0 (.t 39)),
 rr 41 (.fld 0 (.t 40)),
 ff (.store1 (.t 41) (.t 38))])
 (.seq (.seq (.reg [mv 42 7,
 rr 43 (.len 1 (.t 42)),
 rr 44 (.mov (ci 0))])
 (.block 0 (.loop [] (.seq (.reg [rr 45 (.cmp .lss (.t 44) (.t 43))])
 (.seq (.cond (.t 45) (.skip)
 (.exit 0))
 (.seq (.block 1 (.seq (.reg [rr 46 (.idxS 17 (.t 42) (.t 44)),
 rr 47 (.loadN 17 (.t 46)),
 nn 11 (.zbox [(.int .i64 0), (.int .u16 0), (.int .u32 0), (.str []), (.int .i64 0), (.int .i64 0), (.int .i64 0), (.int .i64 0), (.int .i64 0), (.int .i64 0), (.int .i64 0), (.int .i64 0), (.int .i64 0), (.int .i64 0), (.int .i64 0), (.int .i64 0), (.int .i64 0)]),
 ff (.storeN 17 (.t 11) (.t 47))])
 (.dreg [⟨0, mv 48 9, false, []⟩,
 ⟨1, rr 49 (.nilchk (.t 48)), false, []⟩,
 ⟨2, rr 50 (.fld 7 (.t 49)), false, []⟩,
 ⟨3, rr 51 (.load1 (.t 50)), false, []⟩,
 ⟨4, rr 52 (.loadN 17 (.t 11)), false, []⟩,
 ⟨5, cl 53 74 [.t 51, .t 52], true, [4, 3, 2, 1, 0]⟩])))
 (.reg [rr 54 (.arith .add (.t 44) (ci 1)),
 mv 44 54])))))))
 (.seq (.seq (.reg [mv 55 9,
 rr 56 (.nilchk (.t 55)),
 rr 57 (.fld 7 (.t 56)),
 rr 58 (.load1 (.t 57)),
 cl 59 33 [.t 58],
 rr 60 (.len 1 (.t 59)),
 rr 61 (.mov (ci 0))])
 (.block 2 (.loop [] (.seq (.reg [rr 62 (.cmp .lss (.t 61) (.t 60))])
 (.seq (.cond (.t 62) (.skip)
 (.exit 2))
 (.seq (.block 3 (.seq (.reg [rr 63 (.idxS 11 (.t 59) (.t 61)),
 rr 64 (.loadN 11 (.t 63)),
 nn 13 (.zbox [(.int .u16 0), (.int .u32 0), (.str []), (.int .i64 0), (.int .i64 0), (.int .i64 0), (.int .i64 0), (.int .i64 0), (.int .i64 0), (.int .i64 0), (.int .i64 0)]),
 ff (.storeN 11 (.t 13) (.t 64))])
 (.seq (.reg [rr 65 (.fld 4 (.t 13)),
 rr 66 (.load1 (.t 65))])
 (.block 4 (.seq (.seq (.reg [rr 68 (.cmp .eql (.t 66) (ci 1)),
 mv 67 68])
 (.cond (.t 67) (.skip)
 (.reg [rr 69 (.cmp .eql (.t 66) (ci 2)),
 mv 67 69])))
 (.cond (.t 67) (.reg [mv 70 9,
 rr 71 (.loadN 11 (.t 13)),
 cl 72 75 [.t 70, .t 71]])
 (.seq (.reg [rr 74 (.cmp .eql (.t 66) (ci 4)),
 mv 73 74])
 (.cond (.t 73) (.dreg [⟨0, mv 75 9, false, []⟩,
 ⟨1, rr 76 (.nilchk (.t 75)), false, []⟩,
 ⟨2, rr 77 (.fld 8 (.t 76)), false, []⟩,
 ⟨3, rr 78 (.load1 (.t 77)), false, []⟩,
 ⟨4, rr 79 (.fld 0 (.t 13)), false, []⟩,
 ⟨5, rr 80 (.loadN 2 (.t 79)), false, []⟩,
 ⟨6, rr 81 (.fld 9 (.t 13)), false, []⟩,
 ⟨7, rr 82 (.load1 (.t 81)), false, []⟩,
 ⟨8, cl 83 76 [.t 78, .t 80, .t 82], true, [7, 6, 5, 4, 3, 2, 1, 0]⟩])
 (.skip)))))))))
 (.reg [rr 84 (.arith .add (.t 61) (ci 1)),
 mv 61 84])))))))
 (.seq (.reg [mv 85 9,
 cl 86 77 [.t 85]])
 (.seq (.reg [mv 87 9,
 cl 88 47 [.t 87]])
 (.seq (.reg [mv 89 9,
 mv 4 89,
 rr 5 (.mov (ci 0))])
 (.ret)))))))))))⟩
/-- guichet/guichetlaw27.count -/
def b36 : AFunc := ⟨25, [.tmp 6],
 .seq (.reg [rr 6 (.mov (ci 0))])
 (.seq (.reg [rr 7 (.mov (ci 0))])
 (.seq (.seq (.reg [rr 8 (.mov (ci 0))])
 (.block 0 (.loop [] (.seq (.seq (.reg [mv 9 8,
 mv 10 0,
 rr 11 (.len 1 (.t 10)),
 rr 12 (.cmp .lss (.t 9) (.t 11))])
 (.cond (.t 12) (.skip)
 (.exit 0)))
 (.seq (.block 1 (.seq (.reg [mv 15 0,
 mv 16 8,
 rr 17 (.idxS 2 (.t 15) (.t 16)),
 rr 18 (.loadN 2 (.t 17)),
 mv 19 1,
 mv 20 2,
 cl 21 23 [.t 18, .t 19, .t 20]])
 (.cond (.t 21) (.reg [mv 22 7,
 rr 23 (.arith .add (.t 22) (ci 1)),
 mv 7 23])
 (.skip))))
 (.reg [mv 13 8,
 rr 14 (.arith .add (.t 13) (ci 1)),
 mv 8 14]))))))
 (.seq (.reg [mv 24 7,
 mv 6 24])
 (.ret))))⟩
/-- (*guichet/core.Switch).Tick -/
def b38 : AFunc := ⟨65, [],
 .seq (.seq (.reg [mv 4 0,
 rr 5 (.nilchk (.t 4)),
 rr 6 (.fld 12 (.t 5)),
 rr 7 (.load1 (.t 6))])
 (.cond (.t 7) (.ret)
 (.skip)))
 (.seq (.reg [mv 8 0,
 rr 9 (.nilchk (.t 8)),
 rr 10 (.fld 9 (.t 9)),
 rr 11 (.load1 (.t 10)),
 rr 12 (.arith .add (.t 11) (ci 1)),
 rr 13 (.nilchk (.t 8)),
 rr 14 (.fld 9 (.t 13)),
 ff (.store1 (.t 14) (.t 12))])
 (.seq (.reg [mv 15 0,
 rr 16 (.nilchk (.t 15)),
 rr 17 (.fld 8 (.t 16)),
 rr 18 (.load1 (.t 17)),
 cl 19 78 [.t 18]])
 (.seq (.seq (.reg [mv 20 0,
 rr 21 (.nilchk (.t 20)),
 rr 22 (.fld 7 (.t 21)),
 rr 23 (.load1 (.t 22)),
 cl 24 33 [.t 23],
 rr 25 (.len 1 (.t 24)),
 rr 26 (.mov (ci 0))])
 (.block 0 (.loop [] (.seq (.reg [rr 27 (.cmp .lss (.t 26) (.t 25))])
 (.seq (.cond (.t 27) (.skip)
 (.exit 0))
 (.seq (.block 1 (.seq (.reg [rr 28 (.idxS 11 (.t 24) (.t 26)),
 rr 29 (.loadN 11 (.t 28)),
 nn 3 (.zbox [(.int .u16 0), (.int .u32 0), (.str []), (.int .i64 0), (.int .i64 0), (.int .i64 0), (.int .i64 0), (.int .i64 0), (.int .i64 0), (.int .i64 0), (.int .i64 0)]),
 ff (.storeN 11 (.t 3) (.t 29))])
 (.seq (.seq (.reg [rr 30 (.fld 4 (.t 3)),
 rr 31 (.load1 (.t 30)),
 rr 32 (.cmp .neq (.t 31) (ci 1))])
 (.cond (.t 32) (.exit 1)
 (.skip)))
 (.seq (.dreg [⟨0, mv 33 0, false, []⟩,
 ⟨1, rr 34 (.nilchk (.t 33)), false, []⟩,
 ⟨2, rr 35 (.fld 10 (.t 34)), false, []⟩,
 ⟨3, rr 36 (.load1 (.t 35)), false, []⟩,
 ⟨4, rr 37 (.fld 0 (.t 3)), false, []⟩,
 ⟨5, rr 38 (.loadN 2 (.t 37)), false, []⟩,
 ⟨6, rr 39 (.look .key (.int .i64) false (.t 36) (.t 38)), false, []⟩,
 ⟨7, rr 40 (.arith .add (.t 39) (ci 1)), false, []⟩,
 ⟨8, ee 41 (.never), true, [5, 4, 3, 2, 1, 0]⟩,
 ⟨9, rr 42 (.ext (.t 41) 1), false, []⟩,
 ⟨10, ff (.never), true, [9, 8, 7, 6, 5, 4, 3, 2, 1, 0]⟩])
 (.seq (.dreg [⟨0, mv 43 0, false, []⟩,
 ⟨1, rr 44 (.nilchk (.t 43)), false, []⟩,
 ⟨2, rr 45 (.fld 10 (.t 44)), false, []⟩,
 ⟨3, rr 46 (.load1 (.t 45)), false, []⟩,
 ⟨4, rr 47 (.fld 0 (.t 3)), false, []⟩,
 ⟨5, rr 48 (.loadN 2 (.t 47)), false, []⟩,
 ⟨6, rr 49 (.look .key (.int .i64) false (.t 46) (.t 48)), false, []⟩,
 ⟨7, rr 50 (.cmp .geq (.t 49) (ci 10)), false, []⟩])
 (.cond (.t 50) (.reg [mv 51 0,
 rr 52 (.loadN 11 (.t 3)),
 cl 53 75 [.t 51, .t 52]])
 (.skip)))))))
 (.reg [rr 54 (.arith .add (.t 26) (ci 1)),
 mv 26 54])))))))
 (.seq (.seq (.reg [mv 55 0,
 rr 56 (.nilchk (.t 55)),
 rr 57 (.fld 9 (.t 56)),
 rr 58 (.load1 (.t 57)),
 rr 59 (.arith .rem (.t 58) (ci 4)),
 rr 60 (.cmp .eql (.t 59) (ci 0))])
 (.cond (.t 60) (.reg [mv 61 0,
 cl 62 77 [.t 61]])
 (.skip)))
 (.reg [mv 63 0,
 cl 64 47 [.t 63]])))))⟩
/-- guichet/guichetref12.Read -/
def b40 : AFunc := ⟨45, [.cellN 2 26, .tmp 3],
 .seq (.reg [nn 2 (.zbox [(.int .i64 0), (.int .u16 0), (.int .u32 0), (.str []), (.int .i64 0), (.int .i64 0), (.int .i64 0), (.int .i64 0), (.int .i64 0), (.int .i64 0), (.int .i64 0), (.int .i64 0), (.int .i64 0), (.int .i64 0), (.int .i64 0), (.int .i64 0), (.int .i64 0), (.int .i64 0), (.int .i64 0), (.int .i64 0), (.int .i64 0), (.int .i64 0), (.int .i64 0), (.int .i64 0), (.int .i64 0), (.int .i64 0)]),
 rr 3 (.mov (ci 0))])
 (.seq (.reg [mv 11 0,
 cl 12 80 [.t 11],
 mv 4 12])
 (.seq (.seq (.reg [rr 5 (.mov (ci 1))])
 (.block 0 (.loop [] (.seq (.seq (.reg [mv 13 5,
 rr 14 (.cmp .lss (.t 13) (ci 8))])
 (.cond (.t 14) (.skip)
 (.exit 0)))
 (.seq (.block 1 (.seq (.reg [mv 18 5,
 cl 19 81 [.t 18],
 mv 17 19,
 rr 20 (.ext (.t 17) 0),
 rr 21 (.ext (.t 17) 1),
 rr 22 (.ext (.t 17) 2),
 mv 6 20,
 mv 7 21,
 mv 8 22])
 (.seq (.seq (.reg [mv 23 4,
 rr 24 (.idxS 1 (.t 23) (ci 0)),
 rr 25 (.load1 (.t 24)),
 mv 26 6,
 rr 27 (.eq1 (.s) true (.t 25) (.t 26))])
 (.cond (.t 27) (.exit 1)
 (.skip)))
 (.seq (.reg [mv 29 5,
 mv 30 7,
 mv 31 4,
 rr 32 (.slcS 1 (.t 31) (some (ci 1)) none none),
 cl 33 82 [.t 29, .t 30, .t 32],
 mv 28 33,
 rr 34 (.ext (.t 28) 0),
 rr 35 (.ext (.t 28) 1),
 nn 9 (.zbox [(.int .i64 0), (.int .u16 0), (.int .u32 0), (.str []), (.int .i64 0), (.int .i64 0), (.int .i64 0), (.int .i64 0), (.int .i64 0), (.int .i64 0), (.int .i64 0), (.int .i64 0), (.int .i64 0), (.int .i64 0), (.int .i64 0), (.int .i64 0), (.int .i64 0), (.int .i64 0), (.int .i64 0), (.int .i64 0), (.int .i64 0), (.int .i64 0), (.int .i64 0), (.int .i64 0), (.int .i64 0), (.int .i64 0)]),
 ff (.storeN 26 (.t 9) (.t 34)),
 mv 10 35])
 (.seq (.seq (.reg [mv 36 10,
 rr 37 (.not (.t 36)),
 mv 38 37,
 gr 39 (.loadN 26 (.t 9)) 38 false,
 ⟨(some 40), .e (.call (.c (.fn (.func 83) [] [])) [.t 39]), (some (38, false))⟩,
 gr 41 (.not (.t 40)) 38 false,
 rr 42 (.pick (.t 38) (.c (.bool true)) (.t 41))])
 (.cond (.t 42) (.exit 0)
 (.skip)))
 (.seq (.reg [rr 43 (.loadN 26 (.t 9)),
 ff (.storeN 26 (.t 2) (.t 43)),
 rr 3 (.mov (ci 0))])
 (.ret)))))))
 (.reg [mv 15 5,
 rr 16 (.arith .add (.t 15) (ci 1)),
 mv 5 16]))))))
 (.seq (.reg [rr 44 (.build [(.int .i64 0), (.int .u16 0), (.int .u32 0), (.str []), (.int .i64 0), (.int .i64 0), (.int .i64 0), (.int .i64 0), (.int .i64 0), (.int .i64 0), (.int .i64 0), (.int .i64 0), (.int .i64 0), (.int .i64 0), (.int .i64 0), (.int .i64 0), (.int .i64 0), (.int .i64 0), (.int .i64 0), (.int .i64 0), (.int .i64 0), (.int .i64 0), (.int .i64 0), (.int .i64 0), (.int .i64 0), (.int .i64 0)] []),
 ff (.storeN 26 (.t 2) (.t 44)),
 rr 3 (.mov (ci 23))])
 (.ret))))⟩
/-- (*guichet/core.Switch).Down -/
def b42 : AFunc := ⟨7, [.tmp 2],
 .seq (.reg [rr 2 (.mov (.c (.bool false)))])
 (.seq (.reg [mv 3 0,
 rr 4 (.nilchk (.t 3)),
 rr 5 (.fld 12 (.t 4)),
 rr 6 (.load1 (.t 5)),
 mv 2 6])
 (.ret))⟩
/-- guichet/guichetseat.Cass -/
def b43 : AFunc := ⟨37, [.cellN 2 16],
 .seq (.reg [nn 2 (.zbox [(.int .i64 0), (.int .i64 0), (.int .i64 0), (.int .i64 0), (.int .i64 0), (.int .i64 0), (.int .i64 0), (.int .i64 0), (.int .i64 0), (.int .i64 0), (.int .i64 0), (.int .i64 0), (.int .i64 0), (.int .i64 0), (.int .i64 0), (.int .i64 0)])])
 (.seq (.reg [rr 6 (.build [(.int .i64 0), (.int .i64 0), (.int .i64 0), (.int .i64 0)] [(0, (1, (ci 1000))), (1, (1, (ci 2000))), (2, (1, (ci 5000))), (3, (1, (ci 10000)))]),
 rr 7 (.build [(.int .i64 0), (.int .i64 0), (.int .i64 0), (.int .i64 0)] [(0, (1, (ci 2000))), (1, (1, (ci 5000))), (2, (1, (ci 0))), (3, (1, (ci 0)))]),
 rr 8 (.build [(.int .i64 0), (.int .i64 0), (.int .i64 0), (.int .i64 0)] [(0, (1, (ci 500))), (1, (1, (ci 500))), (2, (1, (ci 700))), (3, (1, (ci 1100)))]),
 rr 9 (.build [(.int .i64 0), (.int .i64 0), (.int .i64 0), (.int .i64 0)] [(0, (1, (ci 300))), (1, (1, (ci 1000))), (2, (1, (ci 1000))), (3, (1, (ci 2500)))]),
 nn 10 (.bslice (some .notes) 4 4 [.t 6, .t 7, .t 8, .t 9]),
 mv 11 0,
 rr 12 (.arith .rem (.t 11) (.c (.int .u8 4))),
 rr 13 (.idxS 4 (.t 10) (.t 12)),
 rr 14 (.loadN 4 (.t 13)),
 nn 3 (.zbox [(.int .i64 0), (.int .i64 0), (.int .i64 0), (.int .i64 0)]),
 ff (.storeN 4 (.t 3) (.t 14))])
 (.seq (.reg [nn 4 (.zbox [(.int .i64 0), (.int .i64 0), (.int .i64 0), (.int .i64 0), (.int .i64 0), (.int .i64 0), (.int .i64 0), (.int .i64 0), (.int .i64 0), (.int .i64 0), (.int .i64 0), (.int .i64 0), (.int .i64 0), (.int .i64 0), (.int .i64 0), (.int .i64 0)])])
 (.seq (.seq (.reg [rr 5 (.mov (ci 0))])
 (.block 0 (.loop [] (.seq (.seq (.reg [mv 15 5,
 rr 16 (.cmp .lss (.t 15) (ci 4))])
 (.cond (.t 16) (.skip)
 (.exit 0)))
 (.seq (.block 1 (.dreg [⟨0, mv 19 5, false, []⟩,
 ⟨1, mv 20 5, false, []⟩,
 ⟨2, rr 21 (.idxA 4 1 (.t 3) (.t 20)), false, []⟩,
 ⟨3, rr 22 (.load1 (.t 21)), false, []⟩,
 ⟨4, rr 23 (.minmax true (.t 22) (ci 1)), false, []⟩,
 ⟨5, nn 24 (.bslice (some (.int .i64)) 1 8 [(ci 0), (ci 1), (ci 2), (ci 5), (ci 9), (ci 30), (ci 100), (ci 10000)]), false, []⟩,
 ⟨6, mv 25 0, false, []⟩,
 ⟨7, rr 26 (.arith .quo (.t 25) (.c (.int .u8 4))), false, []⟩,
 ⟨8, rr 27 (.toInt .i64 (.t 26)), false, []⟩,
 ⟨9, mv 28 5, false, []⟩,
 ⟨10, rr 29 (.arith .mul (ci 3) (.t 28)), false, []⟩,
 ⟨11, rr 30 (.arith .add (.t 27) (.t 29)), false, []⟩,
 ⟨12, rr 31 (.arith .rem (.t 30) (ci 8)), false, []⟩,
 ⟨13, rr 32 (.idxS 1 (.t 24) (.t 31)), false, []⟩,
 ⟨14, rr 33 (.load1 (.t 32)), false, []⟩,
 ⟨15, rr 34 (.build [(.int .i64 0), (.int .i64 0), (.int .i64 0), (.int .i64 0)] [(0, (1, (.t 23))), (1, (1, (.t 33)))]), false, []⟩,
 ⟨16, rr 35 (.idxA 4 4 (.t 4) (.t 19)), false, []⟩,
 ⟨17, ff (.storeN 4 (.t 35) (.t 34)), true, [16, 15, 14, 13, 12, 11, 10, 9, 8, 7, 6, 5, 4, 3, 2, 1, 0]⟩]))
 (.reg [mv 17 5,
 rr 18 (.arith .add (.t 17) (ci 1)),
 mv 5 18]))))))
 (.seq (.reg [rr 36 (.loadN 16 (.t 4)),
 ff (.storeN 16 (.t 2) (.t 36))])
 (.ret)))))⟩
/-- guichet/disk.New -/
def b44 : AFunc := ⟨13, [.tmp 2],
 .seq (.reg [rr 2 (.mov (.c (.ptr none)))])
 (.seq (.reg [mv 4 0,
 rr 5 (.minmax true (.t 4) (ci 0)),
 rr 6 (.minmax false (.t 5) (ci 4096)),
 mv 3 6])
 (.seq (.dreg [⟨0, mv 7 3, false, []⟩,
 ⟨1, nn 8 (.mkslice .sector (.t 7)), false, []⟩,
 ⟨2, mv 9 3, false, []⟩,
 ⟨3, nn 10 (.mkslice .sector (.t 9)), false, []⟩,
 ⟨4, rr 11 (.build [(.slice none (.n 0) (.exact 0)), (.slice none (.n 0) (.exact 0)), (.slice none (.n 0) (.exact 0)), (.int .i64 0), (.bool false)] [(0, (1, (.t 8))), (1, (1, (.t 10))), (3, (1, (ci (-1))))]), false, []⟩,
 ⟨5, nn 12 (.box (.t 11)), false, []⟩,
 ⟨6, mv 2 12, false, []⟩])
 (.ret)))⟩
/-- guichet/ndc.Read -/
def b45 : AFunc := ⟨100, [.cellN 2 26, .tmp 3],
 .seq (.reg [nn 2 (.zbox [(.int .i64 0), (.int .u16 0), (.int .u32 0), (.str []), (.int .i64 0), (.int .i64 0), (.int .i64 0), (.int .i64 0), (.int .i64 0), (.int .i64 0), (.int .i64 0), (.int .i64 0), (.int .i64 0), (.int .i64 0), (.int .i64 0), (.int .i64 0), (.int .i64 0), (.int .i64 0), (.int .i64 0), (.int .i64 0), (.int .i64 0), (.int .i64 0), (.int .i64 0), (.int .i64 0), (.int .i64 0), (.int .i64 0)]),
 rr 3 (.mov (ci 0))])
 (.seq (.reg [mv 8 0,
 cl 9 85 [.t 8],
 rr 10 (.build [(.slice none (.n 0) (.exact 0)), (.bool false)] [(0, (1, (.t 9)))]),
 nn 11 (.box (.t 10)),
 mv 4 11])
 (.seq (.reg [mv 12 4,
 cl 13 86 [.t 12],
 mv 5 13])
 (.seq (.reg [mv 14 4,
 cl 15 87 [.t 14, (ci 65535)],
 rr 16 (.toInt .u16 (.t 15)),
 rr 17 (.build [(.int .i64 0), (.int .u16 0), (.int .u32 0), (.str []), (.int .i64 0), (.int .i64 0), (.int .i64 0), (.int .i64 0), (.int .i64 0), (.int .i64 0), (.int .i64 0), (.int .i64 0), (.int .i64 0), (.int .i64 0), (.int .i64 0), (.int .i64 0), (.int .i64 0), (.int .i64 0), (.int .i64 0), (.int .i64 0), (.int .i64 0), (.int .i64 0), (.int .i64 0), (.int .i64 0), (.int .i64 0), (.int .i64 0)] [(1, (1, (.t 16)))]),
 nn 6 (.zbox [(.int .i64 0), (.int .u16 0), (.int .u32 0), (.str []), (.int .i64 0), (.int .i64 0), (.int .i64 0), (.int .i64 0), (.int .i64 0), (.int .i64 0), (.int .i64 0), (.int .i64 0), (.int .i64 0), (.int .i64 0), (.int .i64 0), (.int .i64 0), (.int .i64 0), (.int .i64 0), (.int .i64 0), (.int .i64 0), (.int .i64 0), (.int .i64 0), (.int .i64 0), (.int .i64 0), (.int .i64 0), (.int .i64 0)]),
 ff (.storeN 26 (.t 6) (.t 17))])
 (.seq (.seq (.reg [rr 18 (.mov (ci 0))])
 (.block 0 (.loop [] (.seq (.reg [rr 19 (.cmp .lss (.t 18) (ci 8))])
 (.seq (.cond (.t 19) (.skip)
 (.exit 0))
 (.seq (.block 1 (.seq (.reg [mv 20 18,
 mv 7 20])
 (.seq (.reg [mv 21 7,
 cl 22 88 [.t 21],
 mv 23 5,
 rr 24 (.eq1 (.s) false (.t 22) (.t 23))])
 (.cond (.t 24) (.reg [mv 25 7,
 rr 26 (.fld 0 (.t 6)),
 ff (.store1 (.t 26) (.t 25))])
 (.skip)))))
 (.reg [rr 27 (.arith .add (.t 18) (ci 1)),
 mv 18 27])))))))
 (.seq (.seq (.reg [rr 28 (.fld 0 (.t 6)),
 rr 29 (.load1 (.t 28)),
 rr 30 (.cmp .neq (.t 29) (ci 3))])
 (.cond (.t 30) (.reg [mv 31 4,
 cl 32 87 [.t 31, (ci 999999)],
 rr 33 (.toInt .u32 (.t 32)),
 rr 34 (.fld 2 (.t 6)),
 ff (.store1 (.t 34) (.t 33))])
 (.skip)))
 (.seq (.seq (.reg [rr 35 (.fld 0 (.t 6)),
 rr 36 (.load1 (.t 35))])
 (.block 2 (.seq (.reg [rr 38 (.cmp .eql (.t 36) (ci 1)),
 mv 37 38])
 (.cond (.t 37) (.reg [mv 39 4,
 cl 40 86 [.t 39],
 mv 41 4,
 cl 42 87 [.t 41, (ci 1000000)],
 rr 43 (.fld 3 (.t 6)),
 ff (.store1 (.t 43) (.t 40)),
 rr 44 (.fld 4 (.t 6)),
 ff (.store1 (.t 44) (.t 42))])
 (.seq (.reg [rr 46 (.cmp .eql (.t 36) (ci 2)),
 mv 45 46])
 (.cond (.t 45) (.reg [mv 47 4,
 cl 48 89 [.t 47],
 mv 49 4,
 cl 50 89 [.t 49],
 rr 51 (.fld 5 (.t 6)),
 ff (.storeN 4 (.t 51) (.t 48)),
 rr 52 (.fld 9 (.t 6)),
 ff (.storeN 4 (.t 52) (.t 50))])
 (.seq (.reg [rr 54 (.cmp .eql (.t 36) (ci 4)),
 mv 53 54])
 (.cond (.t 53) (.seq (.reg [mv 55 4,
 cl 56 89 [.t 55],
 mv 57 4,
 cl 58 89 [.t 57],
 mv 59 4,
 cl 60 89 [.t 59],
 mv 61 4,
 cl 62 89 [.t 61],
 rr 63 (.fld 5 (.t 6)),
 ff (.storeN 4 (.t 63) (.t 56)),
 rr 64 (.fld 9 (.t 6)),
 ff (.storeN 4 (.t 64) (.t 58)),
 rr 65 (.fld 13 (.t 6)),
 ff (.storeN 4 (.t 65) (.t 60)),
 rr 66 (.fld 17 (.t 6)),
 ff (.storeN 4 (.t 66) (.t 62))])
 (.reg [mv 67 4,
 cl 68 87 [.t 67, (ci 2147483647)],
 mv 69 4,
 cl 70 89 [.t 69],
 rr 71 (.fld 21 (.t 6)),
 ff (.store1 (.t 71) (.t 68)),
 rr 72 (.fld 22 (.t 6)),
 ff (.storeN 4 (.t 72) (.t 70))]))
 (.seq (.reg [rr 74 (.cmp .eql (.t 36) (ci 5)),
 mv 73 74])
 (.cond (.t 73) (.reg [mv 75 4,
 cl 76 87 [.t 75, (ci 1000000)],
 mv 77 4,
 cl 78 89 [.t 77],
 rr 79 (.fld 4 (.t 6)),
 ff (.store1 (.t 79) (.t 76)),
 rr 80 (.fld 5 (.t 6)),
 ff (.storeN 4 (.t 80) (.t 78))])
 (.skip)))))))))))
 (.seq (.seq (.reg [mv 81 4,
 rr 82 (.nilchk (.t 81)),
 rr 83 (.fld 1 (.t 82)),
 rr 84 (.load1 (.t 83)),
 mv 85 84,
 gr 86 (.mov (.t 4)) 85 false,
 gr 87 (.nilchk (.t 86)) 85 false,
 gr 88 (.fld 0 (.t 87)) 85 false,
 gr 89 (.load1 (.t 88)) 85 false,
 gr 90 (.len 1 (.t 89)) 85 false,
 gr 91 (.cmp .gtr (.t 90) (ci 0)) 85 false,
 rr 92 (.pick (.t 85) (.c (.bool true)) (.t 91)),
 mv 93 92,
 gr 94 (.loadN 26 (.t 6)) 93 false,
 ⟨(some 95), .e (.call (.c (.fn (.func 90) [] [])) [.t 94]), (some (93, false))⟩,
 gr 96 (.not (.t 95)) 93 false,
 rr 97 (.pick (.t 93) (.c (.bool true)) (.t 96))])
 (.cond (.t 97) (.seq (.reg [rr 98 (.build [(.int .i64 0), (.int .u16 0), (.int .u32 0), (.str []), (.int .i64 0), (.int .i64 0), (.int .i64 0), (.int .i64 0), (.int .i64 0), (.int .i64 0), (.int .i64 0), (.int .i64 0), (.int .i64 0), (.int .i64 0), (.int .i64 0), (.int .i64 0), (.int .i64 0), (.int .i64 0), (.int .i64 0), (.int .i64 0), (.int .i64 0), (.int .i64 0), (.int .i64 0), (.int .i64 0), (.int .i64 0), (.int .i64 0)] []),
 ff (.storeN 26 (.t 2) (.t 98)),
 rr 3 (.mov (ci 23))])
 (.ret))
 (.skip)))
 (.seq (.reg [rr 99 (.loadN 26 (.t 6)),
 ff (.storeN 26 (.t 2) (.t 99)),
 rr 3 (.mov (ci 0))])
 (.ret)))))))))⟩
/-- (*guichet/core.Switch).message -/
def b46 : AFunc := ⟨28, [.tmp 4],
 .seq (.reg [nn 3 (.box (.t 1)),
 rr 4 (.mov (.c (.bool false)))])
 (.seq (.seq (.reg [rr 5 (.fld 0 (.t 3)),
 rr 6 (.load1 (.t 5))])
 (.block 0 (.seq (.reg [rr 8 (.cmp .eql (.t 6) (ci 1)),
 mv 7 8])
 (.cond (.t 7) (.seq (.reg [mv 9 0,
 rr 10 (.loadN 26 (.t 3)),
 cl 11 91 [.t 9, .t 10],
 mv 4 11])
 (.ret))
 (.seq (.reg [rr 13 (.cmp .eql (.t 6) (ci 2)),
 mv 12 13])
 (.cond (.t 12) (.seq (.reg [mv 14 0,
 rr 15 (.loadN 26 (.t 3)),
 cl 16 92 [.t 14, .t 15],
 mv 4 16])
 (.ret))
 (.seq (.reg [rr 18 (.cmp .eql (.t 6) (ci 4)),
 mv 17 18])
 (.cond (.t 17) (.seq (.reg [mv 19 0,
 rr 20 (.loadN 26 (.t 3)),
 cl 21 93 [.t 19, .t 20]])
 (.seq (.reg [rr 4 (.mov (.c (.bool true)))])
 (.ret)))
 (.seq (.reg [rr 23 (.cmp .eql (.t 6) (ci 3)),
 mv 22 23])
 (.cond (.t 22) (.seq (.reg [mv 24 0,
 rr 25 (.fld 1 (.t 3)),
 rr 26 (.load1 (.t 25)),
 cl 27 94 [.t 24, .t 26]])
 (.seq (.reg [rr 4 (.mov (.c (.bool true)))])
 (.ret)))
 (.skip)))))))))))
 (.seq (.reg [rr 4 (.mov (.c (.bool false)))])
 (.ret)))⟩
/-- (*guichet/core.Switch).reverse -/
def b47 : AFunc := ⟨46, [],
 .seq (.reg [mv 8 0,
 rr 9 (.nilchk (.t 8)),
 rr 10 (.fld 8 (.t 9)),
 rr 11 (.load1 (.t 10)),
 cl 12 95 [.t 11],
 rr 13 (.len 1 (.t 12)),
 rr 14 (.mov (ci 0))])
 (.block 0 (.loop [] (.seq (.reg [rr 15 (.cmp .lss (.t 14) (.t 13))])
 (.seq (.cond (.t 15) (.skip)
 (.exit 0))
 (.seq (.block 1 (.seq (.reg [rr 16 (.idxS 3 (.t 12) (.t 14)),
 rr 17 (.loadN 3 (.t 16)),
 nn 3 (.zbox [(.int .u16 0), (.int .u32 0), (.int .i64 0)]),
 ff (.storeN 3 (.t 3) (.t 17))])
 (.seq (.dreg [⟨0, mv 19 0, false, []⟩,
 ⟨1, rr 20 (.nilchk (.t 19)), false, []⟩,
 ⟨2, rr 21 (.fld 7 (.t 20)), false, []⟩,
 ⟨3, rr 22 (.load1 (.t 21)), false, []⟩,
 ⟨4, rr 23 (.fld 0 (.t 3)), false, []⟩,
 ⟨5, rr 24 (.loadN 2 (.t 23)), false, []⟩,
 ⟨10, nn 4 (.zbox [(.int .u16 0), (.int .u32 0), (.str []), (.int .i64 0), (.int .i64 0), (.int .i64 0), (.int .i64 0), (.int .i64 0), (.int .i64 0), (.int .i64 0), (.int .i64 0)]), false, []⟩,
 ⟨6, cl 25 27 [.t 22, .t 24], true, [5, 4, 3, 2, 1, 0]⟩,
 ⟨7, mv 18 25, false, []⟩,
 ⟨8, rr 26 (.ext (.t 18) 0), false, []⟩,
 ⟨9, rr 27 (.ext (.t 18) 1), false, []⟩,
 ⟨11, ff (.storeN 11 (.t 4) (.t 26)), true, [10, 8, 7, 6, 5, 4, 3, 2, 1, 0]⟩,
 ⟨12, mv 5 27, false, []⟩])
 (.seq (.reg [rr 29 (.fld 0 (.t 3)),
 rr 30 (.loadN 2 (.t 29)),
 rr 31 (.fld 2 (.t 4)),
 rr 32 (.load1 (.t 31)),
 rr 33 (.fld 3 (.t 4)),
 rr 34 (.load1 (.t 33)),
 rr 35 (.fld 9 (.t 4)),
 rr 36 (.load1 (.t 35)),
 cl 37 96 [.t 30, .t 32, .t 34, .t 36],
 mv 28 37,
 rr 38 (.ext (.t 28) 0),
 rr 39 (.ext (.t 28) 1),
 mv 6 38,
 mv 7 39])
 (.seq (.reg [mv 40 7,
 rr 41 (.cmp .eql (.t 40) (ci 0))])
 (.cond (.t 41) (.reg [mv 42 0,
 mv 43 6,
 cl 44 97 [.t 42, (ci (-1)), .t 43]])
 (.skip)))))))
 (.reg [rr 45 (.arith .add (.t 14) (ci 1)),
 mv 14 45]))))))⟩
/-- guichet/guichetref12.Put -/
def b48 : AFunc := ⟨102, [.tmp 2, .tmp 3],
 .seq (.reg [nn 1 (.box (.t 0)),
 rr 2 (.mov (.c (.slice none (.n 0) (.exact 0)))),
 rr 3 (.mov (ci 0))])
 (.seq (.seq (.reg [rr 14 (.loadN 26 (.t 1)),
 cl 15 83 [.t 14],
 rr 16 (.not (.t 15))])
 (.cond (.t 16) (.seq (.reg [rr 2 (.mov (.c (.slice none (.n 0) (.exact 0)))),
 rr 3 (.mov (ci 27))])
 (.ret))
 (.skip)))
 (.seq (.reg [rr 18 (.fld 0 (.t 1)),
 rr 19 (.load1 (.t 18)),
 cl 20 81 [.t 19],
 mv 17 20,
 rr 21 (.ext (.t 17) 0),
 rr 22 (.ext (.t 17) 1),
 rr 23 (.ext (.t 17) 2),
 mv 4 21,
 mv 5 22,
 mv 6 23])
 (.seq (.reg [mv 24 4,
 nn 25 (.bslice (some .str) 1 1 [.t 24]),
 mv 7 25])
 (.seq (.seq (.reg [rr 8 (.mov (ci 0))])
 (.block 0 (.loop [] (.seq (.seq (.reg [mv 26 8,
 mv 27 5,
 rr 28 (.len 0 (.t 27)),
 rr 29 (.cmp .lss (.t 26) (.t 28))])
 (.cond (.t 29) (.skip)
 (.exit 0)))
 (.seq (.block 1 (.seq (.reg [mv 32 5,
 mv 33 8,
 rr 34 (.strAt (.t 32) (.t 33))])
 (.block 2 (.seq (.reg [rr 56 (.cmp .eql (.t 34) (.c (.int .u8 116))),
 mv 55 56])
 (.cond (.t 55) (.reg [mv 57 7,
 rr 58 (.fld 1 (.t 1)),
 rr 59 (.load1 (.t 58)),
 rr 60 (.toInt .i64 (.t 59)),
 cl 61 98 [.t 60],
 nn 62 (.bslice (some .str) 1 1 [.t 61]),
 ee 63 (.append .str (.t 57) (.t 62)),
 mv 7 63])
 (.seq (.reg [rr 65 (.cmp .eql (.t 34) (.c (.int .u8 115))),
 mv 64 65])
 (.cond (.t 64) (.reg [mv 66 7,
 rr 67 (.fld 2 (.t 1)),
 rr 68 (.load1 (.t 67)),
 rr 69 (.toInt .i64 (.t 68)),
 cl 70 98 [.t 69],
 nn 71 (.bslice (some .str) 1 1 [.t 70]),
 ee 72 (.append .str (.t 66) (.t 71)),
 mv 7 72])
 (.seq (.reg [rr 74 (.cmp .eql (.t 34) (.c (.int .u8 112))),
 mv 73 74])
 (.cond (.t 73) (.reg [mv 75 7,
 rr 76 (.fld 3 (.t 1)),
 rr 77 (.load1 (.t 76)),
 nn 78 (.bslice (some .str) 1 1 [.t 77]),
 ee 79 (.append .str (.t 75) (.t 78)),
 mv 7 79])
 (.seq (.reg [rr 81 (.cmp .eql (.t 34) (.c (.int .u8 97))),
 mv 80 81])
 (.cond (.t 80) (.reg [mv 82 7,
 rr 83 (.fld 4 (.t 1)),
 rr 84 (.load1 (.t 83)),
 cl 85 98 [.t 84],
 nn 86 (.bslice (some .str) 1 1 [.t 85]),
 ee 87 (.append .str (.t 82) (.t 86)),
 mv 7 87])
 (.seq (.reg [rr 89 (.cmp .eql (.t 34) (.c (.int .u8 108))),
 mv 88 89])
 (.cond (.t 88) (.reg [mv 90 7,
 rr 91 (.fld 21 (.t 1)),
 rr 92 (.load1 (.t 91)),
 cl 93 98 [.t 92],
 nn 94 (.bslice (some .str) 1 1 [.t 93]),
 ee 95 (.append .str (.t 90) (.t 94)),
 mv 7 95])
 (.seq (.reg [mv 36 5,
 mv 37 8,
 rr 38 (.strAt (.t 36) (.t 37)),
 cl 39 99 [.t 1, .t 38],
 mv 35 39,
 rr 40 (.ext (.t 35) 0),
 rr 41 (.ext (.t 35) 1),
 mv 9 40,
 mv 10 41])
 (.seq (.reg [rr 11 (.mov (ci 0))])
 (.block 3 (.loop [] (.seq (.seq (.reg [mv 42 11,
 rr 43 (.cmp .lss (.t 42) (ci 4))])
 (.cond (.t 43) (.skip)
 (.exit 3)))
 (.seq (.block 4 (.reg [mv 46 7,
 mv 47 9,
 mv 48 11,
 rr 49 (.nilchk (.t 47)),
 rr 50 (.idxA 4 1 (.t 49) (.t 48)),
 rr 51 (.load1 (.t 50)),
 cl 52 98 [.t 51],
 nn 53 (.bslice (some .str) 1 1 [.t 52]),
 ee 54 (.append .str (.t 46) (.t 53)),
 mv 7 54]))
 (.reg [mv 44 11,
 rr 45 (.arith .add (.t 44) (ci 1)),
 mv 11 45]))))))))))))))))))))
 (.reg [mv 30 8,
 rr 31 (.arith .add (.t 30) (ci 1)),
 mv 8 31]))))))
 (.seq (.reg [mv 97 7,
 cl 98 100 [.t 97],
 mv 96 98,
 rr 99 (.ext (.t 96) 0),
 rr 100 (.ext (.t 96) 1),
 mv 12 99,
 mv 13 100])
 (.seq (.reg [mv 101 12,
 mv 2 101,
 rr 3 (.mov (ci 0))])
 (.ret)))))))⟩
/-- (*guichet/book.Book).Clone -/
def b49 : AFunc := ⟨19, [.tmp 2],
 .seq (.reg [rr 2 (.mov (.c (.ptr none)))])
 (.seq (.dreg [⟨0, mv 3 0, false, []⟩,
 ⟨1, rr 4 (.nilchk (.t 3)), false, []⟩,
 ⟨2, rr 5 (.fld 0 (.t 4)), false, []⟩,
 ⟨3, rr 6 (.load1 (.t 5)), false, []⟩,
 ⟨4, mv 7 0, false, []⟩,
 ⟨5, rr 8 (.nilchk (.t 7)), false, []⟩,
 ⟨6, rr 9 (.fld 1 (.t 8)), false, []⟩,
 ⟨7, rr 10 (.load1 (.t 9)), false, []⟩,
 ⟨9, mv 12 0, false, []⟩,
 ⟨10, rr 13 (.nilchk (.t 12)), false, []⟩,
 ⟨11, rr 14 (.fld 2 (.t 13)), false, []⟩,
 ⟨12, rr 15 (.load1 (.t 14)), false, []⟩,
 ⟨8, cl 11 101 [.t 10], true, [7, 6, 5, 4]⟩,
 ⟨13, cl 16 102 [.t 15], true, [12, 11, 10, 9, 8, 7, 6, 5, 4]⟩,
 ⟨14, rr 17 (.build [(.slice none (.n 0) (.exact 0)), (.slice none (.n 0) (.exact 0)), (.map none)] [(0, (1, (.t 6))), (1, (1, (.t 11))), (2, (1, (.t 16)))]), false, []⟩,
 ⟨15, nn 18 (.box (.t 17)), false, []⟩,
 ⟨16, mv 2 18, false, []⟩])
 (.ret))⟩
/-- (*guichet/cassette.Set).All -/
def b50 : AFunc := ⟨7, [.cellN 2 16],
 .seq (.reg [nn 2 (.zbox [(.int .i64 0), (.int .i64 0), (.int .i64 0), (.int .i64 0), (.int .i64 0), (.int .i64 0), (.int .i64 0), (.int .i64 0), (.int .i64 0), (.int .i64 0), (.int .i64 0), (.int .i64 0), (.int .i64 0), (.int .i64 0), (.int .i64 0), (.int .i64 0)])])
 (.seq (.reg [mv 3 0,
 rr 4 (.nilchk (.t 3)),
 rr 5 (.fld 0 (.t 4)),
 rr 6 (.loadN 16 (.t 5)),
 ff (.storeN 16 (.t 2) (.t 6))])
 (.ret))⟩
/-- guichet/host.Heard -/
def b51 : AFunc := ⟨46, [.cellN 2 2, .tmp 3, .tmp 4, .tmp 5],
 .seq (.reg [nn 2 (.zbox [(.int .u16 0), (.int .u32 0)]),
 rr 3 (.mov (ci 0)),
 rr 4 (.mov (.c (.str []))),
 rr 5 (.mov (.c (.bool false)))])
 (.seq (.reg [mv 9 0,
 cl 10 103 [.t 9],
 mv 8 10,
 rr 11 (.ext (.t 8) 0),
 rr 12 (.ext (.t 8) 1),
 nn 6 (.zbox [(.int .i64 0), (.int .u16 0), (.int .u32 0), (.str []), (.int .i64 0), (.int .i64 0), (.str [])]),
 ff (.storeN 7 (.t 6) (.t 11)),
 mv 7 12])
 (.seq (.seq (.dreg [⟨0, mv 13 7, false, []⟩,
 ⟨1, rr 14 (.not (.t 13)), false, []⟩,
 ⟨2, mv 15 14, false, []⟩,
 ⟨3, gr 16 (.loadN 7 (.t 6)) 15 false, false, []⟩,
 ⟨6, gr 19 (.mov (.t 0)) 15 false, false, []⟩,
 ⟨7, gr 20 (.toStr (.t 19)) 15 false, false, []⟩,
 ⟨4, ⟨(some 17), .e (.call (.c (.fn (.func 104) [] [])) [.t 16]), (some (15, false))⟩, true, [3, 2, 1, 0]⟩,
 ⟨5, gr 18 (.toStr (.t 17)) 15 false, false, []⟩,
 ⟨8, gr 21 (.eq1 (.s) true (.t 18) (.t 20)) 15 false, false, []⟩,
 ⟨9, rr 22 (.pick (.t 15) (.c (.bool true)) (.t 21)), false, []⟩])
 (.cond (.t 22) (.seq (.reg [rr 23 (.build [(.int .u16 0), (.int .u32 0)] []),
 ff (.storeN 2 (.t 2) (.t 23)),
 rr 3 (.mov (ci 0)),
 rr 4 (.mov (.c (.str []))),
 rr 5 (.mov (.c (.bool false)))])
 (.ret))
 (.skip)))
 (.seq (.seq (.reg [rr 24 (.fld 0 (.t 6)),
 rr 25 (.load1 (.t 24))])
 (.block 0 (.seq (.seq (.reg [rr 27 (.cmp .eql (.t 25) (ci 210)),
 mv 26 27])
 (.cond (.t 26) (.skip)
 (.reg [rr 28 (.cmp .eql (.t 25) (ci 430)),
 mv 26 28])))
 (.cond (.t 26) (.seq (.dreg [⟨0, rr 29 (.fld 1 (.t 6)), false, []⟩,
 ⟨1, rr 30 (.loadN 2 (.t 29)), false, []⟩,
 ⟨2, rr 31 (.fld 0 (.t 6)), false, []⟩,
 ⟨3, rr 32 (.load1 (.t 31)), false, []⟩,
 ⟨4, rr 33 (.fld 6 (.t 6)), false, []⟩,
 ⟨5, rr 34 (.load1 (.t 33)), false, []⟩,
 ⟨6, ff (.storeN 2 (.t 2) (.t 30)), true, [1, 0]⟩,
 ⟨7, mv 3 32, false, []⟩,
 ⟨8, mv 4 34, false, []⟩,
 ⟨9, rr 5 (.mov (.c (.bool true))), false, []⟩])
 (.ret))
 (.seq (.reg [rr 36 (.cmp .eql (.t 25) (ci 810)),
 mv 35 36])
 (.cond (.t 35) (.seq (.dreg [⟨0, rr 37 (.fld 1 (.t 6)), false, []⟩,
 ⟨1, rr 38 (.fld 1 (.t 37)), false, []⟩,
 ⟨2, rr 39 (.load1 (.t 38)), false, []⟩,
 ⟨3, rr 40 (.build [(.int .u16 0), (.int .u32 0)] [(1, (1, (.t 39)))]), false, []⟩,
 ⟨4, rr 41 (.fld 0 (.t 6)), false, []⟩,
 ⟨5, rr 42 (.load1 (.t 41)), false, []⟩,
 ⟨6, rr 43 (.fld 6 (.t 6)), false, []⟩,
 ⟨7, rr 44 (.load1 (.t 43)), false, []⟩,
 ⟨8, ff (.storeN 2 (.t 2) (.t 40)), true, [3, 2, 1, 0]⟩,
 ⟨9, mv 3 42, false, []⟩,
 ⟨10, mv 4 44, false, []⟩,
 ⟨11, rr 5 (.mov (.c (.bool true))), false, []⟩])
 (.ret))
 (.skip)))))))
 (.seq (.reg [rr 45 (.build [(.int .u16 0), (.int .u32 0)] []),
 ff (.storeN 2 (.t 2) (.t 45)),
 rr 3 (.mov (ci 0)),
 rr 4 (.mov (.c (.str []))),
 rr 5 (.mov (.c (.bool false)))])
 (.ret)))))⟩
/-- (*guichet/core.Switch).answer -/
def b52 : AFunc := ⟨79, [.tmp 8],
 .seq (.reg [nn 5 (.box (.t 1)),
 rr 8 (.mov (.c (.bool false)))])
 (.seq (.dreg [⟨0, mv 12 0, false, []⟩,
 ⟨1, rr 13 (.nilchk (.t 12)), false, []⟩,
 ⟨2, rr 14 (.fld 7 (.t 13)), false, []⟩,
 ⟨3, rr 15 (.load1 (.t 14)), false, []⟩,
 ⟨4, rr 16 (.loadN 2 (.t 5)), false, []⟩,
 ⟨9, nn 9 (.zbox [(.int .u16 0), (.int .u32 0), (.str []), (.int .i64 0), (.int .i64 0), (.int .i64 0), (.int .i64 0), (.int .i64 0), (.int .i64 0), (.int .i64 0), (.int .i64 0)]), false, []⟩,
 ⟨5, cl 17 27 [.t 15, .t 16], true, [4, 3, 2, 1, 0]⟩,
 ⟨6, mv 11 17, false, []⟩,
 ⟨7, rr 18 (.ext (.t 11) 0), false, []⟩,
 ⟨8, rr 19 (.ext (.t 11) 1), false, []⟩,
 ⟨10, ff (.storeN 11 (.t 9) (.t 18)), true, [9, 7, 6, 5, 4, 3, 2, 1, 0]⟩,
 ⟨11, mv 10 19, false, []⟩])
 (.seq (.block 0 (.seq (.reg [mv 21 2,
 rr 22 (.cmp .eql (.t 21) (ci 210)),
 mv 23 22,
 gr 24 (.fld 4 (.t 9)) 23 true,
 gr 25 (.load1 (.t 24)) 23 true,
 gr 26 (.cmp .eql (.t 25) (ci 1)) 23 true,
 rr 27 (.pick (.t 23) (.t 26) (.c (.bool false))),
 mv 28 27,
 gr 29 (.mov (.t 3)) 28 true,
 gr 30 (.eq1 (.s) false (.t 29) (.c (.str [48, 48]))) 28 true,
 rr 31 (.pick (.t 28) (.t 30) (.c (.bool false))),
 mv 20 31])
 (.cond (.t 20) (.reg [mv 32 0,
 rr 33 (.loadN 11 (.t 9)),
 cl 34 105 [.t 32, .t 33]])
 (.seq (.reg [mv 36 2,
 rr 37 (.cmp .eql (.t 36) (ci 210)),
 mv 38 37,
 gr 39 (.fld 4 (.t 9)) 38 true,
 gr 40 (.load1 (.t 39)) 38 true,
 gr 41 (.cmp .eql (.t 40) (ci 1)) 38 true,
 rr 42 (.pick (.t 38) (.t 41) (.c (.bool false))),
 mv 35 42])
 (.cond (.t 35) (.seq (.reg [mv 43 0,
 rr 44 (.loadN 2 (.t 5)),
 cl 45 107 [(ci 3), .t 44],
 nn 46 (.bslice (some .rcd) 17 1 [.t 45]),
 cl 47 106 [.t 43, .t 46]])
 (.cond (.t 47) (.seq (.dreg [⟨0, mv 48 0, false, []⟩,
 ⟨1, rr 49 (.nilchk (.t 48)), false, []⟩,
 ⟨2, rr 50 (.fld 10 (.t 49)), false, []⟩,
 ⟨3, rr 51 (.load1 (.t 50)), false, []⟩,
 ⟨4, rr 52 (.loadN 2 (.t 5)), false, []⟩,
 ⟨5, ff (.del .key (.int .i64) (.t 51) (.t 52)), true, [4, 3, 2, 1, 0]⟩])
 (.reg [mv 53 0,
 rr 54 (.loadN 2 (.t 5)),
 cl 55 108 [.t 53, .t 54]]))
 (.skip)))
 (.seq (.reg [mv 57 2,
 rr 58 (.cmp .eql (.t 57) (ci 430)),
 mv 59 58,
 gr 60 (.fld 4 (.t 9)) 59 true,
 gr 61 (.load1 (.t 60)) 59 true,
 gr 62 (.cmp .eql (.t 61) (ci 4)) 59 true,
 rr 63 (.pick (.t 59) (.t 62) (.c (.bool false))),
 mv 64 63,
 gr 65 (.mov (.t 3)) 64 true,
 gr 66 (.eq1 (.s) false (.t 65) (.c (.str [48, 48]))) 64 true,
 rr 67 (.pick (.t 64) (.t 66) (.c (.bool false))),
 mv 56 67])
 (.cond (.t 56) (.seq (.reg [mv 68 0,
 rr 69 (.loadN 2 (.t 5)),
 cl 70 107 [(ci 7), .t 69],
 nn 71 (.bslice (some .rcd) 17 1 [.t 70]),
 cl 72 106 [.t 68, .t 71]])
 (.cond (.t 72) (.dreg [⟨0, mv 73 0, false, []⟩,
 ⟨1, rr 74 (.nilchk (.t 73)), false, []⟩,
 ⟨2, rr 75 (.fld 8 (.t 74)), false, []⟩,
 ⟨3, rr 76 (.load1 (.t 75)), false, []⟩,
 ⟨4, rr 77 (.loadN 2 (.t 5)), false, []⟩,
 ⟨5, cl 78 109 [.t 76, .t 77], true, [4, 3, 2, 1, 0]⟩])
 (.skip)))
 (.seq (.reg [rr 8 (.mov (.c (.bool false)))])
 (.ret)))))))))
 (.seq (.reg [rr 8 (.mov (.c (.bool true)))])
 (.ret))))⟩
/-- guichet/guichetref12.NewLedger -/
def b53 : AFunc := ⟨65, [.tmp 4],
 .seq (.reg [rr 4 (.mov (.c (.ptr none)))])
 (.seq (.reg [rr 8 (.build [(.slice none (.n 0) (.exact 0)), (.slice none (.n 0) (.exact 0)), (.slice none (.n 0) (.exact 0)), (.slice none (.n 0) (.exact 0)), (.slice none (.n 0) (.exact 0)), (.slice none (.n 0) (.exact 0))] []),
 nn 9 (.box (.t 8)),
 mv 5 9])
 (.seq (.seq (.reg [rr 6 (.mov (ci 0))])
 (.block 0 (.loop [] (.seq (.seq (.reg [mv 10 6,
 mv 11 0,
 rr 12 (.len 1 (.t 11)),
 rr 13 (.cmp .lss (.t 10) (.t 12)),
 mv 14 13,
 gr 15 (.mov (.t 5)) 14 true,
 gr 16 (.nilchk (.t 15)) 14 true,
 gr 17 (.fld 0 (.t 16)) 14 true,
 gr 18 (.load1 (.t 17)) 14 true,
 gr 19 (.len 1 (.t 18)) 14 true,
 gr 20 (.cmp .lss (.t 19) (ci 64)) 14 true,
 rr 21 (.pick (.t 14) (.t 20) (.c (.bool false)))])
 (.cond (.t 21) (.skip)
 (.exit 0)))
 (.seq (.block 1 (.seq (.seq (.reg [mv 24 5,
 mv 25 0,
 mv 26 6,
 rr 27 (.idxS 1 (.t 25) (.t 26)),
 rr 28 (.load1 (.t 27)),
 cl 29 110 [.t 24, .t 28],
 rr 30 (.cmp .geq (.t 29) (ci 0))])
 (.cond (.t 30) (.exit 1)
 (.skip)))
 (.seq (.reg [rr 7 (.mov (ci 0))])
 (.seq (.seq (.reg [mv 31 6,
 mv 32 1,
 rr 33 (.len 1 (.t 32)),
 rr 34 (.cmp .lss (.t 31) (.t 33))])
 (.cond (.t 34) (.reg [mv 35 1,
 mv 36 6,
 rr 37 (.idxS 1 (.t 35) (.t 36)),
 rr 38 (.load1 (.t 37)),
 rr 39 (.minmax true (.t 38) (ci 0)),
 rr 40 (.minmax false (.t 39) (ci 1000000000000)),
 mv 7 40])
 (.skip)))
 (.dreg [⟨0, mv 41 5, false, []⟩,
 ⟨1, mv 42 5, false, []⟩,
 ⟨2, mv 43 5, false, []⟩,
 ⟨3, rr 44 (.nilchk (.t 43)), false, []⟩,
 ⟨4, rr 45 (.fld 0 (.t 44)), false, []⟩,
 ⟨5, rr 46 (.load1 (.t 45)), false, []⟩,
 ⟨6, mv 47 0, false, []⟩,
 ⟨7, mv 48 6, false, []⟩,
 ⟨8, rr 49 (.idxS 1 (.t 47) (.t 48)), false, []⟩,
 ⟨9, rr 50 (.load1 (.t 49)), false, []⟩,
 ⟨10, nn 51 (.bslice (some .str) 1 1 [.t 50]), false, []⟩,
 ⟨12, mv 53 5, false, []⟩,
 ⟨13, rr 54 (.nilchk (.t 53)), false, []⟩,
 ⟨14, rr 55 (.fld 1 (.t 54)), false, []⟩,
 ⟨15, rr 56 (.load1 (.t 55)), false, []⟩,
 ⟨16, mv 57 7, false, []⟩,
 ⟨17, nn 58 (.bslice (some (.int .i64)) 1 1 [.t 57]), false, []⟩,
 ⟨11, ee 52 (.append .str (.t 46) (.t 51)), true, [10, 9, 8, 7, 6, 5, 4, 3, 2]⟩,
 ⟨18, ee 59 (.append (.int .i64) (.t 56) (.t 58)), true, [17, 16, 15, 14, 13, 12, 11, 10, 9, 8, 7, 6, 5, 4, 3, 2]⟩,
 ⟨19, rr 60 (.nilchk (.t 41)), false, []⟩,
 ⟨20, rr 61 (.fld 0 (.t 60)), false, []⟩,
 ⟨21, ff (.store1 (.t 61) (.t 52)), true, [20, 19, 18, 17, 16, 15, 14, 13, 12, 11, 10, 9, 8, 7, 6, 5, 4, 3, 2, 0]⟩,
 ⟨22, rr 62 (.nilchk (.t 42)), false, []⟩,
 ⟨23, rr 63 (.fld 1 (.t 62)), false, []⟩,
 ⟨24, ff (.store1 (.t 63) (.t 59)), true, [23, 22, 21, 20, 19, 18, 17, 16, 15, 14, 13, 12, 11, 10, 9, 8, 7, 6, 5, 4, 3, 2, 1, 0]⟩])))))
 (.reg [mv 22 6,
 rr 23 (.arith .add (.t 22) (ci 1)),
 mv 6 23]))))))
 (.seq (.reg [mv 64 5,
 mv 4 64])
 (.ret))))⟩
/-- guichet/guichetref12.Debit -/
def b54 : AFunc := ⟨27, [.tmp 6, .tmp 7],
 .seq (.reg [nn 3 (.box (.t 0)),
 rr 6 (.mov (.c (.slice none (.n 0) (.exact 0)))),
 rr 7 (.mov (ci 0))])
 (.seq (.reg [rr 13 (.loadN 2 (.t 3)),
 mv 14 1,
 mv 15 2,
 cl 16 111 [(ci 200), .t 13, .t 14, .t 15],
 mv 12 16,
 rr 17 (.ext (.t 12) 0),
 rr 18 (.ext (.t 12) 1),
 nn 8 (.zbox [(.int .i64 0), (.slice none (.n 0) (.exact 0))]),
 ff (.storeN 2 (.t 8) (.t 17)),
 mv 9 18])
 (.seq (.seq (.reg [mv 19 9,
 rr 20 (.not (.t 19))])
 (.cond (.t 20) (.seq (.reg [rr 6 (.mov (.c (.slice none (.n 0) (.exact 0)))),
 rr 7 (.mov (ci 27))])
 (.ret))
 (.skip)))
 (.seq (.reg [rr 22 (.loadN 2 (.t 8)),
 cl 23 112 [.t 22],
 mv 21 23,
 rr 24 (.ext (.t 21) 0),
 rr 25 (.ext (.t 21) 1),
 mv 10 24,
 mv 11 25])
 (.seq (.reg [mv 26 10,
 mv 6 26,
 rr 7 (.mov (ci 0))])
 (.ret)))))⟩
/-- guichet/guichetref12.Answer -/
def b56 : AFunc := ⟨193, [.tmp 4, .tmp 5],
 .seq (.reg [rr 4 (.mov (.c (.slice none (.n 0) (.exact 0)))),
 rr 5 (.mov (.c (.bool false)))])
 (.seq (.reg [mv 34 1,
 cl 35 114 [.t 34],
 mv 33 35,
 rr 36 (.ext (.t 33) 0),
 rr 37 (.ext (.t 33) 1),
 nn 6 (.zbox [(.int .i64 0), (.slice none (.n 0) (.exact 0))]),
 ff (.storeN 2 (.t 6) (.t 36)),
 mv 7 37])
 (.seq (.seq (.reg [mv 38 7,
 rr 39 (.cmp .neq (.t 38) (ci 0)),
 mv 40 39,
 gr 41 (.mov (.t 0)) 40 false,
 gr 42 (.eqP false (.t 41) (.c (.ptr none))) 40 false,
 rr 43 (.pick (.t 40) (.c (.bool true)) (.t 42))])
 (.cond (.t 43) (.seq (.reg [rr 4 (.mov (.c (.slice none (.n 0) (.exact 0)))),
 rr 5 (.mov (.c (.bool false)))])
 (.ret))
 (.skip)))
 (.seq (.seq (.reg [rr 44 (.fld 0 (.t 6)),
 rr 45 (.load1 (.t 44)),
 rr 46 (.cmp .eql (.t 45) (ci 800))])
 (.cond (.t 46) (.seq (.reg [rr 48 (.loadN 2 (.t 6)),
 cl 49 115 [.t 48, (ci 11)],
 mv 47 49,
 rr 50 (.ext (.t 47) 0),
 rr 51 (.ext (.t 47) 1),
 mv 8 50,
 mv 9 51])
 (.seq (.reg [mv 53 8,
 cl 54 116 [.t 53],
 mv 52 54,
 rr 55 (.ext (.t 52) 0),
 rr 56 (.ext (.t 52) 1),
 mv 10 55,
 mv 11 56])
 (.seq (.seq (.dreg [⟨0, mv 57 10, false, []⟩,
 ⟨1, rr 58 (.toInt .u32 (.t 57)), false, []⟩,
 ⟨4, mv 61 1, false, []⟩,
 ⟨5, rr 62 (.toStr (.t 61)), false, []⟩,
 ⟨2, cl 59 117 [.t 58], true, [1, 0]⟩,
 ⟨3, rr 60 (.toStr (.t 59)), false, []⟩,
 ⟨6, rr 63 (.eq1 (.s) true (.t 60) (.t 62)), false, []⟩])
 (.cond (.t 63) (.seq (.reg [rr 4 (.mov (.c (.slice none (.n 0) (.exact 0)))),
 rr 5 (.mov (.c (.bool false)))])
 (.ret))
 (.skip)))
 (.seq (.reg [mv 65 8,
 rr 66 (.build [(.int .i64 0), (.str [])] [(0, (1, (ci 11))), (1, (1, (.t 65)))]),
 rr 67 (.build [(.int .i64 0), (.str [])] [(0, (1, (ci 39))), (1, (1, (.c (.str [48, 48]))))]),
 rr 68 (.build [(.int .i64 0), (.str [])] [(0, (1, (ci 70))), (1, (1, (.c (.str [51, 48, 49]))))]),
 nn 69 (.bslice (some .fld) 2 3 [.t 66, .t 67, .t 68]),
 rr 70 (.build [(.int .i64 0), (.slice none (.n 0) (.exact 0))] [(0, (1, (ci 810))), (1, (1, (.t 69)))]),
 cl 71 112 [.t 70],
 mv 64 71,
 rr 72 (.ext (.t 64) 0),
 rr 73 (.ext (.t 64) 1),
 mv 12 72,
 mv 13 73])
 (.seq (.reg [mv 74 12,
 mv 4 74,
 rr 5 (.mov (.c (.bool true)))])
 (.ret))))))
 (.skip)))
 (.seq (.reg [rr 76 (.loadN 2 (.t 6)),
 cl 77 118 [.t 76],
 mv 75 77,
 rr 78 (.ext (.t 75) 0),
 rr 79 (.ext (.t 75) 1),
 nn 14 (.zbox [(.int .u16 0), (.int .u32 0)]),
 ff (.storeN 2 (.t 14) (.t 78)),
 mv 15 79])
 (.seq (.reg [rr 81 (.loadN 2 (.t 6)),
 cl 82 115 [.t 81, (ci 2)],
 mv 80 82,
 rr 83 (.ext (.t 80) 0),
 rr 84 (.ext (.t 80) 1),
 mv 16 83,
 mv 17 84])
 (.seq (.reg [rr 86 (.loadN 2 (.t 6)),
 cl 87 115 [.t 86, (ci 4)],
 mv 85 87,
 rr 88 (.ext (.t 85) 0),
 rr 89 (.ext (.t 85) 1),
 mv 18 88,
 mv 19 89])
 (.seq (.reg [mv 91 18,
 cl 92 116 [.t 91],
 mv 90 92,
 rr 93 (.ext (.t 90) 0),
 rr 94 (.ext (.t 90) 1),
 mv 20 93,
 mv 21 94])
 (.seq (.reg [rr 22 (.mov (.c (.str [])))])
 (.seq (.seq (.reg [rr 96 (.loadN 2 (.t 14)),
 mv 97 16,
 mv 98 20,
 cl 99 54 [.t 96, .t 97, .t 98],
 mv 95 99,
 rr 100 (.ext (.t 95) 0),
 rr 101 (.ext (.t 95) 1),
 mv 23 100,
 mv 24 101])
 (.seq (.reg [mv 102 15,
 mv 103 102,
 gr 104 (.fld 0 (.t 6)) 103 true,
 gr 105 (.load1 (.t 104)) 103 true,
 gr 106 (.cmp .eql (.t 105) (ci 200)) 103 true,
 rr 107 (.pick (.t 103) (.t 106) (.c (.bool false))),
 mv 108 107,
 gr 109 (.mov (.t 24)) 108 true,
 gr 110 (.cmp .eql (.t 109) (ci 0)) 108 true,
 rr 111 (.pick (.t 108) (.t 110) (.c (.bool false))),
 mv 112 111,
 gr 113 (.mov (.t 23)) 112 true,
 gr 114 (.toStr (.t 113)) 112 true,
 gr 115 (.mov (.t 1)) 112 true,
 gr 116 (.toStr (.t 115)) 112 true,
 gr 117 (.eq1 (.s) false (.t 114) (.t 116)) 112 true,
 rr 118 (.pick (.t 112) (.t 117) (.c (.bool false)))])
 (.cond (.t 118) (.reg [mv 119 0,
 rr 120 (.loadN 2 (.t 14)),
 mv 121 16,
 mv 122 20,
 cl 123 119 [.t 119, .t 120, .t 121, .t 122],
 mv 22 123])
 (.skip))))
 (.seq (.seq (.reg [rr 125 (.loadN 2 (.t 6)),
 cl 126 115 [.t 125, (ci 95)],
 mv 124 126,
 rr 127 (.ext (.t 124) 0),
 rr 128 (.ext (.t 124) 1),
 mv 25 127,
 mv 26 128])
 (.seq (.reg [mv 129 15,
 mv 130 129,
 gr 131 (.fld 0 (.t 6)) 130 true,
 gr 132 (.load1 (.t 131)) 130 true,
 gr 133 (.cmp .eql (.t 132) (ci 420)) 130 true,
 rr 134 (.pick (.t 130) (.t 133) (.c (.bool false))),
 mv 135 134,
 gr 136 (.mov (.t 25)) 135 true,
 gr 137 (.len 0 (.t 136)) 135 true,
 gr 138 (.cmp .eql (.t 137) (ci 42)) 135 true,
 rr 139 (.pick (.t 135) (.t 138) (.c (.bool false)))])
 (.cond (.t 139) (.seq (.reg [mv 141 25,
 rr 142 (.slcStr (.t 141) none (some (ci 12))),
 cl 143 116 [.t 142],
 mv 140 143,
 rr 144 (.ext (.t 140) 0),
 rr 145 (.ext (.t 140) 1),
 mv 27 144,
 mv 28 145])
 (.seq (.reg [rr 147 (.loadN 2 (.t 14)),
 mv 148 16,
 mv 149 20,
 mv 150 27,
 cl 151 55 [.t 147, .t 148, .t 149, .t 150],
 mv 146 151,
 rr 152 (.ext (.t 146) 0),
 rr 153 (.ext (.t 146) 1),
 mv 29 152,
 mv 30 153])
 (.seq (.reg [mv 154 28,
 mv 155 154,
 gr 156 (.mov (.t 30)) 155 true,
 gr 157 (.cmp .eql (.t 156) (ci 0)) 155 true,
 rr 158 (.pick (.t 155) (.t 157) (.c (.bool false))),
 mv 159 158,
 gr 160 (.mov (.t 29)) 159 true,
 gr 161 (.toStr (.t 160)) 159 true,
 gr 162 (.mov (.t 1)) 159 true,
 gr 163 (.toStr (.t 162)) 159 true,
 gr 164 (.eq1 (.s) false (.t 161) (.t 163)) 159 true,
 rr 165 (.pick (.t 159) (.t 164) (.c (.bool false)))])
 (.cond (.t 165) (.reg [mv 166 0,
 rr 167 (.loadN 2 (.t 14)),
 mv 168 27,
 cl 169 120 [.t 166, .t 167, .t 168],
 mv 22 169])
 (.skip)))))
 (.skip))))
 (.seq (.seq (.reg [mv 170 22,
 rr 171 (.eq1 (.s) false (.t 170) (.c (.str [])))])
 (.cond (.t 171) (.seq (.reg [rr 4 (.mov (.c (.slice none (.n 0) (.exact 0)))),
 rr 5 (.mov (.c (.bool false)))])
 (.ret))
 (.skip)))
 (.seq (.dreg [⟨0, rr 173 (.fld 0 (.t 6)), false, []⟩,
 ⟨1, rr 174 (.load1 (.t 173)), false, []⟩,
 ⟨2, rr 175 (.arith .add (.t 174) (ci 10)), false, []⟩,
 ⟨3, mv 176 18, false, []⟩,
 ⟨4, rr 177 (.build [(.int .i64 0), (.str [])] [(0, (1, (ci 4))), (1, (1, (.t 176)))]), false, []⟩,
 ⟨5, rr 178 (.fld 1 (.t 6)), false, []⟩,
 ⟨6, rr 179 (.load1 (.t 178)), false, []⟩,
 ⟨7, rr 180 (.idxS 2 (.t 179) (ci 3)), false, []⟩,
 ⟨8, rr 181 (.loadN 2 (.t 180)), false, []⟩,
 ⟨9, mv 182 22, false, []⟩,
 ⟨10, rr 183 (.build [(.int .i64 0), (.str [])] [(0, (1, (ci 39))), (1, (1, (.t 182)))]), false, []⟩,
 ⟨11, rr 184 (.loadN 2 (.t 14)), false, []⟩,
 ⟨12, cl 185 121 [.t 184], true, [11]⟩,
 ⟨13, rr 186 (.build [(.int .i64 0), (.str [])] [(0, (1, (ci 41))), (1, (1, (.t 185)))]), false, []⟩,
 ⟨14, nn 187 (.bslice (some .fld) 2 4 [.t 177, .t 181, .t 183, .t 186]), false, []⟩,
 ⟨15, rr 188 (.build [(.int .i64 0), (.slice none (.n 0) (.exact 0))] [(0, (1, (.t 175))), (1, (1, (.t 187)))]), false, []⟩,
 ⟨16, cl 189 112 [.t 188], true, [15, 14, 13, 12, 11, 10, 9, 8, 7, 6, 5, 4, 3, 2, 1, 0]⟩,
 ⟨17, mv 172 189, false, []⟩,
 ⟨18, rr 190 (.ext (.t 172) 0), false, []⟩,
 ⟨19, rr 191 (.ext (.t 172) 1), false, []⟩,
 ⟨20, mv 31 190, false, []⟩,
 ⟨21, mv 32 191, false, []⟩])
 (.seq (.reg [mv 192 31,
 mv 4 192,
 rr 5 (.mov (.c (.bool true)))])
 (.ret))))))))))))))⟩
/-- slices.Clone[[]guichet/api.Rec,guichet/api.Rec] -/
def b59 : AFunc := ⟨8, [.tmp 2],
 .seq (.reg [rr 2 (.mov (.c (.slice none (.n 0) (.exact 0))))])
 (.seq (.seq (.reg [mv 3 0,
 rr 4 (.eqN false (.t 3))])
 (.cond (.t 4) (.seq (.reg [rr 2 (.mov (.c (.slice none (.n 0) (.exact 0))))])
 (.ret))
 (.skip)))
 (.seq (.reg [nn 5 (.bslice (some .rcd) 17 0 []),
 mv 6 0,
 ee 7 (.append .rcd (.t 5) (.t 6)),
 mv 2 7])
 (.ret)))⟩
/-- guichet/guichetref1.AllDigits -/
def b60 : AFunc := ⟨20, [.tmp 2],
 .seq (.reg [rr 2 (.mov (.c (.bool false)))])
 (.seq (.seq (.reg [rr 3 (.mov (ci 0))])
 (.block 0 (.loop [] (.seq (.seq (.reg [mv 4 3,
 mv 5 0,
 rr 6 (.len 0 (.t 5)),
 rr 7 (.cmp .lss (.t 4) (.t 6))])
 (.cond (.t 7) (.skip)
 (.exit 0)))
 (.seq (.block 1 (.seq (.reg [mv 10 0,
 mv 11 3,
 rr 12 (.strAt (.t 10) (.t 11)),
 rr 13 (.cmp .lss (.t 12) (.c (.int .u8 48))),
 mv 14 13,
 gr 15 (.mov (.t 0)) 14 false,
 gr 16 (.mov (.t 3)) 14 false,
 gr 17 (.strAt (.t 15) (.t 16)) 14 false,
 gr 18 (.cmp .gtr (.t 17) (.c (.int .u8 57))) 14 false,
 rr 19 (.pick (.t 14) (.c (.bool true)) (.t 18))])
 (.cond (.t 19) (.seq (.reg [rr 2 (.mov (.c (.bool false)))])
 (.ret))
 (.skip))))
 (.reg [mv 8 3,
 rr 9 (.arith .add (.t 8) (ci 1)),
 mv 3 9]))))))
 (.seq (.reg [rr 2 (.mov (.c (.bool true)))])
 (.ret)))⟩
/-- slices.SortedFunc[guichet/api.Key] -/
def b66 : AFunc := ⟨12, [.tmp 4],
 .seq (.reg [rr 4 (.mov (.c (.slice none (.n 0) (.exact 0))))])
 (.seq (.reg [mv 6 0,
 cl 7 125 [.t 6],
 mv 5 7])
 (.seq (.reg [mv 8 5,
 mv 9 1,
 cl 10 126 [.t 8, .t 9]])
 (.seq (.reg [mv 11 5,
 mv 4 11])
 (.ret))))⟩
/-- maps.Keys[map[guichet/api.Key]guichet/api.Txn,guichet/api.Key,guichet/api.Txn] -/
def b67 : AFunc := ⟨4, [.tmp 2],
 .seq (.reg [nn 1 (.box (.t 0)),
 rr 2 (.mov (.c .nilFn))])
 (.seq (.reg [rr 3 (.mkfn (.func 127) [] [.t 1]),
 mv 2 3])
 (.ret))⟩
/-- guichet/money.Right -/
def b69 : AFunc := ⟨101, [.tmp 2],
 .seq (.reg [nn 1 (.box (.t 0)),
 rr 2 (.mov (.c (.bool false)))])
 (.seq (.seq (.reg [rr 8 (.fld 0 (.t 1)),
 rr 9 (.load1 (.t 8)),
 rr 10 (.len 1 (.t 9)),
 rr 11 (.cmp .gtr (.t 10) (ci 8)),
 mv 12 11,
 gr 13 (.fld 2 (.t 1)) 12 false,
 gr 14 (.load1 (.t 13)) 12 false,
 gr 15 (.len 1 (.t 14)) 12 false,
 gr 16 (.fld 1 (.t 1)) 12 false,
 gr 17 (.load1 (.t 16)) 12 false,
 gr 18 (.len 1 (.t 17)) 12 false,
 gr 19 (.cmp .neq (.t 15) (.t 18)) 12 false,
 rr 20 (.pick (.t 12) (.c (.bool true)) (.t 19)),
 mv 21 20,
 gr 22 (.fld 1 (.t 1)) 21 false,
 gr 23 (.load1 (.t 22)) 21 false,
 gr 24 (.len 1 (.t 23)) 21 false,
 gr 25 (.cmp .gtr (.t 24) (ci 64)) 21 false,
 rr 26 (.pick (.t 21) (.c (.bool true)) (.t 25)),
 mv 27 26,
 gr 28 (.fld 3 (.t 1)) 27 false,
 gr 29 (.load1 (.t 28)) 27 false,
 gr 30 (.cmp .lss (.t 29) (ci 1)) 27 false,
 rr 31 (.pick (.t 27) (.c (.bool true)) (.t 30)),
 mv 32 31,
 gr 33 (.fld 4 (.t 1)) 32 false,
 gr 34 (.load1 (.t 33)) 32 false,
 gr 35 (.cmp .gtr (.t 34) (ci 1000000)) 32 false,
 rr 36 (.pick (.t 32) (.c (.bool true)) (.t 35)),
 mv 37 36,
 gr 38 (.fld 3 (.t 1)) 37 false,
 gr 39 (.load1 (.t 38)) 37 false,
 gr 40 (.fld 4 (.t 1)) 37 false,
 gr 41 (.load1 (.t 40)) 37 false,
 gr 42 (.cmp .gtr (.t 39) (.t 41)) 37 false,
 rr 43 (.pick (.t 37) (.c (.bool true)) (.t 42))])
 (.cond (.t 43) (.seq (.reg [rr 2 (.mov (.c (.bool false)))])
 (.ret))
 (.skip)))
 (.seq (.seq (.reg [rr 44 (.fld 0 (.t 1)),
 rr 45 (.load1 (.t 44)),
 rr 46 (.len 1 (.t 45)),
 rr 47 (.mov (ci 0))])
 (.block 0 (.loop [] (.seq (.reg [rr 48 (.cmp .lss (.t 47) (.t 46))])
 (.seq (.cond (.t 48) (.skip)
 (.exit 0))
 (.seq (.block 1 (.seq (.reg [rr 49 (.idxS 16 (.t 45) (.t 47)),
 rr 50 (.loadN 16 (.t 49)),
 nn 4 (.zbox [(.int .i64 0), (.int .i64 0), (.int .i64 0), (.int .i64 0), (.int .i64 0), (.int .i64 0), (.int .i64 0), (.int .i64 0), (.int .i64 0), (.int .i64 0), (.int .i64 0), (.int .i64 0), (.int .i64 0), (.int .i64 0), (.int .i64 0), (.int .i64 0)]),
 ff (.storeN 16 (.t 4) (.t 50))])
 (.seq (.reg [rr 51 (.loadN 16 (.t 4)),
 cl 52 131 [.t 51],
 rr 53 (.not (.t 52))])
 (.cond (.t 53) (.seq (.reg [rr 2 (.mov (.c (.bool false)))])
 (.ret))
 (.skip)))))
 (.reg [rr 54 (.arith .add (.t 47) (ci 1)),
 mv 47 54])))))))
 (.seq (.reg [nn 55 (.mkmap .str .bool),
 mv 5 55])
 (.seq (.seq (.reg [rr 56 (.fld 1 (.t 1)),
 rr 57 (.load1 (.t 56)),
 rr 58 (.len 1 (.t 57)),
 rr 59 (.mov (ci 0))])
 (.block 2 (.loop [] (.seq (.reg [rr 60 (.cmp .lss (.t 59) (.t 58))])
 (.seq (.cond (.t 60) (.skip)
 (.exit 2))
 (.seq (.block 3 (.seq (.reg [mv 61 59,
 rr 62 (.idxS 1 (.t 57) (.t 59)),
 rr 63 (.load1 (.t 62)),
 mv 6 61,
 mv 7 63])
 (.seq (.seq (.reg [mv 64 7,
 rr 65 (.len 0 (.t 64)),
 rr 66 (.cmp .lss (.t 65) (ci 1)),
 mv 67 66,
 gr 68 (.mov (.t 7)) 67 false,
 gr 69 (.len 0 (.t 68)) 67 false,
 gr 70 (.cmp .gtr (.t 69) (ci 19)) 67 false,
 rr 71 (.pick (.t 67) (.c (.bool true)) (.t 70)),
 mv 72 71,
 gr 73 (.mov (.t 7)) 72 false,
 ⟨(some 74), .e (.call (.c (.fn (.func 132) [] [])) [.t 73]), (some (72, false))⟩,
 gr 75 (.not (.t 74)) 72 false,
 rr 76 (.pick (.t 72) (.c (.bool true)) (.t 75)),
 mv 77 76,
 gr 78 (.mov (.t 5)) 77 false,
 gr 79 (.mov (.t 7)) 77 false,
 gr 80 (.look .str .bool false (.t 78) (.t 79)) 77 false,
 rr 81 (.pick (.t 77) (.c (.bool true)) (.t 80)),
 mv 82 81,
 gr 83 (.fld 2 (.t 1)) 82 false,
 gr 84 (.load1 (.t 83)) 82 false,
 gr 85 (.mov (.t 6)) 82 false,
 gr 86 (.idxS 1 (.t 84) (.t 85)) 82 false,
 gr 87 (.load1 (.t 86)) 82 false,
 gr 88 (.cmp .lss (.t 87) (ci 0)) 82 false,
 rr 89 (.pick (.t 82) (.c (.bool true)) (.t 88)),
 mv 90 89,
 gr 91 (.fld 2 (.t 1)) 90 false,
 gr 92 (.load1 (.t 91)) 90 false,
 gr 93 (.mov (.t 6)) 90 false,
 gr 94 (.idxS 1 (.t 92) (.t 93)) 90 false,
 gr 95 (.load1 (.t 94)) 90 false,
 gr 96 (.cmp .gtr (.t 95) (ci 1000000000000)) 90 false,
 rr 97 (.pick (.t 90) (.c (.bool true)) (.t 96))])
 (.cond (.t 97) (.seq (.reg [rr 2 (.mov (.c (.bool false)))])
 (.ret))
 (.skip)))
 (.reg [mv 98 5,
 mv 99 7,
 ff (.upd .str .bool (.t 98) (.t 99) (.c (.bool true)))]))))
 (.reg [rr 100 (.arith .add (.t 59) (ci 1)),
 mv 59 100])))))))
 (.seq (.reg [rr 2 (.mov (.c (.bool true)))])
 (.ret))))))⟩
/-- guichet/book.New -/
def b71 : AFunc := ⟨42, [.tmp 2],
 .seq (.reg [nn 1 (.box (.t 0)),
 rr 2 (.mov (.c (.ptr none)))])
 (.seq (.reg [nn 6 (.mkmap .key .txn),
 rr 7 (.build [(.slice none (.n 0) (.exact 0)), (.slice none (.n 0) (.exact 0)), (.map none)] [(2, (1, (.t 6)))]),
 nn 8 (.box (.t 7)),
 mv 3 8])
 (.seq (.seq (.reg [rr 9 (.loadN 5 (.t 1)),
 cl 10 69 [.t 9]])
 (.cond (.t 10) (.seq (.reg [rr 11 (.fld 0 (.t 1)),
 rr 12 (.load1 (.t 11)),
 rr 13 (.len 1 (.t 12)),
 rr 14 (.mov (ci 0))])
 (.block 0 (.loop [] (.seq (.reg [rr 15 (.cmp .lss (.t 14) (.t 13))])
 (.seq (.cond (.t 15) (.skip)
 (.exit 0))
 (.seq (.block 1 (.seq (.reg [rr 16 (.idxS 16 (.t 12) (.t 14)),
 rr 17 (.loadN 16 (.t 16)),
 nn 5 (.zbox [(.int .i64 0), (.int .i64 0), (.int .i64 0), (.int .i64 0), (.int .i64 0), (.int .i64 0), (.int .i64 0), (.int .i64 0), (.int .i64 0), (.int .i64 0), (.int .i64 0), (.int .i64 0), (.int .i64 0), (.int .i64 0), (.int .i64 0), (.int .i64 0)]),
 ff (.storeN 16 (.t 5) (.t 17))])
 (.dreg [⟨0, mv 18 3, false, []⟩,
 ⟨1, mv 19 3, false, []⟩,
 ⟨2, rr 20 (.nilchk (.t 19)), false, []⟩,
 ⟨3, rr 21 (.fld 0 (.t 20)), false, []⟩,
 ⟨4, rr 22 (.load1 (.t 21)), false, []⟩,
 ⟨5, rr 23 (.loadN 16 (.t 5)), false, []⟩,
 ⟨6, cl 24 136 [.t 23], true, [5]⟩,
 ⟨7, rr 25 (.nilchk (.t 24)), false, []⟩,
 ⟨8, rr 26 (.loadN 16 (.t 25)), false, []⟩,
 ⟨9, rr 27 (.build [(.int .i64 0), (.int .i64 0), (.int .i64 0), (.int .i64 0), (.int .i64 0), (.int .i64 0), (.int .i64 0), (.int .i64 0), (.int .i64 0), (.int .i64 0), (.int .i64 0), (.int .i64 0), (.int .i64 0), (.int .i64 0), (.int .i64 0), (.int .i64 0), (.bool false), (.int .i64 0)] [(0, (16, (.t 26)))]), false, []⟩,
 ⟨10, nn 28 (.bslice (some .terml) 18 1 [.t 27]), false, []⟩,
 ⟨11, ee 29 (.append .terml (.t 22) (.t 28)), true, [10, 9, 8, 7, 6, 5, 4, 3, 2, 1]⟩,
 ⟨12, rr 30 (.nilchk (.t 18)), false, []⟩,
 ⟨13, rr 31 (.fld 0 (.t 30)), false, []⟩,
 ⟨14, ff (.store1 (.t 31) (.t 29)), true, [13, 12, 11, 10, 9, 8, 7, 6, 5, 4, 3, 2, 1, 0]⟩])))
 (.reg [rr 32 (.arith .add (.t 14) (ci 1)),
 mv 14 32])))))))
 (.skip)))
 (.seq (.reg [mv 33 3,
 mv 34 3,
 rr 35 (.nilchk (.t 34)),
 rr 36 (.fld 0 (.t 35)),
 rr 37 (.load1 (.t 36)),
 cl 38 101 [.t 37],
 rr 39 (.nilchk (.t 33)),
 rr 40 (.fld 1 (.t 39)),
 ff (.store1 (.t 40) (.t 38))])
 (.seq (.reg [mv 41 3,
 mv 2 41])
 (.ret)))))⟩
/-- guichet/saf.New -/
def b72 : AFunc := ⟨3, [.tmp 0],
 .seq (.reg [rr 0 (.mov (.c (.ptr none)))])
 (.seq (.reg [rr 1 (.build [(.slice none (.n 0) (.exact 0)), (.int .i64 0)] []),
 nn 2 (.box (.t 1)),
 mv 0 2])
 (.ret))⟩
/-- slices.Clone[[][4]guichet/api.Cass,[4]guichet/api.Cass] -/
def b73 : AFunc := ⟨8, [.tmp 2],
 .seq (.reg [rr 2 (.mov (.c (.slice none (.n 0) (.exact 0))))])
 (.seq (.seq (.reg [mv 3 0,
 rr 4 (.eqN false (.t 3))])
 (.cond (.t 4) (.seq (.reg [rr 2 (.mov (.c (.slice none (.n 0) (.exact 0))))])
 (.ret))
 (.skip)))
 (.seq (.reg [nn 5 (.bslice (some .c4) 16 0 []),
 mv 6 0,
 ee 7 (.append .c4 (.t 5) (.t 6)),
 mv 2 7])
 (.ret)))⟩
/-- (*guichet/book.Book).Do -/
def b74 : AFunc := ⟨68, [.tmp 4],
 .seq (.reg [nn 3 (.box (.t 1)),
 rr 4 (.mov (ci 0))])
 (.seq (.block 0 (.seq (.reg [rr 8 (.loadN 17 (.t 3)),
 cl 9 137 [.t 8],
 rr 10 (.not (.t 9)),
 mv 7 10])
 (.cond (.t 7) (.seq (.reg [rr 4 (.mov (ci 27))])
 (.ret))
 (.seq (.dreg [⟨0, rr 12 (.fld 1 (.t 3)), false, []⟩,
 ⟨1, rr 13 (.fld 0 (.t 12)), false, []⟩,
 ⟨2, rr 14 (.load1 (.t 13)), false, []⟩,
 ⟨3, rr 15 (.toInt .i64 (.t 14)), false, []⟩,
 ⟨4, mv 16 0, false, []⟩,
 ⟨5, rr 17 (.nilchk (.t 16)), false, []⟩,
 ⟨6, rr 18 (.fld 1 (.t 17)), false, []⟩,
 ⟨7, rr 19 (.load1 (.t 18)), false, []⟩,
 ⟨8, rr 20 (.len 1 (.t 19)), false, []⟩,
 ⟨9, rr 21 (.cmp .geq (.t 15) (.t 20)), false, []⟩,
 ⟨10, mv 11 21, false, []⟩])
 (.cond (.t 11) (.seq (.reg [rr 4 (.mov (ci 32))])
 (.ret))
 (.skip))))))
 (.seq (.dreg [⟨0, mv 22 0, false, []⟩,
 ⟨1, rr 23 (.nilchk (.t 22)), false, []⟩,
 ⟨2, rr 24 (.fld 1 (.t 23)), false, []⟩,
 ⟨3, rr 25 (.load1 (.t 24)), false, []⟩,
 ⟨4, rr 26 (.fld 1 (.t 3)), false, []⟩,
 ⟨5, rr 27 (.fld 0 (.t 26)), false, []⟩,
 ⟨6, rr 28 (.load1 (.t 27)), false, []⟩,
 ⟨7, rr 29 (.idxS 18 (.t 25) (.t 28)), false, []⟩,
 ⟨8, rr 30 (.loadN 18 (.t 29)), false, []⟩,
 ⟨9, nn 5 (.zbox [(.int .i64 0), (.int .i64 0), (.int .i64 0), (.int .i64 0), (.int .i64 0), (.int .i64 0), (.int .i64 0), (.int .i64 0), (.int .i64 0), (.int .i64 0), (.int .i64 0), (.int .i64 0), (.int .i64 0), (.int .i64 0), (.int .i64 0), (.int .i64 0), (.bool false), (.int .i64 0)]), false, []⟩,
 ⟨10, ff (.storeN 18 (.t 5) (.t 30)), true, [9, 8, 7, 6, 5, 4, 3, 2, 1, 0]⟩])
 (.seq (.seq (.reg [rr 31 (.fld 0 (.t 3)),
 rr 32 (.load1 (.t 31))])
 (.block 1 (.seq (.reg [rr 38 (.cmp .eql (.t 32) (ci 9)),
 mv 37 38])
 (.cond (.t 37) (.reg [rr 39 (.fld 16 (.t 5)),
 ff (.store1 (.t 39) (.c (.bool true)))])
 (.seq (.reg [rr 41 (.cmp .eql (.t 32) (ci 8)),
 mv 40 41])
 (.cond (.t 40) (.seq (.reg [rr 42 (.fld 0 (.t 5)),
 rr 43 (.fld 13 (.t 3)),
 rr 44 (.loadN 4 (.t 43)),
 cl 45 138 [.t 42, .t 44]])
 (.seq (.seq (.reg [rr 46 (.fld 0 (.t 5)),
 rr 47 (.fld 5 (.t 3)),
 rr 48 (.loadN 4 (.t 47)),
 rr 49 (.fld 9 (.t 3)),
 rr 50 (.loadN 4 (.t 49)),
 cl 51 139 [.t 46, .t 48, .t 50],
 mv 6 51])
 (.seq (.reg [mv 52 6,
 rr 53 (.cmp .neq (.t 52) (ci 0))])
 (.cond (.t 53) (.seq (.reg [mv 54 6,
 mv 4 54])
 (.ret))
 (.skip))))
 (.reg [rr 55 (.fld 4 (.t 3)),
 rr 56 (.load1 (.t 55)),
 rr 57 (.fld 17 (.t 5)),
 ff (.store1 (.t 57) (.t 56)),
 rr 58 (.fld 16 (.t 5)),
 ff (.store1 (.t 58) (.c (.bool false)))])))
 (.seq (.reg [mv 33 0,
 rr 34 (.loadN 17 (.t 3)),
 rr 35 (.loadN 18 (.t 5)),
 cl 36 140 [.t 33, .t 34, .t 35],
 mv 4 36])
 (.ret))))))))
 (.seq (.dreg [⟨0, mv 59 0, false, []⟩,
 ⟨1, rr 60 (.nilchk (.t 59)), false, []⟩,
 ⟨2, rr 61 (.fld 1 (.t 60)), false, []⟩,
 ⟨3, rr 62 (.load1 (.t 61)), false, []⟩,
 ⟨4, rr 63 (.fld 1 (.t 3)), false, []⟩,
 ⟨5, rr 64 (.fld 0 (.t 63)), false, []⟩,
 ⟨6, rr 65 (.load1 (.t 64)), false, []⟩,
 ⟨7, rr 66 (.loadN 18 (.t 5)), false, []⟩,
 ⟨8, rr 67 (.idxS 18 (.t 62) (.t 65)), false, []⟩,
 ⟨9, ff (.storeN 18 (.t 67) (.t 66)), true, [8, 7, 6, 5, 4, 3, 2, 1, 0]⟩])
 (.seq (.reg [rr 4 (.mov (ci 0))])
 (.ret))))))⟩
/-- (*guichet/core.Switch).query -/
def b77 : AFunc := ⟨17, [],
 .seq (.reg [mv 3 0,
 rr 4 (.nilchk (.t 3)),
 rr 5 (.fld 0 (.t 4)),
 rr 6 (.fld 0 (.t 5)),
 rr 7 (.load1 (.t 6)),
 rr 8 (.len 1 (.t 7)),
 rr 9 (.mov (ci 0))])
 (.block 0 (.loop [] (.seq (.reg [rr 10 (.cmp .lss (.t 9) (.t 8))])
 (.seq (.cond (.t 10) (.skip)
 (.exit 0))
 (.seq (.block 1 (.seq (.reg [mv 11 9,
 mv 2 11])
 (.reg [mv 12 0,
 mv 13 2,
 rr 14 (.toInt .u16 (.t 13)),
 cl 15 94 [.t 12, .t 14]])))
 (.reg [rr 16 (.arith .add (.t 9) (ci 1)),
 mv 9 16]))))))⟩
/-- (*guichet/saf.Queue).Tick -/
def b78 : AFunc := ⟨35, [],
 .seq (.reg [mv 3 0,
 rr 4 (.nilchk (.t 3)),
 rr 5 (.fld 1 (.t 4)),
 rr 6 (.load1 (.t 5)),
 rr 7 (.arith .add (.t 6) (ci 1)),
 rr 8 (.nilchk (.t 3)),
 rr 9 (.fld 1 (.t 8)),
 ff (.store1 (.t 9) (.t 7))])
 (.seq (.reg [mv 10 0,
 rr 11 (.nilchk (.t 10)),
 rr 12 (.fld 1 (.t 11)),
 rr 13 (.load1 (.t 12)),
 rr 14 (.arith .rem (.t 13) (ci 4)),
 rr 15 (.cmp .eql (.t 14) (ci 0))])
 (.cond (.t 15) (.seq (.reg [mv 16 0,
 rr 17 (.nilchk (.t 16)),
 rr 18 (.fld 1 (.t 17)),
 ff (.store1 (.t 18) (ci 0))])
 (.seq (.reg [mv 19 0,
 rr 20 (.nilchk (.t 19)),
 rr 21 (.fld 0 (.t 20)),
 rr 22 (.load1 (.t 21)),
 rr 23 (.len 1 (.t 22)),
 rr 24 (.mov (ci 0))])
 (.block 0 (.loop [] (.seq (.reg [rr 25 (.cmp .lss (.t 24) (.t 23))])
 (.seq (.cond (.t 25) (.skip)
 (.exit 0))
 (.seq (.block 1 (.seq (.reg [mv 26 24,
 mv 2 26])
 (.reg [mv 27 0,
 rr 28 (.nilchk (.t 27)),
 rr 29 (.fld 0 (.t 28)),
 rr 30 (.load1 (.t 29)),
 mv 31 2,
 rr 32 (.idxS 4 (.t 30) (.t 31)),
 rr 33 (.fld 3 (.t 32)),
 ff (.store1 (.t 33) (.c (.bool true)))])))
 (.reg [rr 34 (.arith .add (.t 24) (ci 1)),
 mv 24 34]))))))))
 (.skip)))⟩
/-- guichet/guichetref1.Split -/
def b80 : AFunc := ⟨34, [.tmp 2],
 .seq (.reg [rr 2 (.mov (.c (.slice none (.n 0) (.exact 0))))])
 (.seq (.reg [rr 3 (.mov (.c (.slice none (.n 0) (.exact 0))))])
 (.seq (.reg [rr 4 (.mov (ci 0))])
 (.seq (.seq (.reg [rr 5 (.mov (ci 0))])
 (.block 0 (.loop [] (.seq (.seq (.reg [mv 6 5,
 mv 7 0,
 rr 8 (.len 1 (.t 7)),
 rr 9 (.cmp .lss (.t 6) (.t 8))])
 (.cond (.t 9) (.skip)
 (.exit 0)))
 (.seq (.block 1 (.seq (.reg [mv 12 0,
 mv 13 5,
 rr 14 (.idxS 1 (.t 12) (.t 13)),
 rr 15 (.load1 (.t 14)),
 rr 16 (.cmp .eql (.t 15) (.c (.int .u8 28)))])
 (.cond (.t 16) (.seq (.reg [mv 17 3,
 mv 18 0,
 mv 19 4,
 mv 20 5,
 rr 21 (.slcS 1 (.t 18) (some (.t 19)) (some (.t 20)) none),
 rr 22 (.toStr (.t 21)),
 nn 23 (.bslice (some .str) 1 1 [.t 22]),
 ee 24 (.append .str (.t 17) (.t 23)),
 mv 3 24])
 (.reg [mv 25 5,
 rr 26 (.arith .add (.t 25) (ci 1)),
 mv 4 26]))
 (.skip))))
 (.reg [mv 10 5,
 rr 11 (.arith .add (.t 10) (ci 1)),
 mv 5 11]))))))
 (.seq (.reg [mv 27 3,
 mv 28 0,
 mv 29 4,
 rr 30 (.slcS 1 (.t 28) (some (.t 29)) none none),
 rr 31 (.toStr (.t 30)),
 nn 32 (.bslice (some .str) 1 1 [.t 31]),
 ee 33 (.append .str (.t 27) (.t 32)),
 mv 2 33])
 (.ret)))))⟩
/-- guichet/guichetref12.parts -/
def b81 : AFunc := ⟨20, [.tmp 2, .tmp 3, .tmp 4],
 .seq (.reg [rr 2 (.mov (.c (.str []))),
 rr 3 (.mov (.c (.str []))),
 rr 4 (.mov (.c (.bool false)))])
 (.seq (.seq (.reg [mv 5 0])
 (.block 0 (.seq (.reg [rr 7 (.cmp .eql (.t 5) (ci 1)),
 mv 6 7])
 (.cond (.t 6) (.seq (.reg [rr 2 (.mov (.c (.str [49, 49]))),
 rr 3 (.mov (.c (.str [116, 115, 112, 97]))),
 rr 4 (.mov (.c (.bool true)))])
 (.ret))
 (.seq (.reg [rr 9 (.cmp .eql (.t 5) (ci 2)),
 mv 8 9])
 (.cond (.t 8) (.seq (.reg [rr 2 (.mov (.c (.str [50, 50]))),
 rr 3 (.mov (.c (.str [116, 115, 110, 114]))),
 rr 4 (.mov (.c (.bool true)))])
 (.ret))
 (.seq (.reg [rr 11 (.cmp .eql (.t 5) (ci 3)),
 mv 10 11])
 (.cond (.t 10) (.seq (.reg [rr 2 (.mov (.c (.str [49, 50]))),
 rr 3 (.mov (.c (.str [116]))),
 rr 4 (.mov (.c (.bool true)))])
 (.ret))
 (.seq (.reg [rr 13 (.cmp .eql (.t 5) (ci 4)),
 mv 12 13])
 (.cond (.t 12) (.seq (.reg [rr 2 (.mov (.c (.str [50, 51]))),
 rr 3 (.mov (.c (.str [116, 115, 110, 114, 99, 100, 108, 109]))),
 rr 4 (.mov (.c (.bool true)))])
 (.ret))
 (.seq (.reg [rr 15 (.cmp .eql (.t 5) (ci 5)),
 mv 14 15])
 (.cond (.t 14) (.seq (.reg [rr 2 (.mov (.c (.str [51, 48]))),
 rr 3 (.mov (.c (.str [116, 115, 97, 110]))),
 rr 4 (.mov (.c (.bool true)))])
 (.ret))
 (.seq (.reg [rr 17 (.cmp .eql (.t 5) (ci 6)),
 mv 16 17])
 (.cond (.t 16) (.seq (.reg [rr 2 (.mov (.c (.str [51, 49]))),
 rr 3 (.mov (.c (.str [116, 115]))),
 rr 4 (.mov (.c (.bool true)))])
 (.ret))
 (.seq (.reg [rr 19 (.cmp .eql (.t 5) (ci 7)),
 mv 18 19])
 (.cond (.t 18) (.seq (.reg [rr 2 (.mov (.c (.str [51, 50]))),
 rr 3 (.mov (.c (.str [116, 115]))),
 rr 4 (.mov (.c (.bool true)))])
 (.ret))
 (.skip)))))))))))))))))
 (.seq (.reg [rr 2 (.mov (.c (.str []))),
 rr 3 (.mov (.c (.str []))),
 rr 4 (.mov (.c (.bool false)))])
 (.ret)))⟩
/-- guichet/guichetref12.told -/
def b82 : AFunc := ⟨110, [.cellN 6 26, .tmp 7],
 .seq (.reg [nn 6 (.zbox [(.int .i64 0), (.int .u16 0), (.int .u32 0), (.str []), (.int .i64 0), (.int .i64 0), (.int .i64 0), (.int .i64 0), (.int .i64 0), (.int .i64 0), (.int .i64 0), (.int .i64 0), (.int .i64 0), (.int .i64 0), (.int .i64 0), (.int .i64 0), (.int .i64 0), (.int .i64 0), (.int .i64 0), (.int .i64 0), (.int .i64 0), (.int .i64 0), (.int .i64 0), (.int .i64 0), (.int .i64 0), (.int .i64 0)]),
 rr 7 (.mov (.c (.bool false)))])
 (.seq (.reg [mv 17 0,
 rr 18 (.build [(.int .i64 0), (.int .u16 0), (.int .u32 0), (.str []), (.int .i64 0), (.int .i64 0), (.int .i64 0), (.int .i64 0), (.int .i64 0), (.int .i64 0), (.int .i64 0), (.int .i64 0), (.int .i64 0), (.int .i64 0), (.int .i64 0), (.int .i64 0), (.int .i64 0), (.int .i64 0), (.int .i64 0), (.int .i64 0), (.int .i64 0), (.int .i64 0), (.int .i64 0), (.int .i64 0), (.int .i64 0), (.int .i64 0)] [(0, (1, (.t 17)))]),
 nn 8 (.zbox [(.int .i64 0), (.int .u16 0), (.int .u32 0), (.str []), (.int .i64 0), (.int .i64 0), (.int .i64 0), (.int .i64 0), (.int .i64 0), (.int .i64 0), (.int .i64 0), (.int .i64 0), (.int .i64 0), (.int .i64 0), (.int .i64 0), (.int .i64 0), (.int .i64 0), (.int .i64 0), (.int .i64 0), (.int .i64 0), (.int .i64 0), (.int .i64 0), (.int .i64 0), (.int .i64 0), (.int .i64 0), (.int .i64 0)]),
 ff (.storeN 26 (.t 8) (.t 18))])
 (.seq (.reg [rr 9 (.mov (ci 0))])
 (.seq (.seq (.reg [rr 10 (.mov (ci 0))])
 (.block 0 (.loop [] (.seq (.seq (.reg [mv 19 10,
 mv 20 1,
 rr 21 (.len 0 (.t 20)),
 rr 22 (.cmp .lss (.t 19) (.t 21))])
 (.cond (.t 22) (.skip)
 (.exit 0)))
 (.seq (.block 1 (.seq (.reg [rr 11 (.mov (ci 1))])
 (.seq (.seq (.reg [mv 25 1,
 mv 26 10,
 rr 27 (.strAt (.t 25) (.t 26)),
 cl 28 143 [(.c (.str [110, 114, 99, 100, 109])), .t 27]])
 (.cond (.t 28) (.reg [rr 11 (.mov (ci 4))])
 (.skip)))
 (.seq (.seq (.reg [mv 29 9,
 mv 30 11,
 rr 31 (.arith .add (.t 29) (.t 30)),
 mv 32 2,
 rr 33 (.len 1 (.t 32)),
 rr 34 (.cmp .gtr (.t 31) (.t 33))])
 (.cond (.t 34) (.seq (.reg [rr 35 (.build [(.int .i64 0), (.int .u16 0), (.int .u32 0), (.str []), (.int .i64 0), (.int .i64 0), (.int .i64 0), (.int .i64 0), (.int .i64 0), (.int .i64 0), (.int .i64 0), (.int .i64 0), (.int .i64 0), (.int .i64 0), (.int .i64 0), (.int .i64 0), (.int .i64 0), (.int .i64 0), (.int .i64 0), (.int .i64 0), (.int .i64 0), (.int .i64 0), (.int .i64 0), (.int .i64 0), (.int .i64 0), (.int .i64 0)] []),
 ff (.storeN 26 (.t 6) (.t 35)),
 rr 7 (.mov (.c (.bool false)))])
 (.ret))
 (.skip)))
 (.seq (.seq (.reg [rr 12 (.mov (ci 0))])
 (.block 2 (.loop [] (.seq (.seq (.reg [mv 36 12,
 mv 37 11,
 rr 38 (.cmp .lss (.t 36) (.t 37))])
 (.cond (.t 38) (.skip)
 (.exit 2)))
 (.seq (.block 3 (.seq (.reg [mv 42 2,
 mv 43 9,
 mv 44 12,
 rr 45 (.arith .add (.t 43) (.t 44)),
 rr 46 (.idxS 1 (.t 42) (.t 45)),
 rr 47 (.load1 (.t 46)),
 cl 48 144 [.t 47],
 mv 41 48,
 rr 49 (.ext (.t 41) 0),
 rr 50 (.ext (.t 41) 1),
 mv 13 49,
 mv 14 50])
 (.seq (.seq (.reg [mv 51 1,
 mv 52 10,
 rr 53 (.strAt (.t 51) (.t 52)),
 rr 54 (.cmp .eql (.t 53) (.c (.int .u8 112)))])
 (.cond (.t 54) (.seq (.reg [mv 55 2,
 mv 56 9,
 rr 57 (.idxS 1 (.t 55) (.t 56)),
 rr 58 (.load1 (.t 57)),
 rr 59 (.fld 3 (.t 8)),
 ff (.store1 (.t 59) (.t 58))])
 (.exit 3))
 (.skip)))
 (.seq (.seq (.reg [mv 60 14,
 rr 61 (.not (.t 60))])
 (.cond (.t 61) (.seq (.reg [rr 62 (.build [(.int .i64 0), (.int .u16 0), (.int .u32 0), (.str []), (.int .i64 0), (.int .i64 0), (.int .i64 0), (.int .i64 0), (.int .i64 0), (.int .i64 0), (.int .i64 0), (.int .i64 0), (.int .i64 0), (.int .i64 0), (.int .i64 0), (.int .i64 0), (.int .i64 0), (.int .i64 0), (.int .i64 0), (.int .i64 0), (.int .i64 0), (.int .i64 0), (.int .i64 0), (.int .i64 0), (.int .i64 0), (.int .i64 0)] []),
 ff (.storeN 26 (.t 6) (.t 62)),
 rr 7 (.mov (.c (.bool false)))])
 (.ret))
 (.skip)))
 (.seq (.reg [mv 63 1,
 mv 64 10,
 rr 65 (.strAt (.t 63) (.t 64))])
 (.block 4 (.seq (.reg [rr 79 (.cmp .eql (.t 65) (.c (.int .u8 116))),
 mv 78 79])
 (.cond (.t 78) (.seq (.seq (.reg [mv 80 13,
 rr 81 (.cmp .gtr (.t 80) (ci 65535))])
 (.cond (.t 81) (.seq (.reg [rr 82 (.build [(.int .i64 0), (.int .u16 0), (.int .u32 0), (.str []), (.int .i64 0), (.int .i64 0), (.int .i64 0), (.int .i64 0), (.int .i64 0), (.int .i64 0), (.int .i64 0), (.int .i64 0), (.int .i64 0), (.int .i64 0), (.int .i64 0), (.int .i64 0), (.int .i64 0), (.int .i64 0), (.int .i64 0), (.int .i64 0), (.int .i64 0), (.int .i64 0), (.int .i64 0), (.int .i64 0), (.int .i64 0), (.int .i64 0)] []),
 ff (.storeN 26 (.t 6) (.t 82)),
 rr 7 (.mov (.c (.bool false)))])
 (.ret))
 (.skip)))
 (.reg [mv 83 13,
 rr 84 (.toInt .u16 (.t 83)),
 rr 85 (.fld 1 (.t 8)),
 ff (.store1 (.t 85) (.t 84))]))
 (.seq (.reg [rr 87 (.cmp .eql (.t 65) (.c (.int .u8 115))),
 mv 86 87])
 (.cond (.t 86) (.seq (.seq (.reg [mv 88 13,
 rr 89 (.cmp .gtr (.t 88) (ci 999999))])
 (.cond (.t 89) (.seq (.reg [rr 90 (.build [(.int .i64 0), (.int .u16 0), (.int .u32 0), (.str []), (.int .i64 0), (.int .i64 0), (.int .i64 0), (.int .i64 0), (.int .i64 0), (.int .i64 0), (.int .i64 0), (.int .i64 0), (.int .i64 0), (.int .i64 0), (.int .i64 0), (.int .i64 0), (.int .i64 0), (.int .i64 0), (.int .i64 0), (.int .i64 0), (.int .i64 0), (.int .i64 0), (.int .i64 0), (.int .i64 0), (.int .i64 0), (.int .i64 0)] []),
 ff (.storeN 26 (.t 6) (.t 90)),
 rr 7 (.mov (.c (.bool false)))])
 (.ret))
 (.skip)))
 (.reg [mv 91 13,
 rr 92 (.toInt .u32 (.t 91)),
 rr 93 (.fld 2 (.t 8)),
 ff (.store1 (.t 93) (.t 92))]))
 (.seq (.reg [rr 95 (.cmp .eql (.t 65) (.c (.int .u8 97))),
 mv 94 95])
 (.cond (.t 94) (.reg [mv 96 13,
 rr 97 (.fld 4 (.t 8)),
 ff (.store1 (.t 97) (.t 96))])
 (.seq (.reg [rr 99 (.cmp .eql (.t 65) (.c (.int .u8 108))),
 mv 98 99])
 (.cond (.t 98) (.reg [mv 100 13,
 rr 101 (.fld 21 (.t 8)),
 ff (.store1 (.t 101) (.t 100))])
 (.seq (.reg [mv 67 1,
 mv 68 10,
 rr 69 (.strAt (.t 67) (.t 68)),
 cl 70 99 [.t 8, .t 69],
 mv 66 70,
 rr 71 (.ext (.t 66) 0),
 rr 72 (.ext (.t 66) 1),
 mv 15 71,
 mv 16 72])
 (.reg [mv 73 15,
 mv 74 12,
 mv 75 13,
 rr 76 (.nilchk (.t 73)),
 rr 77 (.idxA 4 1 (.t 76) (.t 74)),
 ff (.store1 (.t 77) (.t 75))]))))))))))))))))
 (.reg [mv 39 12,
 rr 40 (.arith .add (.t 39) (ci 1)),
 mv 12 40]))))))
 (.reg [mv 102 9,
 mv 103 11,
 rr 104 (.arith .add (.t 102) (.t 103)),
 mv 9 104]))))))
 (.reg [mv 23 10,
 rr 24 (.arith .add (.t 23) (ci 1)),
 mv 10 24]))))))
 (.seq (.reg [rr 105 (.loadN 26 (.t 8)),
 mv 106 9,
 mv 107 2,
 rr 108 (.len 1 (.t 107)),
 rr 109 (.cmp .eql (.t 106) (.t 108)),
 ff (.storeN 26 (.t 6) (.t 105)),
 mv 7 109])
 (.ret)))))⟩
/-- guichet/guichetref12.Right -/
def b83 : AFunc := ⟨122, [.tmp 2],
 .seq (.reg [nn 1 (.box (.t 0)),
 rr 2 (.mov (.c (.bool false)))])
 (.seq (.reg [rr 11 (.fld 0 (.t 1)),
 rr 12 (.load1 (.t 11)),
 cl 13 81 [.t 12],
 mv 10 13,
 rr 14 (.ext (.t 10) 0),
 rr 15 (.ext (.t 10) 1),
 rr 16 (.ext (.t 10) 2),
 mv 3 14,
 mv 4 15,
 mv 5 16])
 (.seq (.seq (.reg [mv 17 5,
 rr 18 (.not (.t 17)),
 mv 19 18,
 gr 20 (.fld 2 (.t 1)) 19 false,
 gr 21 (.load1 (.t 20)) 19 false,
 gr 22 (.cmp .gtr (.t 21) (.c (.int .u32 999999))) 19 false,
 rr 23 (.pick (.t 19) (.c (.bool true)) (.t 22)),
 mv 24 23,
 gr 25 (.fld 4 (.t 1)) 24 false,
 gr 26 (.load1 (.t 25)) 24 false,
 gr 27 (.cmp .lss (.t 26) (ci 0)) 24 false,
 rr 28 (.pick (.t 24) (.c (.bool true)) (.t 27)),
 mv 29 28,
 gr 30 (.fld 4 (.t 1)) 29 false,
 gr 31 (.load1 (.t 30)) 29 false,
 gr 32 (.cmp .gtr (.t 31) (ci 1000000)) 29 false,
 rr 33 (.pick (.t 29) (.c (.bool true)) (.t 32)),
 mv 34 33,
 gr 35 (.fld 21 (.t 1)) 34 false,
 gr 36 (.load1 (.t 35)) 34 false,
 gr 37 (.cmp .lss (.t 36) (ci 0)) 34 false,
 rr 38 (.pick (.t 34) (.c (.bool true)) (.t 37)),
 mv 39 38,
 gr 40 (.fld 21 (.t 1)) 39 false,
 gr 41 (.load1 (.t 40)) 39 false,
 gr 42 (.cmp .gtr (.t 41) (ci 1000000)) 39 false,
 rr 43 (.pick (.t 39) (.c (.bool true)) (.t 42))])
 (.cond (.t 43) (.seq (.reg [rr 2 (.mov (.c (.bool false)))])
 (.ret))
 (.skip)))
 (.seq (.seq (.reg [mv 44 4,
 cl 45 143 [.t 44, (.c (.int .u8 115))],
 rr 46 (.not (.t 45)),
 mv 47 46,
 gr 48 (.fld 2 (.t 1)) 47 true,
 gr 49 (.load1 (.t 48)) 47 true,
 gr 50 (.cmp .neq (.t 49) (.c (.int .u32 0))) 47 true,
 rr 51 (.pick (.t 47) (.t 50) (.c (.bool false))),
 mv 52 51,
 gr 53 (.mov (.t 4)) 52 false,
 ⟨(some 54), .e (.call (.c (.fn (.func 143) [] [])) [.t 53, (.c (.int .u8 97))]), (some (52, false))⟩,
 gr 55 (.not (.t 54)) 52 false,
 gr 56 (.mov (.t 55)) 52 false,
 gr 57 (.fld 4 (.t 1)) 56 true,
 gr 58 (.load1 (.t 57)) 56 true,
 gr 59 (.cmp .neq (.t 58) (ci 0)) 56 true,
 gr 60 (.pick (.t 56) (.t 59) (.c (.bool false))) 52 false,
 rr 61 (.pick (.t 52) (.c (.bool true)) (.t 60)),
 mv 62 61,
 gr 63 (.mov (.t 4)) 62 false,
 ⟨(some 64), .e (.call (.c (.fn (.func 143) [] [])) [.t 63, (.c (.int .u8 108))]), (some (62, false))⟩,
 gr 65 (.not (.t 64)) 62 false,
 gr 66 (.mov (.t 65)) 62 false,
 gr 67 (.fld 21 (.t 1)) 66 true,
 gr 68 (.load1 (.t 67)) 66 true,
 gr 69 (.cmp .neq (.t 68) (ci 0)) 66 true,
 gr 70 (.pick (.t 66) (.t 69) (.c (.bool false))) 62 false,
 rr 71 (.pick (.t 62) (.c (.bool true)) (.t 70)),
 mv 72 71,
 gr 73 (.mov (.t 4)) 72 false,
 ⟨(some 74), .e (.call (.c (.fn (.func 143) [] [])) [.t 73, (.c (.int .u8 112))]), (some (72, false))⟩,
 gr 75 (.mov (.t 74)) 72 false,
 gr 76 (.fld 3 (.t 1)) 75 true,
 gr 77 (.load1 (.t 76)) 75 true,
 ⟨(some 78), .e (.call (.c (.fn (.func 122) [] [])) [.t 77]), (some (75, true))⟩,
 gr 79 (.not (.t 78)) 75 true,
 gr 80 (.pick (.t 75) (.t 79) (.c (.bool false))) 72 false,
 rr 81 (.pick (.t 72) (.c (.bool true)) (.t 80)),
 mv 82 81,
 gr 83 (.mov (.t 4)) 82 false,
 ⟨(some 84), .e (.call (.c (.fn (.func 143) [] [])) [.t 83, (.c (.int .u8 112))]), (some (82, false))⟩,
 gr 85 (.not (.t 84)) 82 false,
 gr 86 (.mov (.t 85)) 82 false,
 gr 87 (.fld 3 (.t 1)) 86 true,
 gr 88 (.load1 (.t 87)) 86 true,
 gr 89 (.eq1 (.s) true (.t 88) (.c (.str []))) 86 true,
 gr 90 (.pick (.t 86) (.t 89) (.c (.bool false))) 82 false,
 rr 91 (.pick (.t 82) (.c (.bool true)) (.t 90))])
 (.cond (.t 91) (.seq (.reg [rr 2 (.mov (.c (.bool false)))])
 (.ret))
 (.skip)))
 (.seq (.seq (.reg [rr 6 (.mov (ci 0))])
 (.block 0 (.loop [] (.seq (.seq (.reg [mv 92 6,
 rr 93 (.cmp .lss (.t 92) (ci 5))])
 (.cond (.t 93) (.skip)
 (.exit 0)))
 (.seq (.block 1 (.seq (.reg [mv 96 6,
 rr 97 (.strAt (.c (.str [110, 114, 99, 100, 109])) (.t 96)),
 mv 7 97])
 (.seq (.reg [mv 99 7,
 cl 100 99 [.t 1, .t 99],
 mv 98 100,
 rr 101 (.ext (.t 98) 0),
 rr 102 (.ext (.t 98) 1),
 mv 8 101,
 mv 9 102])
 (.seq (.reg [mv 103 8,
 rr 104 (.nilchk (.t 103)),
 rr 105 (.loadN 4 (.t 104)),
 mv 106 9,
 cl 107 145 [.t 105, .t 106],
 rr 108 (.not (.t 107)),
 mv 109 108,
 gr 110 (.mov (.t 4)) 109 false,
 gr 111 (.mov (.t 7)) 109 false,
 ⟨(some 112), .e (.call (.c (.fn (.func 143) [] [])) [.t 110, .t 111]), (some (109, false))⟩,
 gr 113 (.not (.t 112)) 109 false,
 gr 114 (.mov (.t 113)) 109 false,
 gr 115 (.mov (.t 8)) 114 true,
 gr 116 (.nilchk (.t 115)) 114 true,
 gr 117 (.loadN 4 (.t 116)) 114 true,
 gr 118 (.build [(.int .i64 0), (.int .i64 0), (.int .i64 0), (.int .i64 0)] []) 114 true,
 gr 119 (.eqA [.i .i64, .i .i64, .i .i64, .i .i64] true (.t 117) (.t 118)) 114 true,
 gr 120 (.pick (.t 114) (.t 119) (.c (.bool false))) 109 false,
 rr 121 (.pick (.t 109) (.c (.bool true)) (.t 120))])
 (.cond (.t 121) (.seq (.reg [rr 2 (.mov (.c (.bool false)))])
 (.ret))
 (.skip))))))
 (.reg [mv 94 6,
 rr 95 (.arith .add (.t 94) (ci 1)),
 mv 6 95]))))))
 (.seq (.reg [rr 2 (.mov (.c (.bool true)))])
 (.ret))))))⟩
/-- guichet/wire.Split -/
def b85 : AFunc := ⟨8, [.tmp 2],
 .seq (.reg [rr 2 (.mov (.c (.slice none (.n 0) (.exact 0))))])
 (.seq (.reg [mv 3 0,
 rr 4 (.toStr (.t 3)),
 nn 5 (.bslice (some (.int .u8)) 1 1 [(.c (.int .u8 28))]),
 rr 6 (.toStr (.t 5)),
 cl 7 148 [.t 4, .t 6],
 mv 2 7])
 (.ret))⟩
/-- (*guichet/ndc.reader).text -/
def b86 : AFunc := ⟨28, [.tmp 2],
 .seq (.reg [rr 2 (.mov (.c (.str [])))])
 (.seq (.seq (.reg [mv 4 0,
 rr 5 (.nilchk (.t 4)),
 rr 6 (.fld 0 (.t 5)),
 rr 7 (.load1 (.t 6)),
 rr 8 (.len 1 (.t 7)),
 rr 9 (.cmp .eql (.t 8) (ci 0))])
 (.cond (.t 9) (.seq (.reg [mv 10 0,
 rr 11 (.nilchk (.t 10)),
 rr 12 (.fld 1 (.t 11)),
 ff (.store1 (.t 12) (.c (.bool true)))])
 (.seq (.reg [rr 2 (.mov (.c (.str [])))])
 (.ret)))
 (.skip)))
 (.seq (.reg [mv 13 0,
 rr 14 (.nilchk (.t 13)),
 rr 15 (.fld 0 (.t 14)),
 rr 16 (.load1 (.t 15)),
 rr 17 (.idxS 1 (.t 16) (ci 0)),
 rr 18 (.load1 (.t 17)),
 mv 3 18])
 (.seq (.reg [mv 19 0,
 mv 20 0,
 rr 21 (.nilchk (.t 20)),
 rr 22 (.fld 0 (.t 21)),
 rr 23 (.load1 (.t 22)),
 rr 24 (.slcS 1 (.t 23) (some (ci 1)) none none),
 rr 25 (.nilchk (.t 19)),
 rr 26 (.fld 0 (.t 25)),
 ff (.store1 (.t 26) (.t 24))])
 (.seq (.reg [mv 27 3,
 mv 2 27])
 (.ret)))))⟩
/-- (*guichet/ndc.reader).number -/
def b87 : AFunc := ⟨36, [.tmp 4],
 .seq (.reg [rr 4 (.mov (ci 0))])
 (.seq (.reg [mv 8 0,
 cl 9 86 [.t 8],
 mv 5 9])
 (.seq (.reg [mv 11 5,
 cl 12 149 [.t 11],
 mv 10 12,
 rr 13 (.ext (.t 10) 0),
 rr 14 (.ext (.t 10) 1),
 mv 6 13,
 mv 7 14])
 (.seq (.seq (.reg [mv 15 7,
 rr 16 (.eqI true (.t 15)),
 mv 17 16,
 gr 18 (.mov (.t 6)) 17 false,
 gr 19 (.cmp .lss (.t 18) (ci 0)) 17 false,
 rr 20 (.pick (.t 17) (.c (.bool true)) (.t 19)),
 mv 21 20,
 gr 22 (.mov (.t 6)) 21 false,
 gr 23 (.mov (.t 1)) 21 false,
 gr 24 (.cmp .gtr (.t 22) (.t 23)) 21 false,
 rr 25 (.pick (.t 21) (.c (.bool true)) (.t 24)),
 mv 26 25,
 gr 27 (.mov (.t 6)) 26 false,
 ⟨(some 28), .e (.call (.c (.fn (.func 150) [] [])) [.t 27]), (some (26, false))⟩,
 gr 29 (.mov (.t 5)) 26 false,
 gr 30 (.eq1 (.s) true (.t 28) (.t 29)) 26 false,
 rr 31 (.pick (.t 26) (.c (.bool true)) (.t 30))])
 (.cond (.t 31) (.reg [mv 32 0,
 rr 33 (.nilchk (.t 32)),
 rr 34 (.fld 1 (.t 33)),
 ff (.store1 (.t 34) (.c (.bool true)))])
 (.skip)))
 (.seq (.reg [mv 35 6,
 mv 4 35])
 (.ret)))))⟩
/-- guichet/ndc.kind -/
def b88 : AFunc := ⟨12, [.tmp 2],
 .seq (.reg [rr 2 (.mov (.c (.str [])))])
 (.seq (.seq (.reg [mv 3 0,
 rr 4 (.cmp .lss (.t 3) (ci 1)),
 mv 5 4,
 gr 6 (.mov (.t 0)) 5 false,
 gr 7 (.cmp .geq (.t 6) (ci 8)) 5 false,
 rr 8 (.pick (.t 5) (.c (.bool true)) (.t 7))])
 (.cond (.t 8) (.seq (.reg [rr 2 (.mov (.c (.str [])))])
 (.ret))
 (.skip)))
 (.seq (.reg [rr 9 (.build [(.str []), (.str []), (.str []), (.str []), (.str []), (.str []), (.str []), (.str [])] [(0, (1, (.c (.str [])))), (1, (1, (.c (.str [49, 49])))), (2, (1, (.c (.str [50, 50])))), (3, (1, (.c (.str [49, 50])))), (4, (1, (.c (.str [50, 51])))), (5, (1, (.c (.str [51, 48])))), (6, (1, (.c (.str [51, 49])))), (7, (1, (.c (.str [51, 50]))))]),
 mv 10 0,
 rr 11 (.at 8 1 true (.t 9) (.t 10)),
 mv 2 11])
 (.ret)))⟩
/-- guichet/ndc.Right -/
def b90 : AFunc := ⟨77, [.tmp 2],
 .seq (.reg [nn 1 (.box (.t 0)),
 rr 2 (.mov (.c (.bool false)))])
 (.seq (.block 0 (.seq (.dreg [⟨0, rr 4 (.fld 0 (.t 1)), false, []⟩,
 ⟨1, rr 5 (.load1 (.t 4)), false, []⟩,
 ⟨2, cl 6 88 [.t 5], true, [1, 0]⟩,
 ⟨3, rr 7 (.eq1 (.s) false (.t 6) (.c (.str []))), false, []⟩,
 ⟨4, mv 8 7, false, []⟩,
 ⟨5, gr 9 (.loadN 26 (.t 1)) 8 false, false, []⟩,
 ⟨6, gr 10 (.loadN 26 (.t 1)) 8 false, false, []⟩,
 ⟨7, ⟨(some 11), .e (.call (.c (.fn (.func 151) [] [])) [.t 10]), (some (8, false))⟩, true, [6, 4, 3, 2, 1, 0]⟩,
 ⟨8, gr 12 (.eqA [.i .i64, .i .u16, .i .u32, .s, .i .i64, .i .i64, .i .i64, .i .i64, .i .i64, .i .i64, .i .i64, .i .i64, .i .i64, .i .i64, .i .i64, .i .i64, .i .i64, .i .i64, .i .i64, .i .i64, .i .i64, .i .i64, .i .i64, .i .i64, .i .i64, .i .i64] true (.t 9) (.t 11)) 8 false, false, []⟩,
 ⟨9, rr 13 (.pick (.t 8) (.c (.bool true)) (.t 12)), false, []⟩,
 ⟨10, mv 14 13, false, []⟩,
 ⟨11, gr 15 (.fld 2 (.t 1)) 14 false, false, []⟩,
 ⟨12, gr 16 (.load1 (.t 15)) 14 false, false, []⟩,
 ⟨13, gr 17 (.cmp .gtr (.t 16) (.c (.int .u32 999999))) 14 false, false, []⟩,
 ⟨14, rr 18 (.pick (.t 14) (.c (.bool true)) (.t 17)), false, []⟩,
 ⟨15, mv 19 18, false, []⟩,
 ⟨16, gr 20 (.fld 4 (.t 1)) 19 false, false, []⟩,
 ⟨17, gr 21 (.load1 (.t 20)) 19 false, false, []⟩,
 ⟨18, gr 22 (.cmp .lss (.t 21) (ci 0)) 19 false, false, []⟩,
 ⟨19, rr 23 (.pick (.t 19) (.c (.bool true)) (.t 22)), false, []⟩,
 ⟨20, mv 24 23, false, []⟩,
 ⟨21, gr 25 (.fld 4 (.t 1)) 24 false, false, []⟩,
 ⟨22, gr 26 (.load1 (.t 25)) 24 false, false, []⟩,
 ⟨23, gr 27 (.cmp .gtr (.t 26) (ci 1000000)) 24 false, false, []⟩,
 ⟨24, rr 28 (.pick (.t 24) (.c (.bool true)) (.t 27)), false, []⟩,
 ⟨25, mv 3 28, false, []⟩])
 (.cond (.t 3) (.seq (.reg [rr 2 (.mov (.c (.bool false)))])
 (.ret))
 (.seq (.reg [rr 30 (.fld 0 (.t 1)),
 rr 31 (.load1 (.t 30)),
 rr 32 (.cmp .eql (.t 31) (ci 1)),
 mv 33 32,
 gr 34 (.fld 3 (.t 1)) 33 true,
 gr 35 (.load1 (.t 34)) 33 true,
 gr 36 (.len 0 (.t 35)) 33 true,
 gr 37 (.cmp .lss (.t 36) (ci 1)) 33 true,
 gr 38 (.mov (.t 37)) 33 true,
 gr 39 (.fld 3 (.t 1)) 38 false,
 gr 40 (.load1 (.t 39)) 38 false,
 gr 41 (.len 0 (.t 40)) 38 false,
 gr 42 (.cmp .gtr (.t 41) (ci 19)) 38 false,
 gr 43 (.pick (.t 38) (.c (.bool true)) (.t 42)) 33 true,
 gr 44 (.mov (.t 43)) 33 true,
 gr 45 (.fld 3 (.t 1)) 44 false,
 gr 46 (.load1 (.t 45)) 44 false,
 ⟨(some 47), .e (.call (.c (.fn (.func 132) [] [])) [.t 46]), (some (44, false))⟩,
 gr 48 (.not (.t 47)) 44 false,
 gr 49 (.pick (.t 44) (.c (.bool true)) (.t 48)) 33 true,
 rr 50 (.pick (.t 33) (.t 49) (.c (.bool false))),
 mv 29 50])
 (.cond (.t 29) (.seq (.reg [rr 2 (.mov (.c (.bool false)))])
 (.ret))
 (.skip))))))
 (.seq (.reg [rr 51 (.fld 5 (.t 1)),
 rr 52 (.loadN 4 (.t 51)),
 rr 53 (.fld 9 (.t 1)),
 rr 54 (.loadN 4 (.t 53)),
 rr 55 (.fld 22 (.t 1)),
 rr 56 (.loadN 4 (.t 55)),
 nn 57 (.bslice (some .notes) 4 3 [.t 52, .t 54, .t 56]),
 cl 58 152 [(ci 10000), .t 57],
 mv 59 58,
 gr 60 (.fld 13 (.t 1)) 59 true,
 gr 61 (.loadN 4 (.t 60)) 59 true,
 gr 62 (.fld 17 (.t 1)) 59 true,
 gr 63 (.loadN 4 (.t 62)) 59 true,
 ⟨(some 64), .n (.bslice (some .notes) 4 2 [.t 61, .t 63]), (some (59, true))⟩,
 ⟨(some 65), .e (.call (.c (.fn (.func 152) [] [])) [(ci 2147483647), .t 64]), (some (59, true))⟩,
 rr 66 (.pick (.t 59) (.t 65) (.c (.bool false))),
 mv 67 66,
 gr 68 (.fld 21 (.t 1)) 67 true,
 gr 69 (.load1 (.t 68)) 67 true,
 gr 70 (.cmp .geq (.t 69) (ci 0)) 67 true,
 rr 71 (.pick (.t 67) (.t 70) (.c (.bool false))),
 mv 72 71,
 gr 73 (.fld 21 (.t 1)) 72 true,
 gr 74 (.load1 (.t 73)) 72 true,
 gr 75 (.cmp .leq (.t 74) (ci 1000000)) 72 true,
 rr 76 (.pick (.t 72) (.t 75) (.c (.bool false))),
 mv 2 76])
 (.ret)))⟩
/-- (*guichet/core.Switch).request -/
def b91 : AFunc := ⟨129, [.tmp 4],
 .seq (.reg [nn 3 (.box (.t 1)),
 rr 4 (.mov (.c (.bool false)))])
 (.seq (.reg [rr 15 (.fld 1 (.t 3)),
 rr 16 (.load1 (.t 15)),
 rr 17 (.fld 2 (.t 3)),
 rr 18 (.load1 (.t 17)),
 rr 19 (.build [(.int .u16 0), (.int .u32 0)] [(0, (1, (.t 16))), (1, (1, (.t 18)))]),
 nn 5 (.zbox [(.int .u16 0), (.int .u32 0)]),
 ff (.storeN 2 (.t 5) (.t 19))])
 (.seq (.seq (.reg [mv 20 0,
 rr 21 (.nilchk (.t 20)),
 rr 22 (.fld 7 (.t 21)),
 rr 23 (.load1 (.t 22)),
 cl 24 33 [.t 23],
 rr 25 (.len 1 (.t 24)),
 rr 26 (.mov (ci 0))])
 (.block 0 (.loop [] (.seq (.reg [rr 27 (.cmp .lss (.t 26) (.t 25))])
 (.seq (.cond (.t 27) (.skip)
 (.exit 0))
 (.seq (.block 1 (.seq (.reg [rr 28 (.idxS 11 (.t 24) (.t 26)),
 rr 29 (.loadN 11 (.t 28)),
 nn 7 (.zbox [(.int .u16 0), (.int .u32 0), (.str []), (.int .i64 0), (.int .i64 0), (.int .i64 0), (.int .i64 0), (.int .i64 0), (.int .i64 0), (.int .i64 0), (.int .i64 0)]),
 ff (.storeN 11 (.t 7) (.t 29))])
 (.seq (.reg [rr 30 (.fld 0 (.t 7)),
 rr 31 (.fld 0 (.t 30)),
 rr 32 (.load1 (.t 31)),
 rr 33 (.fld 0 (.t 5)),
 rr 34 (.load1 (.t 33)),
 rr 35 (.cmp .eql (.t 32) (.t 34)),
 mv 36 35,
 gr 37 (.fld 0 (.t 7)) 36 true,
 gr 38 (.fld 1 (.t 37)) 36 true,
 gr 39 (.load1 (.t 38)) 36 true,
 gr 40 (.fld 1 (.t 5)) 36 true,
 gr 41 (.load1 (.t 40)) 36 true,
 gr 42 (.cmp .geq (.t 39) (.t 41)) 36 true,
 rr 43 (.pick (.t 36) (.t 42) (.c (.bool false)))])
 (.cond (.t 43) (.seq (.reg [rr 4 (.mov (.c (.bool false)))])
 (.ret))
 (.skip)))))
 (.reg [rr 44 (.arith .add (.t 26) (ci 1)),
 mv 26 44])))))))
 (.seq (.dreg [⟨0, mv 46 0, false, []⟩,
 ⟨1, rr 47 (.nilchk (.t 46)), false, []⟩,
 ⟨2, rr 48 (.fld 7 (.t 47)), false, []⟩,
 ⟨3, rr 49 (.load1 (.t 48)), false, []⟩,
 ⟨4, rr 50 (.fld 0 (.t 5)), false, []⟩,
 ⟨5, rr 51 (.load1 (.t 50)), false, []⟩,
 ⟨10, nn 8 (.zbox [(.int .i64 0), (.int .i64 0), (.int .i64 0), (.int .i64 0), (.int .i64 0), (.int .i64 0), (.int .i64 0), (.int .i64 0), (.int .i64 0), (.int .i64 0), (.int .i64 0), (.int .i64 0), (.int .i64 0), (.int .i64 0), (.int .i64 0), (.int .i64 0)]), false, []⟩,
 ⟨6, cl 52 19 [.t 49, .t 51], true, [5, 4, 3, 2, 1, 0]⟩,
 ⟨7, mv 45 52, false, []⟩,
 ⟨8, rr 53 (.ext (.t 45) 0), false, []⟩,
 ⟨9, rr 54 (.ext (.t 45) 1), false, []⟩,
 ⟨11, ff (.storeN 16 (.t 8) (.t 53)), true, [10, 8, 7, 6, 5, 4, 3, 2, 1, 0]⟩,
 ⟨12, mv 9 54, false, []⟩])
 (.seq (.reg [rr 56 (.loadN 16 (.t 8)),
 rr 57 (.fld 4 (.t 3)),
 rr 58 (.load1 (.t 57)),
 cl 59 153 [.t 56, .t 58],
 mv 55 59,
 rr 60 (.ext (.t 55) 0),
 rr 61 (.ext (.t 55) 1),
 nn 10 (.zbox [(.int .i64 0), (.int .i64 0), (.int .i64 0), (.int .i64 0)]),
 ff (.storeN 4 (.t 10) (.t 60)),
 mv 11 61])
 (.seq (.seq (.reg [rr 62 (.fld 1 (.t 5)),
 rr 63 (.load1 (.t 62)),
 rr 64 (.cmp .eql (.t 63) (.c (.int .u32 0)))])
 (.cond (.t 64) (.seq (.reg [rr 4 (.mov (.c (.bool false)))])
 (.ret))
 (.skip)))
 (.seq (.seq (.dreg [⟨0, mv 65 0, false, []⟩,
 ⟨1, rr 66 (.nilchk (.t 65)), false, []⟩,
 ⟨2, rr 67 (.fld 7 (.t 66)), false, []⟩,
 ⟨3, rr 68 (.load1 (.t 67)), false, []⟩,
 ⟨4, rr 69 (.fld 0 (.t 5)), false, []⟩,
 ⟨5, rr 70 (.load1 (.t 69)), false, []⟩,
 ⟨6, cl 71 20 [.t 68, .t 70], true, [5, 4, 3, 2, 1, 0]⟩,
 ⟨7, mv 72 71, false, []⟩,
 ⟨8, gr 73 (.mov (.t 0)) 72 false, false, []⟩,
 ⟨9, gr 74 (.nilchk (.t 73)) 72 false, false, []⟩,
 ⟨10, gr 75 (.fld 7 (.t 74)) 72 false, false, []⟩,
 ⟨11, gr 76 (.load1 (.t 75)) 72 false, false, []⟩,
 ⟨12, gr 77 (.fld 0 (.t 5)) 72 false, false, []⟩,
 ⟨13, gr 78 (.load1 (.t 77)) 72 false, false, []⟩,
 ⟨14, ⟨(some 79), .e (.call (.c (.fn (.func 154) [] [])) [.t 76, .t 78]), (some (72, false))⟩, true, [13, 12, 11, 10, 9, 8, 7, 6, 5, 4, 3, 2, 1, 0]⟩,
 ⟨15, gr 80 (.len 1 (.t 79)) 72 false, false, []⟩,
 ⟨16, gr 81 (.cmp .gtr (.t 80) (ci 0)) 72 false, false, []⟩,
 ⟨17, rr 82 (.pick (.t 72) (.c (.bool true)) (.t 81)), false, []⟩,
 ⟨18, mv 83 82, false, []⟩,
 ⟨19, gr 84 (.mov (.t 0)) 83 false, false, []⟩,
 ⟨20, gr 85 (.nilchk (.t 84)) 83 false, false, []⟩,
 ⟨21, gr 86 (.fld 0 (.t 85)) 83 false, false, []⟩,
 ⟨22, gr 87 (.loadN 5 (.t 86)) 83 false, false, []⟩,
 ⟨23, gr 88 (.fld 4 (.t 3)) 83 false, false, []⟩,
 ⟨24, gr 89 (.load1 (.t 88)) 83 false, false, []⟩,
 ⟨25, ⟨(some 90), .e (.call (.c (.fn (.func 155) [] [])) [.t 87, .t 89]), (some (83, false))⟩, true, [24, 23, 22, 21, 20, 19, 18, 17, 16, 15, 14, 13, 12, 11, 10, 9, 8, 7, 6, 5, 4, 3, 2, 1, 0]⟩,
 ⟨26, gr 91 (.cmp .neq (.t 90) (ci 0)) 83 false, false, []⟩,
 ⟨27, rr 92 (.pick (.t 83) (.c (.bool true)) (.t 91)), false, []⟩,
 ⟨28, mv 93 92, false, []⟩,
 ⟨29, gr 94 (.mov (.t 11)) 93 false, false, []⟩,
 ⟨30, gr 95 (.cmp .neq (.t 94) (ci 0)) 93 false, false, []⟩,
 ⟨31, rr 96 (.pick (.t 93) (.c (.bool true)) (.t 95)), false, []⟩])
 (.cond (.t 96) (.seq (.reg [mv 97 0,
 rr 98 (.loadN 2 (.t 5)),
 cl 99 108 [.t 97, .t 98]])
 (.seq (.reg [rr 4 (.mov (.c (.bool true)))])
 (.ret)))
 (.skip)))
 (.seq (.reg [rr 100 (.loadN 2 (.t 5)),
 cl 101 107 [(ci 1), .t 100],
 nn 12 (.zbox [(.int .i64 0), (.int .u16 0), (.int .u32 0), (.str []), (.int .i64 0), (.int .i64 0), (.int .i64 0), (.int .i64 0), (.int .i64 0), (.int .i64 0), (.int .i64 0), (.int .i64 0), (.int .i64 0), (.int .i64 0), (.int .i64 0), (.int .i64 0), (.int .i64 0)]),
 ff (.storeN 17 (.t 12) (.t 101))])
 (.seq (.dreg [⟨0, rr 102 (.fld 3 (.t 3)), false, []⟩,
 ⟨1, rr 103 (.load1 (.t 102)), false, []⟩,
 ⟨2, rr 104 (.fld 4 (.t 3)), false, []⟩,
 ⟨3, rr 105 (.load1 (.t 104)), false, []⟩,
 ⟨4, rr 106 (.fld 3 (.t 12)), false, []⟩,
 ⟨5, ff (.store1 (.t 106) (.t 103)), true, [4, 1, 0]⟩,
 ⟨6, rr 107 (.fld 4 (.t 12)), false, []⟩,
 ⟨7, ff (.store1 (.t 107) (.t 105)), true, [6, 5, 4, 3, 2, 1, 0]⟩])
 (.seq (.seq (.reg [mv 108 0,
 rr 109 (.loadN 17 (.t 12)),
 nn 110 (.bslice (some .rcd) 17 1 [.t 109]),
 cl 111 106 [.t 108, .t 110]])
 (.cond (.t 111) (.seq (.dreg [⟨0, mv 112 0, false, []⟩,
 ⟨1, rr 113 (.nilchk (.t 112)), false, []⟩,
 ⟨2, rr 114 (.fld 10 (.t 113)), false, []⟩,
 ⟨3, rr 115 (.load1 (.t 114)), false, []⟩,
 ⟨4, rr 116 (.loadN 2 (.t 5)), false, []⟩,
 ⟨5, ff (.upd .key (.int .i64) (.t 115) (.t 116) (ci 0)), true, [4, 3, 2, 1, 0]⟩])
 (.seq (.reg [rr 118 (.loadN 2 (.t 5)),
 rr 119 (.fld 3 (.t 3)),
 rr 120 (.load1 (.t 119)),
 rr 121 (.fld 4 (.t 3)),
 rr 122 (.load1 (.t 121)),
 cl 123 156 [.t 118, .t 120, .t 122],
 mv 117 123,
 rr 124 (.ext (.t 117) 0),
 rr 125 (.ext (.t 117) 1),
 mv 13 124,
 mv 14 125])
 (.reg [mv 126 0,
 mv 127 13,
 cl 128 97 [.t 126, (ci (-1)), .t 127]])))
 (.skip)))
 (.seq (.reg [rr 4 (.mov (.c (.bool true)))])
 (.ret)))))))))))⟩
/-- (*guichet/core.Switch).ask -/
def b94 : AFunc := ⟨19, [],
 .seq (.reg [mv 7 0,
 mv 8 1,
 cl 9 158 [.t 7, .t 8],
 mv 6 9,
 rr 10 (.ext (.t 6) 0),
 rr 11 (.ext (.t 6) 1),
 nn 4 (.zbox [(.int .u16 0), (.int .u32 0), (.str []), (.int .i64 0), (.int .i64 0), (.int .i64 0), (.int .i64 0), (.int .i64 0), (.int .i64 0), (.int .i64 0), (.int .i64 0)]),
 ff (.storeN 11 (.t 4) (.t 10)),
 mv 5 11])
 (.reg [mv 12 0,
 mv 13 1,
 rr 14 (.fld 0 (.t 4)),
 rr 15 (.fld 1 (.t 14)),
 rr 16 (.load1 (.t 15)),
 rr 17 (.build [(.int .i64 0), (.int .u16 0), (.int .u32 0), (.str []), (.int .i64 0), (.int .i64 0), (.int .i64 0), (.int .i64 0), (.int .i64 0), (.int .i64 0), (.int .i64 0), (.int .i64 0), (.int .i64 0), (.int .i64 0), (.int .i64 0), (.int .i64 0), (.int .i64 0), (.int .i64 0), (.int .i64 0), (.int .i64 0), (.int .i64 0), (.int .i64 0), (.int .i64 0), (.int .i64 0), (.int .i64 0), (.int .i64 0)] [(0, (1, (ci 7))), (1, (1, (.t 13))), (2, (1, (.t 16)))]),
 cl 18 162 [.t 12, .t 17]])⟩
/-- (*guichet/saf.Queue).Out -/
def b95 : AFunc := ⟨32, [.tmp 2],
 .seq (.reg [rr 2 (.mov (.c (.slice none (.n 0) (.exact 0))))])
 (.seq (.reg [rr 3 (.mov (.c (.slice none (.n 0) (.exact 0))))])
 (.seq (.seq (.reg [mv 6 0,
 rr 7 (.nilchk (.t 6)),
 rr 8 (.fld 0 (.t 7)),
 rr 9 (.load1 (.t 8)),
 rr 10 (.len 1 (.t 9)),
 rr 11 (.mov (ci 0))])
 (.block 0 (.loop [] (.seq (.reg [rr 12 (.cmp .lss (.t 11) (.t 10))])
 (.seq (.cond (.t 12) (.skip)
 (.exit 0))
 (.seq (.block 1 (.seq (.reg [mv 13 11,
 rr 14 (.idxS 4 (.t 9) (.t 11)),
 rr 15 (.loadN 4 (.t 14)),
 nn 5 (.zbox [(.int .u16 0), (.int .u32 0), (.int .i64 0), (.bool false)]),
 mv 4 13,
 ff (.storeN 4 (.t 5) (.t 15))])
 (.seq (.reg [rr 16 (.fld 3 (.t 5)),
 rr 17 (.load1 (.t 16))])
 (.cond (.t 17) (.seq (.reg [mv 18 3,
 rr 19 (.fld 0 (.t 5)),
 rr 20 (.loadN 3 (.t 19)),
 nn 21 (.bslice (some .item) 3 1 [.t 20]),
 ee 22 (.append .item (.t 18) (.t 21)),
 mv 3 22])
 (.reg [mv 23 0,
 rr 24 (.nilchk (.t 23)),
 rr 25 (.fld 0 (.t 24)),
 rr 26 (.load1 (.t 25)),
 mv 27 4,
 rr 28 (.idxS 4 (.t 26) (.t 27)),
 rr 29 (.fld 3 (.t 28)),
 ff (.store1 (.t 29) (.c (.bool false)))]))
 (.skip)))))
 (.reg [rr 30 (.arith .add (.t 11) (ci 1)),
 mv 11 30])))))))
 (.seq (.reg [mv 31 3,
 mv 2 31])
 (.ret))))⟩
/-- (*guichet/core.Switch).say -/
def b97 : AFunc := ⟨23, [],
 .seq (.reg [mv 6 0,
 rr 7 (.nilchk (.t 6)),
 rr 8 (.fld 12 (.t 7)),
 rr 9 (.load1 (.t 8)),
 rr 10 (.not (.t 9))])
 (.cond (.t 10) (.reg [mv 11 0,
 mv 12 0,
 rr 13 (.nilchk (.t 12)),
 rr 14 (.fld 11 (.t 13)),
 rr 15 (.load1 (.t 14)),
 mv 16 1,
 mv 17 2,
 rr 18 (.build [(.int .i64 0), (.slice none (.n 0) (.exact 0))] [(0, (1, (.t 16))), (1, (1, (.t 17)))]),
 nn 19 (.bslice none 2 1 [.t 18]),
 ee 20 (.append .out (.t 15) (.t 19)),
 rr 21 (.nilchk (.t 11)),
 rr 22 (.fld 11 (.t 21)),
 ff (.store1 (.t 22) (.t 20))])
 (.skip))⟩
/-- guichet/guichetref1.Dec -/
def b98 : AFunc := ⟨43, [.tmp 2],
 .seq (.reg [rr 2 (.mov (.c (.str [])))])
 (.seq (.seq (.reg [mv 4 0,
 rr 5 (.cmp .lss (.t 4) (ci 0))])
 (.cond (.t 5) (.seq (.reg [mv 6 0,
 cl 7 167 [.t 6],
 mv 3 7])
 (.seq (.seq (.reg [mv 8 3,
 rr 9 (.cmp .lss (.t 8) (.c (.int .u64 10)))])
 (.cond (.t 9) (.seq (.reg [mv 10 3,
 mv 11 3,
 rr 12 (.arith .add (.t 11) (.c (.int .u64 1))),
 rr 13 (.slcStr (.c (.str [48, 49, 50, 51, 52, 53, 54, 55, 56, 57])) (some (.t 10)) (some (.t 12))),
 rr 14 (.arith .add (.c (.str [45])) (.t 13)),
 mv 2 14])
 (.ret))
 (.skip)))
 (.seq (.dreg [⟨0, mv 15 3, false, []⟩,
 ⟨1, rr 16 (.arith .quo (.t 15) (.c (.int .u64 10))), false, []⟩,
 ⟨2, rr 17 (.toInt .i64 (.t 16)), false, []⟩,
 ⟨5, mv 20 3, false, []⟩,
 ⟨6, rr 21 (.arith .rem (.t 20) (.c (.int .u64 10))), false, []⟩,
 ⟨7, mv 22 3, false, []⟩,
 ⟨8, rr 23 (.arith .rem (.t 22) (.c (.int .u64 10))), false, []⟩,
 ⟨9, rr 24 (.arith .add (.t 23) (.c (.int .u64 1))), false, []⟩,
 ⟨10, rr 25 (.slcStr (.c (.str [48, 49, 50, 51, 52, 53, 54, 55, 56, 57])) (some (.t 21)) (some (.t 24))), false, []⟩,
 ⟨3, cl 18 98 [.t 17], true, [2, 1, 0]⟩,
 ⟨4, rr 19 (.arith .add (.c (.str [45])) (.t 18)), false, []⟩,
 ⟨11, rr 26 (.arith .add (.t 19) (.t 25)), false, []⟩,
 ⟨12, mv 2 26, false, []⟩])
 (.ret))))
 (.skip)))
 (.seq (.seq (.reg [mv 27 0,
 rr 28 (.cmp .lss (.t 27) (ci 10))])
 (.cond (.t 28) (.seq (.reg [mv 29 0,
 mv 30 0,
 rr 31 (.arith .add (.t 30) (ci 1)),
 rr 32 (.slcStr (.c (.str [48, 49, 50, 51, 52, 53, 54, 55, 56, 57])) (some (.t 29)) (some (.t 31))),
 mv 2 32])
 (.ret))
 (.skip)))
 (.seq (.dreg [⟨0, mv 33 0, false, []⟩,
 ⟨1, rr 34 (.arith .quo (.t 33) (ci 10)), false, []⟩,
 ⟨3, mv 36 0, false, []⟩,
 ⟨4, rr 37 (.arith .rem (.t 36) (ci 10)), false, []⟩,
 ⟨5, mv 38 0, false, []⟩,
 ⟨6, rr 39 (.arith .rem (.t 38) (ci 10)), false, []⟩,
 ⟨7, rr 40 (.arith .add (.t 39) (ci 1)), false, []⟩,
 ⟨8, rr 41 (.slcStr (.c (.str [48, 49, 50, 51, 52, 53, 54, 55, 56, 57])) (some (.t 37)) (some (.t 40))), false, []⟩,
 ⟨2, cl 35 98 [.t 34], true, [1, 0]⟩,
 ⟨9, rr 42 (.arith .add (.t 35) (.t 41)), false, []⟩,
 ⟨10, mv 2 42, false, []⟩])
 (.ret))))⟩
/-- guichet/guichetref12.notes -/
def b99 : AFunc := ⟨30, [.tmp 4, .tmp 5],
 .seq (.reg [rr 4 (.mov (.c (.ptr none))),
 rr 5 (.mov (ci 0))])
 (.seq (.seq (.reg [mv 6 1])
 (.block 0 (.seq (.reg [rr 8 (.cmp .eql (.t 6) (.c (.int .u8 110))),
 mv 7 8])
 (.cond (.t 7) (.seq (.reg [mv 9 0,
 rr 10 (.nilchk (.t 9)),
 rr 11 (.fld 5 (.t 10)),
 mv 4 11,
 rr 5 (.mov (ci 10000))])
 (.ret))
 (.seq (.reg [rr 13 (.cmp .eql (.t 6) (.c (.int .u8 114))),
 mv 12 13])
 (.cond (.t 12) (.seq (.reg [mv 14 0,
 rr 15 (.nilchk (.t 14)),
 rr 16 (.fld 9 (.t 15)),
 mv 4 16,
 rr 5 (.mov (ci 10000))])
 (.ret))
 (.seq (.reg [rr 18 (.cmp .eql (.t 6) (.c (.int .u8 99))),
 mv 17 18])
 (.cond (.t 17) (.seq (.reg [mv 19 0,
 rr 20 (.nilchk (.t 19)),
 rr 21 (.fld 13 (.t 20)),
 mv 4 21,
 rr 5 (.mov (ci 2147483647))])
 (.ret))
 (.seq (.reg [rr 23 (.cmp .eql (.t 6) (.c (.int .u8 100))),
 mv 22 23])
 (.cond (.t 22) (.seq (.reg [mv 24 0,
 rr 25 (.nilchk (.t 24)),
 rr 26 (.fld 17 (.t 25)),
 mv 4 26,
 rr 5 (.mov (ci 2147483647))])
 (.ret))
 (.skip)))))))))))
 (.seq (.reg [mv 27 0,
 rr 28 (.nilchk (.t 27)),
 rr 29 (.fld 22 (.t 28)),
 mv 4 29,
 rr 5 (.mov (ci 10000))])
 (.ret)))⟩
/-- guichet/guichetref1.Join -/
def b100 : AFunc := ⟨44, [.tmp 2, .tmp 3],
 .seq (.reg [rr 2 (.mov (.c (.slice none (.n 0) (.exact 0)))),
 rr 3 (.mov (.c (.bool false)))])
 (.seq (.seq (.reg [mv 7 0,
 rr 8 (.len 1 (.t 7)),
 rr 9 (.cmp .eql (.t 8) (ci 0))])
 (.cond (.t 9) (.seq (.reg [rr 2 (.mov (.c (.slice none (.n 0) (.exact 0)))),
 rr 3 (.mov (.c (.bool false)))])
 (.ret))
 (.skip)))
 (.seq (.reg [rr 4 (.mov (.c (.slice none (.n 0) (.exact 0))))])
 (.seq (.seq (.reg [rr 5 (.mov (ci 0))])
 (.block 0 (.loop [] (.seq (.seq (.reg [mv 10 5,
 mv 11 0,
 rr 12 (.len 1 (.t 11)),
 rr 13 (.cmp .lss (.t 10) (.t 12))])
 (.cond (.t 13) (.skip)
 (.exit 0)))
 (.seq (.block 1 (.seq (.seq (.reg [mv 16 5,
 rr 17 (.cmp .gtr (.t 16) (ci 0))])
 (.cond (.t 17) (.reg [mv 18 4,
 nn 19 (.bslice (some (.int .u8)) 1 1 [(.c (.int .u8 28))]),
 ee 20 (.append (.int .u8) (.t 18) (.t 19)),
 mv 4 20])
 (.skip)))
 (.seq (.seq (.reg [rr 6 (.mov (ci 0))])
 (.block 2 (.loop [] (.seq (.seq (.reg [mv 21 6,
 mv 22 0,
 mv 23 5,
 rr 24 (.idxS 1 (.t 22) (.t 23)),
 rr 25 (.load1 (.t 24)),
 rr 26 (.len 0 (.t 25)),
 rr 27 (.cmp .lss (.t 21) (.t 26))])
 (.cond (.t 27) (.skip)
 (.exit 2)))
 (.seq (.block 3 (.seq (.reg [mv 30 0,
 mv 31 5,
 rr 32 (.idxS 1 (.t 30) (.t 31)),
 rr 33 (.load1 (.t 32)),
 mv 34 6,
 rr 35 (.strAt (.t 33) (.t 34)),
 rr 36 (.cmp .eql (.t 35) (.c (.int .u8 28)))])
 (.cond (.t 36) (.seq (.reg [rr 2 (.mov (.c (.slice none (.n 0) (.exact 0)))),
 rr 3 (.mov (.c (.bool false)))])
 (.ret))
 (.skip))))
 (.reg [mv 28 6,
 rr 29 (.arith .add (.t 28) (ci 1)),
 mv 6 29]))))))
 (.reg [mv 37 4,
 mv 38 0,
 mv 39 5,
 rr 40 (.idxS 1 (.t 38) (.t 39)),
 rr 41 (.load1 (.t 40)),
 ee 42 (.append (.int .u8) (.t 37) (.t 41)),
 mv 4 42]))))
 (.reg [mv 14 5,
 rr 15 (.arith .add (.t 14) (ci 1)),
 mv 5 15]))))))
 (.seq (.reg [mv 43 4,
 mv 2 43,
 rr 3 (.mov (.c (.bool true)))])
 (.ret)))))⟩
/-- slices.Clone[[]guichet/book.terminal,guichet/book.terminal] -/
def b101 : AFunc := ⟨8, [.tmp 2],
 .seq (.reg [rr 2 (.mov (.c (.slice none (.n 0) (.exact 0))))])
 (.seq (.seq (.reg [mv 3 0,
 rr 4 (.eqN false (.t 3))])
 (.cond (.t 4) (.seq (.reg [rr 2 (.mov (.c (.slice none (.n 0) (.exact 0))))])
 (.ret))
 (.skip)))
 (.seq (.reg [nn 5 (.bslice (some .terml) 18 0 []),
 mv 6 0,
 ee 7 (.append .terml (.t 5) (.t 6)),
 mv 2 7])
 (.ret)))⟩
/-- maps.Clone[map[guichet/api.Key]guichet/api.Txn,guichet/api.Key,guichet/api.Txn] -/
def b102 : AFunc := ⟨9, [.tmp 2],
 .seq (.reg [rr 2 (.mov (.c (.map none)))])
 (.seq (.seq (.reg [mv 3 0,
 rr 4 (.eqM false (.t 3))])
 (.cond (.t 4) (.seq (.reg [rr 2 (.mov (.c (.map none)))])
 (.ret))
 (.skip)))
 (.seq (.reg [mv 5 0,
 rr 6 (.ifc 116 (.t 5)),
 cl 7 168 [.t 6],
 rr 8 (.asrt 116 (.t 7)),
 mv 2 8])
 (.ret)))⟩
/-- guichet/host.read -/
def b103 : AFunc := ⟨42, [.cellN 2 7, .tmp 3],
 .seq (.reg [nn 2 (.zbox [(.int .i64 0), (.int .u16 0), (.int .u32 0), (.str []), (.int .i64 0), (.int .i64 0), (.str [])]),
 rr 3 (.mov (.c (.bool false)))])
 (.seq (.reg [mv 8 0,
 cl 9 169 [.t 8],
 mv 7 9,
 rr 10 (.ext (.t 7) 0),
 rr 11 (.ext (.t 7) 1),
 nn 4 (.zbox [(.int .i64 0), (.slice none (.n 0) (.exact 0))]),
 ff (.storeN 2 (.t 4) (.t 10)),
 mv 5 11])
 (.seq (.seq (.reg [mv 12 5,
 rr 13 (.cmp .neq (.t 12) (ci 0))])
 (.cond (.t 13) (.seq (.reg [rr 14 (.build [(.int .i64 0), (.int .u16 0), (.int .u32 0), (.str []), (.int .i64 0), (.int .i64 0), (.str [])] []),
 ff (.storeN 7 (.t 2) (.t 14)),
 rr 3 (.mov (.c (.bool false)))])
 (.ret))
 (.skip)))
 (.seq (.dreg [⟨0, rr 15 (.fld 0 (.t 4)), false, []⟩,
 ⟨1, rr 16 (.load1 (.t 15)), false, []⟩,
 ⟨2, rr 17 (.loadN 2 (.t 4)), false, []⟩,
 ⟨5, rr 20 (.loadN 2 (.t 4)), false, []⟩,
 ⟨9, rr 24 (.loadN 2 (.t 4)), false, []⟩,
 ⟨11, rr 26 (.loadN 2 (.t 4)), false, []⟩,
 ⟨14, nn 6 (.zbox [(.int .i64 0), (.int .u16 0), (.int .u32 0), (.str []), (.int .i64 0), (.int .i64 0), (.str [])]), false, []⟩,
 ⟨3, cl 18 170 [.t 17, (ci 41), (ci 1), (ci 8)], true, [2]⟩,
 ⟨4, rr 19 (.toInt .u16 (.t 18)), false, []⟩,
 ⟨6, cl 21 170 [.t 20, (ci 11), (ci 0), (ci 6)], true, [5, 3, 2]⟩,
 ⟨7, rr 22 (.toInt .u32 (.t 21)), false, []⟩,
 ⟨8, rr 23 (.build [(.int .u16 0), (.int .u32 0)] [(0, (1, (.t 19))), (1, (1, (.t 22)))]), false, []⟩,
 ⟨10, cl 25 170 [.t 24, (ci 4), (ci 0), (ci 12)], true, [9, 6, 5, 3, 2]⟩,
 ⟨12, cl 27 170 [.t 26, (ci 95), (ci 0), (ci 12)], true, [11, 10, 9, 6, 5, 3, 2]⟩,
 ⟨13, rr 28 (.build [(.int .i64 0), (.int .u16 0), (.int .u32 0), (.str []), (.int .i64 0), (.int .i64 0), (.str [])] [(0, (1, (.t 16))), (1, (2, (.t 23))), (4, (1, (.t 25))), (5, (1, (.t 27)))]), false, []⟩,
 ⟨15, ff (.storeN 7 (.t 6) (.t 28)), true, [14, 13, 12, 11, 10, 9, 8, 7, 6, 5, 4, 3, 2, 1, 0]⟩])
 (.seq (.reg [rr 30 (.loadN 2 (.t 4)),
 cl 31 171 [.t 30, (ci 2)],
 mv 29 31,
 rr 32 (.ext (.t 29) 0),
 rr 33 (.ext (.t 29) 1),
 rr 34 (.fld 3 (.t 6)),
 ff (.store1 (.t 34) (.t 32))])
 (.seq (.reg [rr 36 (.loadN 2 (.t 4)),
 cl 37 171 [.t 36, (ci 39)],
 mv 35 37,
 rr 38 (.ext (.t 35) 0),
 rr 39 (.ext (.t 35) 1),
 rr 40 (.fld 6 (.t 6)),
 ff (.store1 (.t 40) (.t 38))])
 (.seq (.reg [rr 41 (.loadN 7 (.t 6)),
 ff (.storeN 7 (.t 2) (.t 41)),
 rr 3 (.mov (.c (.bool true)))])
 (.ret)))))))⟩
/-- guichet/host.whole -/
def b104 : AFunc := ⟨48, [.tmp 2],
 .seq (.reg [nn 1 (.box (.t 0)),
 rr 2 (.mov (.c (.slice none (.n 0) (.exact 0))))])
 (.seq (.reg [rr 3 (.mov (.c (.slice none (.n 0) (.exact 0))))])
 (.seq (.seq (.reg [rr 4 (.fld 0 (.t 1)),
 rr 5 (.load1 (.t 4))])
 (.block 0 (.seq (.reg [rr 7 (.cmp .eql (.t 5) (ci 200)),
 mv 6 7])
 (.cond (.t 6) (.reg [rr 9 (.fld 1 (.t 1)),
 rr 10 (.loadN 2 (.t 9)),
 rr 11 (.fld 3 (.t 1)),
 rr 12 (.load1 (.t 11)),
 rr 13 (.fld 4 (.t 1)),
 rr 14 (.load1 (.t 13)),
 cl 15 156 [.t 10, .t 12, .t 14],
 mv 8 15,
 rr 16 (.ext (.t 8) 0),
 rr 17 (.ext (.t 8) 1),
 mv 3 16])
 (.seq (.reg [rr 19 (.cmp .eql (.t 5) (ci 420)),
 mv 18 19])
 (.cond (.t 18) (.reg [rr 21 (.fld 1 (.t 1)),
 rr 22 (.loadN 2 (.t 21)),
 rr 23 (.fld 3 (.t 1)),
 rr 24 (.load1 (.t 23)),
 rr 25 (.fld 4 (.t 1)),
 rr 26 (.load1 (.t 25)),
 rr 27 (.fld 5 (.t 1)),
 rr 28 (.load1 (.t 27)),
 cl 29 96 [.t 22, .t 24, .t 26, .t 28],
 mv 20 29,
 rr 30 (.ext (.t 20) 0),
 rr 31 (.ext (.t 20) 1),
 mv 3 30])
 (.seq (.reg [rr 33 (.cmp .eql (.t 5) (ci 800)),
 mv 32 33])
 (.cond (.t 32) (.reg [rr 34 (.fld 1 (.t 1)),
 rr 35 (.fld 1 (.t 34)),
 rr 36 (.load1 (.t 35)),
 cl 37 172 [.t 36],
 mv 3 37])
 (.seq (.seq (.reg [rr 39 (.cmp .eql (.t 5) (ci 210)),
 mv 38 39])
 (.cond (.t 38) (.skip)
 (.seq (.reg [rr 40 (.cmp .eql (.t 5) (ci 430)),
 mv 38 40])
 (.cond (.t 38) (.skip)
 (.reg [rr 41 (.cmp .eql (.t 5) (ci 810)),
 mv 38 41])))))
 (.cond (.t 38) (.reg [rr 43 (.loadN 7 (.t 1)),
 cl 44 173 [.t 43],
 mv 42 44,
 rr 45 (.ext (.t 42) 0),
 rr 46 (.ext (.t 42) 1),
 mv 3 45])
 (.skip)))))))))))
 (.seq (.reg [mv 47 3,
 mv 2 47])
 (.ret))))⟩
end Go.Sx

/- The program's functions, as the evaluator runs them: part 1. -/
set_option maxRecDepth 100000
namespace Go.Sx
/-- (*guichet/core.Switch).approve -/
def b105 : AFunc := ⟨62, [],
 .seq (.reg [nn 3 (.box (.t 1))])
 (.seq (.dreg [⟨0, mv 10 0, false, []⟩,
 ⟨1, rr 11 (.nilchk (.t 10)), false, []⟩,
 ⟨2, rr 12 (.fld 7 (.t 11)), false, []⟩,
 ⟨3, rr 13 (.load1 (.t 12)), false, []⟩,
 ⟨4, rr 14 (.fld 0 (.t 3)), false, []⟩,
 ⟨5, rr 15 (.fld 0 (.t 14)), false, []⟩,
 ⟨6, rr 16 (.load1 (.t 15)), false, []⟩,
 ⟨11, nn 4 (.zbox [(.int .i64 0), (.int .i64 0), (.int .i64 0), (.int .i64 0), (.int .i64 0), (.int .i64 0), (.int .i64 0), (.int .i64 0), (.int .i64 0), (.int .i64 0), (.int .i64 0), (.int .i64 0), (.int .i64 0), (.int .i64 0), (.int .i64 0), (.int .i64 0)]), false, []⟩,
 ⟨7, cl 17 19 [.t 13, .t 16], true, [6, 5, 4, 3, 2, 1, 0]⟩,
 ⟨8, mv 9 17, false, []⟩,
 ⟨9, rr 18 (.ext (.t 9) 0), false, []⟩,
 ⟨10, rr 19 (.ext (.t 9) 1), false, []⟩,
 ⟨12, ff (.storeN 16 (.t 4) (.t 18)), true, [11, 9, 8, 7, 6, 5, 4, 3, 2, 1, 0]⟩,
 ⟨13, mv 5 19, false, []⟩])
 (.seq (.reg [rr 21 (.loadN 16 (.t 4)),
 rr 22 (.fld 3 (.t 3)),
 rr 23 (.load1 (.t 22)),
 cl 24 153 [.t 21, .t 23],
 mv 20 24,
 rr 25 (.ext (.t 20) 0),
 rr 26 (.ext (.t 20) 1),
 nn 6 (.zbox [(.int .i64 0), (.int .i64 0), (.int .i64 0), (.int .i64 0)]),
 ff (.storeN 4 (.t 6) (.t 25)),
 mv 7 26])
 (.seq (.seq (.reg [mv 27 7,
 rr 28 (.cmp .neq (.t 27) (ci 0))])
 (.cond (.t 28) (.seq (.reg [mv 29 0,
 rr 30 (.loadN 11 (.t 3)),
 cl 31 75 [.t 29, .t 30]])
 (.ret))
 (.skip)))
 (.seq (.reg [rr 32 (.fld 0 (.t 3)),
 rr 33 (.loadN 2 (.t 32)),
 cl 34 107 [(ci 5), .t 33],
 nn 8 (.zbox [(.int .i64 0), (.int .u16 0), (.int .u32 0), (.str []), (.int .i64 0), (.int .i64 0), (.int .i64 0), (.int .i64 0), (.int .i64 0), (.int .i64 0), (.int .i64 0), (.int .i64 0), (.int .i64 0), (.int .i64 0), (.int .i64 0), (.int .i64 0), (.int .i64 0)]),
 ff (.storeN 17 (.t 8) (.t 34))])
 (.seq (.reg [rr 35 (.loadN 4 (.t 6)),
 rr 36 (.fld 5 (.t 8)),
 ff (.storeN 4 (.t 36) (.t 35))])
 (.seq (.dreg [⟨0, mv 37 0, false, []⟩,
 ⟨1, rr 38 (.fld 0 (.t 3)), false, []⟩,
 ⟨2, rr 39 (.loadN 2 (.t 38)), false, []⟩,
 ⟨4, rr 41 (.loadN 17 (.t 8)), false, []⟩,
 ⟨3, cl 40 107 [(ci 2), .t 39], true, [2, 1]⟩,
 ⟨5, nn 42 (.bslice (some .rcd) 17 2 [.t 40, .t 41]), false, []⟩,
 ⟨6, cl 43 106 [.t 37, .t 42], true, [5, 4, 3, 2, 1, 0]⟩])
 (.cond (.t 43) (.seq (.dreg [⟨0, mv 44 0, false, []⟩,
 ⟨1, rr 45 (.nilchk (.t 44)), false, []⟩,
 ⟨2, rr 46 (.fld 10 (.t 45)), false, []⟩,
 ⟨3, rr 47 (.load1 (.t 46)), false, []⟩,
 ⟨4, rr 48 (.fld 0 (.t 3)), false, []⟩,
 ⟨5, rr 49 (.loadN 2 (.t 48)), false, []⟩,
 ⟨6, ff (.del .key (.int .i64) (.t 47) (.t 49)), true, [5, 4, 3, 2, 1, 0]⟩])
 (.reg [mv 50 0,
 rr 51 (.fld 0 (.t 3)),
 rr 52 (.fld 0 (.t 51)),
 rr 53 (.load1 (.t 52)),
 rr 54 (.fld 0 (.t 3)),
 rr 55 (.fld 1 (.t 54)),
 rr 56 (.load1 (.t 55)),
 rr 57 (.fld 3 (.t 3)),
 rr 58 (.load1 (.t 57)),
 rr 59 (.loadN 4 (.t 6)),
 rr 60 (.build [(.int .i64 0), (.int .u16 0), (.int .u32 0), (.str []), (.int .i64 0), (.int .i64 0), (.int .i64 0), (.int .i64 0), (.int .i64 0), (.int .i64 0), (.int .i64 0), (.int .i64 0), (.int .i64 0), (.int .i64 0), (.int .i64 0), (.int .i64 0), (.int .i64 0), (.int .i64 0), (.int .i64 0), (.int .i64 0), (.int .i64 0), (.int .i64 0), (.int .i64 0), (.int .i64 0), (.int .i64 0), (.int .i64 0)] [(0, (1, (ci 5))), (1, (1, (.t 53))), (2, (1, (.t 56))), (4, (1, (.t 58))), (5, (4, (.t 59)))]),
 cl 61 162 [.t 50, .t 60]]))
 (.skip))))))))⟩
/-- (*guichet/core.Switch).write -/
def b106 : AFunc := ⟨54, [.tmp 4],
 .seq (.reg [rr 4 (.mov (.c (.bool false)))])
 (.seq (.reg [mv 9 0,
 rr 10 (.nilchk (.t 9)),
 rr 11 (.fld 7 (.t 10)),
 rr 12 (.load1 (.t 11)),
 cl 13 49 [.t 12],
 mv 5 13])
 (.seq (.seq (.reg [mv 14 1,
 rr 15 (.len 1 (.t 14)),
 rr 16 (.mov (ci 0))])
 (.block 0 (.loop [] (.seq (.reg [rr 17 (.cmp .lss (.t 16) (.t 15))])
 (.seq (.cond (.t 17) (.skip)
 (.exit 0))
 (.seq (.block 1 (.seq (.reg [rr 18 (.idxS 17 (.t 14) (.t 16)),
 rr 19 (.loadN 17 (.t 18)),
 nn 7 (.zbox [(.int .i64 0), (.int .u16 0), (.int .u32 0), (.str []), (.int .i64 0), (.int .i64 0), (.int .i64 0), (.int .i64 0), (.int .i64 0), (.int .i64 0), (.int .i64 0), (.int .i64 0), (.int .i64 0), (.int .i64 0), (.int .i64 0), (.int .i64 0), (.int .i64 0)]),
 ff (.storeN 17 (.t 7) (.t 19))])
 (.seq (.reg [mv 20 0,
 rr 21 (.nilchk (.t 20)),
 rr 22 (.fld 12 (.t 21)),
 rr 23 (.load1 (.t 22)),
 mv 24 23,
 gr 25 (.mov (.t 5)) 24 false,
 gr 26 (.loadN 17 (.t 7)) 24 false,
 ⟨(some 27), .e (.call (.c (.fn (.func 74) [] [])) [.t 25, .t 26]), (some (24, false))⟩,
 gr 28 (.cmp .neq (.t 27) (ci 0)) 24 false,
 rr 29 (.pick (.t 24) (.c (.bool true)) (.t 28))])
 (.cond (.t 29) (.seq (.reg [rr 4 (.mov (.c (.bool false)))])
 (.ret))
 (.skip)))))
 (.reg [rr 30 (.arith .add (.t 16) (ci 1)),
 mv 16 30])))))))
 (.seq (.seq (.reg [mv 31 0,
 mv 32 1,
 cl 33 174 [.t 31, .t 32],
 mv 8 33])
 (.seq (.reg [mv 34 8,
 rr 35 (.cmp .neq (.t 34) (ci 0))])
 (.cond (.t 35) (.seq (.reg [mv 36 0,
 mv 37 8,
 rr 38 (.cmp .eql (.t 37) (ci 22)),
 rr 39 (.nilchk (.t 36)),
 rr 40 (.fld 12 (.t 39)),
 ff (.store1 (.t 40) (.t 38))])
 (.seq (.reg [rr 4 (.mov (.c (.bool false)))])
 (.ret)))
 (.skip))))
 (.seq (.reg [mv 41 0,
 mv 42 0,
 rr 43 (.nilchk (.t 42)),
 rr 44 (.fld 6 (.t 43)),
 rr 45 (.load1 (.t 44)),
 mv 46 1,
 ee 47 (.append .rcd (.t 45) (.t 46)),
 rr 48 (.nilchk (.t 41)),
 rr 49 (.fld 6 (.t 48)),
 ff (.store1 (.t 49) (.t 47))])
 (.seq (.reg [mv 50 0,
 mv 51 5,
 rr 52 (.nilchk (.t 50)),
 rr 53 (.fld 7 (.t 52)),
 ff (.store1 (.t 53) (.t 51))])
 (.seq (.reg [rr 4 (.mov (.c (.bool true)))])
 (.ret)))))))⟩
/-- guichet/core.rec -/
def b107 : AFunc := ⟨8, [.cellN 4 17],
 .seq (.reg [nn 3 (.box (.t 1)),
 nn 4 (.zbox [(.int .i64 0), (.int .u16 0), (.int .u32 0), (.str []), (.int .i64 0), (.int .i64 0), (.int .i64 0), (.int .i64 0), (.int .i64 0), (.int .i64 0), (.int .i64 0), (.int .i64 0), (.int .i64 0), (.int .i64 0), (.int .i64 0), (.int .i64 0), (.int .i64 0)])])
 (.seq (.reg [mv 5 0,
 rr 6 (.loadN 2 (.t 3)),
 rr 7 (.build [(.int .i64 0), (.int .u16 0), (.int .u32 0), (.str []), (.int .i64 0), (.int .i64 0), (.int .i64 0), (.int .i64 0), (.int .i64 0), (.int .i64 0), (.int .i64 0), (.int .i64 0), (.int .i64 0), (.int .i64 0), (.int .i64 0), (.int .i64 0), (.int .i64 0)] [(0, (1, (.t 5))), (1, (2, (.t 6)))]),
 ff (.storeN 17 (.t 4) (.t 7))])
 (.ret))⟩
/-- (*guichet/guichetref12.Ledger).account -/
def b110 : AFunc := ⟨25, [.tmp 4],
 .seq (.reg [rr 4 (.mov (ci 0))])
 (.seq (.seq (.reg [rr 5 (.mov (ci 0))])
 (.block 0 (.loop [] (.seq (.seq (.reg [mv 6 5,
 mv 7 0,
 rr 8 (.nilchk (.t 7)),
 rr 9 (.fld 0 (.t 8)),
 rr 10 (.load1 (.t 9)),
 rr 11 (.len 1 (.t 10)),
 rr 12 (.cmp .lss (.t 6) (.t 11))])
 (.cond (.t 12) (.skip)
 (.exit 0)))
 (.seq (.block 1 (.seq (.reg [mv 15 0,
 rr 16 (.nilchk (.t 15)),
 rr 17 (.fld 0 (.t 16)),
 rr 18 (.load1 (.t 17)),
 mv 19 5,
 rr 20 (.idxS 1 (.t 18) (.t 19)),
 rr 21 (.load1 (.t 20)),
 mv 22 1,
 rr 23 (.eq1 (.s) false (.t 21) (.t 22))])
 (.cond (.t 23) (.seq (.reg [mv 24 5,
 mv 4 24])
 (.ret))
 (.skip))))
 (.reg [mv 13 5,
 rr 14 (.arith .add (.t 13) (ci 1)),
 mv 5 14]))))))
 (.seq (.reg [rr 4 (.mov (ci (-1)))])
 (.ret)))⟩
/-- guichet/guichetref12.asked -/
def b111 : AFunc := ⟨64, [.cellN 8 2, .tmp 9],
 .seq (.reg [nn 5 (.box (.t 1)),
 nn 8 (.zbox [(.int .i64 0), (.slice none (.n 0) (.exact 0))]),
 rr 9 (.mov (.c (.bool false)))])
 (.seq (.reg [rr 15 (.fld 1 (.t 5)),
 rr 16 (.load1 (.t 15)),
 rr 17 (.toInt .i64 (.t 16)),
 cl 18 113 [.t 17, (ci 6)],
 mv 14 18,
 rr 19 (.ext (.t 14) 0),
 rr 20 (.ext (.t 14) 1),
 mv 10 19,
 mv 11 20])
 (.seq (.reg [mv 22 3,
 cl 23 113 [.t 22, (ci 12)],
 mv 21 23,
 rr 24 (.ext (.t 21) 0),
 rr 25 (.ext (.t 21) 1),
 mv 12 24,
 mv 13 25])
 (.seq (.seq (.reg [mv 26 11,
 rr 27 (.not (.t 26)),
 mv 28 27,
 gr 29 (.fld 1 (.t 5)) 28 false,
 gr 30 (.load1 (.t 29)) 28 false,
 gr 31 (.cmp .eql (.t 30) (.c (.int .u32 0))) 28 false,
 rr 32 (.pick (.t 28) (.c (.bool true)) (.t 31)),
 mv 33 32,
 gr 34 (.mov (.t 13)) 33 false,
 gr 35 (.not (.t 34)) 33 false,
 rr 36 (.pick (.t 33) (.c (.bool true)) (.t 35)),
 mv 37 36,
 gr 38 (.mov (.t 3)) 37 false,
 gr 39 (.cmp .lss (.t 38) (ci 1)) 37 false,
 rr 40 (.pick (.t 37) (.c (.bool true)) (.t 39)),
 mv 41 40,
 gr 42 (.mov (.t 3)) 41 false,
 gr 43 (.cmp .gtr (.t 42) (ci 1000000)) 41 false,
 rr 44 (.pick (.t 41) (.c (.bool true)) (.t 43)),
 mv 45 44,
 gr 46 (.mov (.t 2)) 45 false,
 ⟨(some 47), .e (.call (.c (.fn (.func 122) [] [])) [.t 46]), (some (45, false))⟩,
 gr 48 (.not (.t 47)) 45 false,
 rr 49 (.pick (.t 45) (.c (.bool true)) (.t 48))])
 (.cond (.t 49) (.seq (.reg [rr 50 (.build [(.int .i64 0), (.slice none (.n 0) (.exact 0))] []),
 ff (.storeN 2 (.t 8) (.t 50)),
 rr 9 (.mov (.c (.bool false)))])
 (.ret))
 (.skip)))
 (.seq (.reg [mv 51 0,
 mv 52 2,
 rr 53 (.build [(.int .i64 0), (.str [])] [(0, (1, (ci 2))), (1, (1, (.t 52)))]),
 rr 54 (.build [(.int .i64 0), (.str [])] [(0, (1, (ci 3))), (1, (1, (.c (.str [48, 49, 48, 48, 48, 48]))))]),
 mv 55 12,
 rr 56 (.build [(.int .i64 0), (.str [])] [(0, (1, (ci 4))), (1, (1, (.t 55)))]),
 mv 57 10,
 rr 58 (.build [(.int .i64 0), (.str [])] [(0, (1, (ci 11))), (1, (1, (.t 57)))]),
 rr 59 (.loadN 2 (.t 5)),
 cl 60 121 [.t 59],
 rr 61 (.build [(.int .i64 0), (.str [])] [(0, (1, (ci 41))), (1, (1, (.t 60)))]),
 nn 62 (.bslice (some .fld) 2 5 [.t 53, .t 54, .t 56, .t 58, .t 61]),
 rr 63 (.build [(.int .i64 0), (.slice none (.n 0) (.exact 0))] [(0, (1, (.t 51))), (1, (1, (.t 62)))]),
 ff (.storeN 2 (.t 8) (.t 63)),
 rr 9 (.mov (.c (.bool true)))])
 (.ret)))))⟩
/-- guichet/guichetref1.IsoPut -/
def b112 : AFunc := ⟨80, [.tmp 2, .tmp 3],
 .seq (.reg [nn 1 (.box (.t 0)),
 rr 2 (.mov (.c (.slice none (.n 0) (.exact 0)))),
 rr 3 (.mov (ci 0))])
 (.seq (.seq (.reg [rr 15 (.loadN 2 (.t 1)),
 cl 16 176 [.t 15],
 rr 17 (.not (.t 16))])
 (.cond (.t 17) (.seq (.reg [rr 2 (.mov (.c (.slice none (.n 0) (.exact 0)))),
 rr 3 (.mov (ci 27))])
 (.ret))
 (.skip)))
 (.seq (.reg [rr 19 (.fld 0 (.t 1)),
 rr 20 (.load1 (.t 19)),
 cl 21 113 [.t 20, (ci 4)],
 mv 18 21,
 rr 22 (.ext (.t 18) 0),
 rr 23 (.ext (.t 18) 1),
 mv 4 22,
 mv 5 23])
 (.seq (.reg [mv 25 4,
 cl 26 177 [.t 25],
 mv 24 26,
 rr 27 (.ext (.t 24) 0),
 rr 28 (.ext (.t 24) 1),
 mv 6 27,
 mv 7 28])
 (.seq (.reg [rr 8 (.mov (.c (.slice none (.n 0) (.exact 0))))])
 (.seq (.seq (.reg [rr 9 (.mov (ci 0))])
 (.block 0 (.loop [] (.seq (.seq (.reg [mv 29 9,
 rr 30 (.fld 1 (.t 1)),
 rr 31 (.load1 (.t 30)),
 rr 32 (.len 1 (.t 31)),
 rr 33 (.cmp .lss (.t 29) (.t 32))])
 (.cond (.t 33) (.skip)
 (.exit 0)))
 (.seq (.block 1 (.reg [mv 36 8,
 rr 37 (.fld 1 (.t 1)),
 rr 38 (.load1 (.t 37)),
 mv 39 9,
 rr 40 (.idxS 2 (.t 38) (.t 39)),
 rr 41 (.fld 0 (.t 40)),
 rr 42 (.load1 (.t 41)),
 nn 43 (.bslice (some (.int .i64)) 1 1 [.t 42]),
 ee 44 (.append (.int .i64) (.t 36) (.t 43)),
 mv 8 44]))
 (.reg [mv 34 9,
 rr 35 (.arith .add (.t 34) (ci 1)),
 mv 9 35]))))))
 (.seq (.reg [mv 46 8,
 cl 47 178 [.t 46],
 mv 45 47,
 rr 48 (.ext (.t 45) 0),
 rr 49 (.ext (.t 45) 1),
 mv 10 48,
 mv 11 49])
 (.seq (.reg [mv 50 6,
 mv 51 10,
 ee 52 (.append (.int .u8) (.t 50) (.t 51)),
 mv 6 52])
 (.seq (.seq (.reg [rr 12 (.mov (ci 0))])
 (.block 2 (.loop [] (.seq (.seq (.reg [mv 53 12,
 rr 54 (.fld 1 (.t 1)),
 rr 55 (.load1 (.t 54)),
 rr 56 (.len 1 (.t 55)),
 rr 57 (.cmp .lss (.t 53) (.t 56))])
 (.cond (.t 57) (.skip)
 (.exit 2)))
 (.seq (.block 3 (.seq (.dreg [⟨0, rr 61 (.fld 1 (.t 1)), false, []⟩,
 ⟨1, rr 62 (.load1 (.t 61)), false, []⟩,
 ⟨2, mv 63 12, false, []⟩,
 ⟨3, rr 64 (.idxS 2 (.t 62) (.t 63)), false, []⟩,
 ⟨4, rr 65 (.fld 0 (.t 64)), false, []⟩,
 ⟨5, rr 66 (.load1 (.t 65)), false, []⟩,
 ⟨6, rr 67 (.fld 1 (.t 1)), false, []⟩,
 ⟨7, rr 68 (.load1 (.t 67)), false, []⟩,
 ⟨8, mv 69 12, false, []⟩,
 ⟨9, rr 70 (.idxS 2 (.t 68) (.t 69)), false, []⟩,
 ⟨10, rr 71 (.fld 1 (.t 70)), false, []⟩,
 ⟨11, rr 72 (.load1 (.t 71)), false, []⟩,
 ⟨12, cl 73 179 [.t 66, .t 72], true, [11, 10, 9, 8, 7, 6, 5, 4, 3, 2, 1, 0]⟩,
 ⟨13, mv 60 73, false, []⟩,
 ⟨14, rr 74 (.ext (.t 60) 0), false, []⟩,
 ⟨15, rr 75 (.ext (.t 60) 1), false, []⟩,
 ⟨16, mv 13 74, false, []⟩,
 ⟨17, mv 14 75, false, []⟩])
 (.reg [mv 76 6,
 mv 77 13,
 ee 78 (.append (.int .u8) (.t 76) (.t 77)),
 mv 6 78])))
 (.reg [mv 58 12,
 rr 59 (.arith .add (.t 58) (ci 1)),
 mv 12 59]))))))
 (.seq (.reg [mv 79 6,
 mv 2 79,
 rr 3 (.mov (ci 0))])
 (.ret))))))))))⟩
/-- guichet/guichetref1.Digits -/
def b113 : AFunc := ⟨36, [.tmp 4, .tmp 5],
 .seq (.reg [rr 4 (.mov (.c (.str []))),
 rr 5 (.mov (.c (.bool false)))])
 (.seq (.seq (.reg [mv 8 1,
 rr 9 (.cmp .lss (.t 8) (ci 1)),
 mv 10 9,
 gr 11 (.mov (.t 1)) 10 false,
 gr 12 (.cmp .gtr (.t 11) (ci 18)) 10 false,
 rr 13 (.pick (.t 10) (.c (.bool true)) (.t 12)),
 mv 14 13,
 gr 15 (.mov (.t 0)) 14 false,
 gr 16 (.cmp .lss (.t 15) (ci 0)) 14 false,
 rr 17 (.pick (.t 14) (.c (.bool true)) (.t 16))])
 (.cond (.t 17) (.seq (.reg [rr 4 (.mov (.c (.str []))),
 rr 5 (.mov (.c (.bool false)))])
 (.ret))
 (.skip)))
 (.seq (.reg [rr 6 (.mov (.c (.str [])))])
 (.seq (.seq (.reg [rr 7 (.mov (ci 0))])
 (.block 0 (.loop [] (.seq (.seq (.reg [mv 18 7,
 mv 19 1,
 rr 20 (.cmp .lss (.t 18) (.t 19))])
 (.cond (.t 20) (.skip)
 (.exit 0)))
 (.seq (.block 1 (.seq (.reg [mv 23 0,
 rr 24 (.arith .rem (.t 23) (ci 10)),
 mv 25 0,
 rr 26 (.arith .rem (.t 25) (ci 10)),
 rr 27 (.arith .add (.t 26) (ci 1)),
 rr 28 (.slcStr (.c (.str [48, 49, 50, 51, 52, 53, 54, 55, 56, 57])) (some (.t 24)) (some (.t 27))),
 mv 29 6,
 rr 30 (.arith .add (.t 28) (.t 29)),
 mv 6 30])
 (.reg [mv 31 0,
 rr 32 (.arith .quo (.t 31) (ci 10)),
 mv 0 32])))
 (.reg [mv 21 7,
 rr 22 (.arith .add (.t 21) (ci 1)),
 mv 7 22]))))))
 (.seq (.seq (.reg [mv 33 0,
 rr 34 (.cmp .gtr (.t 33) (ci 0))])
 (.cond (.t 34) (.seq (.reg [rr 4 (.mov (.c (.str []))),
 rr 5 (.mov (.c (.bool false)))])
 (.ret))
 (.skip)))
 (.seq (.reg [mv 35 6,
 mv 4 35,
 rr 5 (.mov (.c (.bool true)))])
 (.ret))))))⟩
/-- guichet/guichetref1.IsoRead -/
def b114 : AFunc := ⟨94, [.cellN 2 2, .tmp 3],
 .seq (.reg [nn 2 (.zbox [(.int .i64 0), (.slice none (.n 0) (.exact 0))]),
 rr 3 (.mov (ci 0))])
 (.seq (.seq (.reg [mv 16 0,
 rr 17 (.len 1 (.t 16)),
 rr 18 (.cmp .lss (.t 17) (ci 2))])
 (.cond (.t 18) (.seq (.reg [rr 19 (.build [(.int .i64 0), (.slice none (.n 0) (.exact 0))] []),
 ff (.storeN 2 (.t 2) (.t 19)),
 rr 3 (.mov (ci 23))])
 (.ret))
 (.skip)))
 (.seq (.reg [mv 21 0,
 rr 22 (.slcS 1 (.t 21) none (some (ci 2)) none),
 cl 23 180 [.t 22, (ci 4)],
 mv 20 23,
 rr 24 (.ext (.t 20) 0),
 rr 25 (.ext (.t 20) 1),
 mv 4 24,
 mv 5 25])
 (.seq (.reg [mv 27 0,
 rr 28 (.slcS 1 (.t 27) (some (ci 2)) none none),
 cl 29 181 [.t 28],
 mv 26 29,
 rr 30 (.ext (.t 26) 0),
 rr 31 (.ext (.t 26) 1),
 rr 32 (.ext (.t 26) 2),
 mv 6 30,
 mv 7 31,
 mv 8 32])
 (.seq (.seq (.reg [mv 33 5,
 rr 34 (.not (.t 33)),
 mv 35 34,
 gr 36 (.mov (.t 8)) 35 false,
 gr 37 (.not (.t 36)) 35 false,
 rr 38 (.pick (.t 35) (.c (.bool true)) (.t 37))])
 (.cond (.t 38) (.seq (.reg [rr 39 (.build [(.int .i64 0), (.slice none (.n 0) (.exact 0))] []),
 ff (.storeN 2 (.t 2) (.t 39)),
 rr 3 (.mov (ci 23))])
 (.ret))
 (.skip)))
 (.seq (.reg [mv 41 4,
 cl 42 116 [.t 41],
 mv 40 42,
 rr 43 (.ext (.t 40) 0),
 rr 44 (.ext (.t 40) 1),
 mv 9 43,
 mv 10 44])
 (.seq (.reg [mv 45 9,
 rr 46 (.build [(.int .i64 0), (.slice none (.n 0) (.exact 0))] [(0, (1, (.t 45)))]),
 nn 11 (.zbox [(.int .i64 0), (.slice none (.n 0) (.exact 0))]),
 ff (.storeN 2 (.t 11) (.t 46))])
 (.seq (.reg [mv 47 0,
 mv 48 7,
 rr 49 (.arith .add (ci 2) (.t 48)),
 rr 50 (.slcS 1 (.t 47) (some (.t 49)) none none),
 mv 0 50])
 (.seq (.seq (.reg [rr 12 (.mov (ci 0))])
 (.block 0 (.loop [] (.seq (.seq (.reg [mv 51 12,
 mv 52 6,
 rr 53 (.len 1 (.t 52)),
 rr 54 (.cmp .lss (.t 51) (.t 53))])
 (.cond (.t 54) (.skip)
 (.exit 0)))
 (.seq (.block 1 (.seq (.reg [mv 58 6,
 mv 59 12,
 rr 60 (.idxS 1 (.t 58) (.t 59)),
 rr 61 (.load1 (.t 60)),
 mv 62 0,
 cl 63 182 [.t 61, .t 62],
 mv 57 63,
 rr 64 (.ext (.t 57) 0),
 rr 65 (.ext (.t 57) 1),
 rr 66 (.ext (.t 57) 2),
 mv 13 64,
 mv 14 65,
 mv 15 66])
 (.seq (.seq (.reg [mv 67 15,
 rr 68 (.cmp .neq (.t 67) (ci 0))])
 (.cond (.t 68) (.seq (.reg [rr 69 (.build [(.int .i64 0), (.slice none (.n 0) (.exact 0))] []),
 ff (.storeN 2 (.t 2) (.t 69)),
 rr 3 (.mov (ci 23))])
 (.ret))
 (.skip)))
 (.seq (.dreg [⟨0, rr 70 (.fld 1 (.t 11)), false, []⟩,
 ⟨1, rr 71 (.load1 (.t 70)), false, []⟩,
 ⟨2, mv 72 6, false, []⟩,
 ⟨3, mv 73 12, false, []⟩,
 ⟨4, rr 74 (.idxS 1 (.t 72) (.t 73)), false, []⟩,
 ⟨5, rr 75 (.load1 (.t 74)), false, []⟩,
 ⟨6, mv 76 13, false, []⟩,
 ⟨7, rr 77 (.build [(.int .i64 0), (.str [])] [(0, (1, (.t 75))), (1, (1, (.t 76)))]), false, []⟩,
 ⟨8, nn 78 (.bslice (some .fld) 2 1 [.t 77]), false, []⟩,
 ⟨9, ee 79 (.append .fld (.t 71) (.t 78)), true, [8, 7, 6, 5, 4, 3, 2, 1, 0]⟩,
 ⟨10, rr 80 (.fld 1 (.t 11)), false, []⟩,
 ⟨11, ff (.store1 (.t 80) (.t 79)), true, [10, 9, 8, 7, 6, 5, 4, 3, 2, 1, 0]⟩])
 (.reg [mv 81 0,
 mv 82 14,
 rr 83 (.slcS 1 (.t 81) (some (.t 82)) none none),
 mv 0 83])))))
 (.reg [mv 55 12,
 rr 56 (.arith .add (.t 55) (ci 1)),
 mv 12 56]))))))
 (.seq (.seq (.reg [mv 84 0,
 rr 85 (.len 1 (.t 84)),
 rr 86 (.cmp .gtr (.t 85) (ci 0)),
 mv 87 86,
 gr 88 (.loadN 2 (.t 11)) 87 false,
 ⟨(some 89), .e (.call (.c (.fn (.func 176) [] [])) [.t 88]), (some (87, false))⟩,
 gr 90 (.not (.t 89)) 87 false,
 rr 91 (.pick (.t 87) (.c (.bool true)) (.t 90))])
 (.cond (.t 91) (.seq (.reg [rr 92 (.build [(.int .i64 0), (.slice none (.n 0) (.exact 0))] []),
 ff (.storeN 2 (.t 2) (.t 92)),
 rr 3 (.mov (ci 23))])
 (.ret))
 (.skip)))
 (.seq (.reg [rr 93 (.loadN 2 (.t 11)),
 ff (.storeN 2 (.t 2) (.t 93)),
 rr 3 (.mov (ci 0))])
 (.ret)))))))))))⟩
/-- guichet/guichetref1.Get -/
def b115 : AFunc := ⟨28, [.tmp 4, .tmp 5],
 .seq (.reg [nn 2 (.box (.t 0)),
 rr 4 (.mov (.c (.str []))),
 rr 5 (.mov (.c (.bool false)))])
 (.seq (.seq (.reg [rr 6 (.mov (ci 0))])
 (.block 0 (.loop [] (.seq (.seq (.reg [mv 7 6,
 rr 8 (.fld 1 (.t 2)),
 rr 9 (.load1 (.t 8)),
 rr 10 (.len 1 (.t 9)),
 rr 11 (.cmp .lss (.t 7) (.t 10))])
 (.cond (.t 11) (.skip)
 (.exit 0)))
 (.seq (.block 1 (.seq (.reg [rr 14 (.fld 1 (.t 2)),
 rr 15 (.load1 (.t 14)),
 mv 16 6,
 rr 17 (.idxS 2 (.t 15) (.t 16)),
 rr 18 (.fld 0 (.t 17)),
 rr 19 (.load1 (.t 18)),
 mv 20 1,
 rr 21 (.cmp .eql (.t 19) (.t 20))])
 (.cond (.t 21) (.seq (.reg [rr 22 (.fld 1 (.t 2)),
 rr 23 (.load1 (.t 22)),
 mv 24 6,
 rr 25 (.idxS 2 (.t 23) (.t 24)),
 rr 26 (.fld 1 (.t 25)),
 rr 27 (.load1 (.t 26)),
 mv 4 27,
 rr 5 (.mov (.c (.bool true)))])
 (.ret))
 (.skip))))
 (.reg [mv 12 6,
 rr 13 (.arith .add (.t 12) (ci 1)),
 mv 6 13]))))))
 (.seq (.reg [rr 4 (.mov (.c (.str []))),
 rr 5 (.mov (.c (.bool false)))])
 (.ret)))⟩
/-- guichet/guichetref1.Num -/
def b116 : AFunc := ⟨34, [.tmp 2, .tmp 3],
 .seq (.reg [rr 2 (.mov (ci 0)),
 rr 3 (.mov (.c (.bool false)))])
 (.seq (.seq (.reg [mv 6 0,
 rr 7 (.len 0 (.t 6)),
 rr 8 (.cmp .lss (.t 7) (ci 1)),
 mv 9 8,
 gr 10 (.mov (.t 0)) 9 false,
 gr 11 (.len 0 (.t 10)) 9 false,
 gr 12 (.cmp .gtr (.t 11) (ci 18)) 9 false,
 rr 13 (.pick (.t 9) (.c (.bool true)) (.t 12)),
 mv 14 13,
 gr 15 (.mov (.t 0)) 14 false,
 ⟨(some 16), .e (.call (.c (.fn (.func 60) [] [])) [.t 15]), (some (14, false))⟩,
 gr 17 (.not (.t 16)) 14 false,
 rr 18 (.pick (.t 14) (.c (.bool true)) (.t 17))])
 (.cond (.t 18) (.seq (.reg [rr 2 (.mov (ci 0)),
 rr 3 (.mov (.c (.bool false)))])
 (.ret))
 (.skip)))
 (.seq (.reg [rr 4 (.mov (ci 0))])
 (.seq (.seq (.reg [rr 5 (.mov (ci 0))])
 (.block 0 (.loop [] (.seq (.seq (.reg [mv 19 5,
 mv 20 0,
 rr 21 (.len 0 (.t 20)),
 rr 22 (.cmp .lss (.t 19) (.t 21))])
 (.cond (.t 22) (.skip)
 (.exit 0)))
 (.seq (.block 1 (.reg [mv 25 4,
 rr 26 (.arith .mul (ci 10) (.t 25)),
 mv 27 0,
 mv 28 5,
 rr 29 (.strAt (.t 27) (.t 28)),
 rr 30 (.arith .sub (.t 29) (.c (.int .u8 48))),
 rr 31 (.toInt .i64 (.t 30)),
 rr 32 (.arith .add (.t 26) (.t 31)),
 mv 4 32]))
 (.reg [mv 23 5,
 rr 24 (.arith .add (.t 23) (ci 1)),
 mv 5 24]))))))
 (.seq (.reg [mv 33 4,
 mv 2 33,
 rr 3 (.mov (.c (.bool true)))])
 (.ret)))))⟩
/-- guichet/guichetref12.keyOf -/
def b118 : AFunc := ⟨56, [.cellN 2 2, .tmp 3],
 .seq (.reg [nn 1 (.box (.t 0)),
 nn 2 (.zbox [(.int .u16 0), (.int .u32 0)]),
 rr 3 (.mov (.c (.bool false)))])
 (.seq (.reg [rr 13 (.loadN 2 (.t 1)),
 cl 14 115 [.t 13, (ci 11)],
 mv 12 14,
 rr 15 (.ext (.t 12) 0),
 rr 16 (.ext (.t 12) 1),
 mv 4 15,
 mv 5 16])
 (.seq (.reg [rr 18 (.loadN 2 (.t 1)),
 cl 19 115 [.t 18, (ci 41)],
 mv 17 19,
 rr 20 (.ext (.t 17) 0),
 rr 21 (.ext (.t 17) 1),
 mv 6 20,
 mv 7 21])
 (.seq (.reg [mv 23 4,
 cl 24 116 [.t 23],
 mv 22 24,
 rr 25 (.ext (.t 22) 0),
 rr 26 (.ext (.t 22) 1),
 mv 8 25,
 mv 9 26])
 (.seq (.seq (.reg [mv 27 6,
 rr 28 (.len 0 (.t 27)),
 rr 29 (.cmp .neq (.t 28) (ci 8)),
 mv 30 29,
 gr 31 (.mov (.t 6)) 30 false,
 gr 32 (.strAt (.t 31) (ci 0)) 30 false,
 gr 33 (.cmp .neq (.t 32) (.c (.int .u8 84))) 30 false,
 rr 34 (.pick (.t 30) (.c (.bool true)) (.t 33)),
 mv 35 34,
 gr 36 (.mov (.t 9)) 35 false,
 gr 37 (.not (.t 36)) 35 false,
 rr 38 (.pick (.t 35) (.c (.bool true)) (.t 37))])
 (.cond (.t 38) (.seq (.reg [rr 39 (.build [(.int .u16 0), (.int .u32 0)] []),
 ff (.storeN 2 (.t 2) (.t 39)),
 rr 3 (.mov (.c (.bool false)))])
 (.ret))
 (.skip)))
 (.seq (.reg [mv 41 6,
 rr 42 (.slcStr (.t 41) (some (ci 1)) none),
 cl 43 116 [.t 42],
 mv 40 43,
 rr 44 (.ext (.t 40) 0),
 rr 45 (.ext (.t 40) 1),
 mv 10 44,
 mv 11 45])
 (.seq (.reg [mv 46 10,
 rr 47 (.toInt .u16 (.t 46)),
 mv 48 8,
 rr 49 (.toInt .u32 (.t 48)),
 rr 50 (.build [(.int .u16 0), (.int .u32 0)] [(0, (1, (.t 47))), (1, (1, (.t 49)))]),
 mv 51 11,
 mv 52 51,
 gr 53 (.mov (.t 10)) 52 true,
 gr 54 (.cmp .leq (.t 53) (ci 65535)) 52 true,
 rr 55 (.pick (.t 52) (.t 54) (.c (.bool false))),
 ff (.storeN 2 (.t 2) (.t 50)),
 mv 3 55])
 (.ret)))))))⟩
/-- (*guichet/guichetref12.Ledger).Debit -/
def b119 : AFunc := ⟨71, [.tmp 8],
 .seq (.reg [nn 5 (.box (.t 1)),
 rr 8 (.mov (.c (.str [])))])
 (.seq (.seq (.reg [mv 12 0,
 rr 13 (.loadN 2 (.t 5)),
 cl 14 183 [.t 12, .t 13],
 mv 9 14])
 (.seq (.reg [mv 15 9,
 rr 16 (.cmp .geq (.t 15) (ci 0))])
 (.cond (.t 16) (.seq (.reg [mv 17 0,
 rr 18 (.nilchk (.t 17)),
 rr 19 (.fld 3 (.t 18)),
 rr 20 (.load1 (.t 19)),
 mv 21 9,
 rr 22 (.idxS 1 (.t 20) (.t 21)),
 rr 23 (.load1 (.t 22)),
 mv 8 23])
 (.ret))
 (.skip))))
 (.seq (.reg [mv 24 0,
 mv 25 2,
 cl 26 110 [.t 24, .t 25],
 mv 10 26])
 (.seq (.reg [rr 11 (.mov (.c (.str [48, 48])))])
 (.seq (.block 0 (.seq (.reg [mv 28 3,
 rr 29 (.cmp .lss (.t 28) (ci 1)),
 mv 30 29,
 gr 31 (.mov (.t 3)) 30 false,
 gr 32 (.cmp .gtr (.t 31) (ci 1000000)) 30 false,
 rr 33 (.pick (.t 30) (.c (.bool true)) (.t 32)),
 mv 27 33])
 (.cond (.t 27) (.reg [rr 11 (.mov (.c (.str [49, 51])))])
 (.seq (.reg [mv 35 10,
 rr 36 (.cmp .lss (.t 35) (ci 0)),
 mv 34 36])
 (.cond (.t 34) (.reg [rr 11 (.mov (.c (.str [49, 52])))])
 (.seq (.reg [mv 38 0,
 rr 39 (.nilchk (.t 38)),
 rr 40 (.fld 1 (.t 39)),
 rr 41 (.load1 (.t 40)),
 mv 42 10,
 rr 43 (.idxS 1 (.t 41) (.t 42)),
 rr 44 (.load1 (.t 43)),
 mv 45 3,
 rr 46 (.cmp .lss (.t 44) (.t 45)),
 mv 37 46])
 (.cond (.t 37) (.reg [rr 11 (.mov (.c (.str [53, 49])))])
 (.skip))))))))
 (.seq (.seq (.reg [mv 47 11,
 rr 48 (.eq1 (.s) true (.t 47) (.c (.str [48, 48])))])
 (.cond (.t 48) (.seq (.reg [mv 49 0,
 rr 50 (.loadN 2 (.t 5)),
 mv 51 11,
 cl 52 184 [.t 49, .t 50, .t 51, (ci (-1)), (ci 0)]])
 (.seq (.reg [mv 53 11,
 mv 8 53])
 (.ret)))
 (.skip)))
 (.seq (.reg [mv 54 0,
 rr 55 (.nilchk (.t 54)),
 rr 56 (.fld 1 (.t 55)),
 rr 57 (.load1 (.t 56)),
 mv 58 10,
 rr 59 (.idxS 1 (.t 57) (.t 58)),
 rr 60 (.load1 (.t 59)),
 mv 61 3,
 rr 62 (.arith .sub (.t 60) (.t 61)),
 rr 63 (.idxS 1 (.t 57) (.t 58)),
 ff (.store1 (.t 63) (.t 62))])
 (.seq (.reg [mv 64 0,
 rr 65 (.loadN 2 (.t 5)),
 mv 66 11,
 mv 67 10,
 mv 68 3,
 cl 69 184 [.t 64, .t 65, .t 66, .t 67, .t 68]])
 (.seq (.reg [mv 70 11,
 mv 8 70])
 (.ret)))))))))⟩
/-- guichet/guichetref12.term -/
def b121 : AFunc := ⟨14, [.tmp 2],
 .seq (.reg [nn 1 (.box (.t 0)),
 rr 2 (.mov (.c (.str [])))])
 (.seq (.reg [rr 6 (.fld 0 (.t 1)),
 rr 7 (.load1 (.t 6)),
 rr 8 (.toInt .i64 (.t 7)),
 cl 9 113 [.t 8, (ci 7)],
 mv 5 9,
 rr 10 (.ext (.t 5) 0),
 rr 11 (.ext (.t 5) 1),
 mv 3 10,
 mv 4 11])
 (.seq (.reg [mv 12 3,
 rr 13 (.arith .add (.c (.str [84])) (.t 12)),
 mv 2 13])
 (.ret)))⟩
/-- guichet/guichetref1.Pan -/
def b122 : AFunc := ⟨15, [.tmp 2],
 .seq (.reg [rr 2 (.mov (.c (.bool false)))])
 (.seq (.reg [mv 3 0,
 rr 4 (.len 0 (.t 3)),
 rr 5 (.cmp .geq (.t 4) (ci 1)),
 mv 6 5,
 gr 7 (.mov (.t 0)) 6 true,
 gr 8 (.len 0 (.t 7)) 6 true,
 gr 9 (.cmp .leq (.t 8) (ci 19)) 6 true,
 rr 10 (.pick (.t 6) (.t 9) (.c (.bool false))),
 mv 11 10,
 gr 12 (.mov (.t 0)) 11 true,
 ⟨(some 13), .e (.call (.c (.fn (.func 60) [] [])) [.t 12]), (some (11, true))⟩,
 rr 14 (.pick (.t 11) (.t 13) (.c (.bool false))),
 mv 2 14])
 (.ret))⟩
/-- slices.Collect[guichet/api.Key] -/
def b125 : AFunc := ⟨5, [.tmp 2],
 .seq (.reg [rr 2 (.mov (.c (.slice none (.n 0) (.exact 0))))])
 (.seq (.reg [mv 3 0,
 cl 4 185 [(.c (.slice none (.n 0) (.exact 0))), .t 3],
 mv 2 4])
 (.ret))⟩
/-- slices.SortFunc[[]guichet/api.Key,guichet/api.Key] -/
def b126 : AFunc := ⟨14, [],
 .seq (.reg [mv 5 0,
 rr 6 (.len 1 (.t 5)),
 mv 4 6])
 (.reg [mv 7 0,
 mv 8 4,
 mv 9 4,
 rr 10 (.toInt .u64 (.t 9)),
 cl 11 187 [.t 10],
 mv 12 1,
 cl 13 186 [.t 7, (ci 0), .t 8, .t 11, .t 12]])⟩
/-- guichet/money.cassettes -/
def b131 : AFunc := ⟨38, [.tmp 2],
 .seq (.reg [nn 1 (.box (.t 0)),
 rr 2 (.mov (.c (.bool false)))])
 (.seq (.seq (.reg [rr 5 (.loadN 16 (.t 1)),
 rr 6 (.mov (ci 0))])
 (.block 0 (.loop [] (.seq (.reg [rr 7 (.cmp .lss (.t 6) (ci 4))])
 (.seq (.cond (.t 7) (.skip)
 (.exit 0))
 (.seq (.block 1 (.seq (.reg [rr 8 (.at 4 4 false (.t 5) (.t 6)),
 nn 4 (.zbox [(.int .i64 0), (.int .i64 0), (.int .i64 0), (.int .i64 0)]),
 ff (.storeN 4 (.t 4) (.t 8))])
 (.seq (.reg [rr 9 (.fld 0 (.t 4)),
 rr 10 (.load1 (.t 9)),
 rr 11 (.cmp .lss (.t 10) (ci 1)),
 mv 12 11,
 gr 13 (.fld 0 (.t 4)) 12 false,
 gr 14 (.load1 (.t 13)) 12 false,
 gr 15 (.cmp .gtr (.t 14) (ci 100000)) 12 false,
 rr 16 (.pick (.t 12) (.c (.bool true)) (.t 15)),
 mv 17 16,
 gr 18 (.fld 1 (.t 4)) 17 false,
 gr 19 (.load1 (.t 18)) 17 false,
 gr 20 (.cmp .lss (.t 19) (ci 0)) 17 false,
 rr 21 (.pick (.t 17) (.c (.bool true)) (.t 20)),
 mv 22 21,
 gr 23 (.fld 1 (.t 4)) 22 false,
 gr 24 (.load1 (.t 23)) 22 false,
 gr 25 (.cmp .gtr (.t 24) (ci 10000)) 22 false,
 rr 26 (.pick (.t 22) (.c (.bool true)) (.t 25)),
 mv 27 26,
 gr 28 (.fld 2 (.t 4)) 27 false,
 gr 29 (.load1 (.t 28)) 27 false,
 gr 30 (.cmp .neq (.t 29) (ci 0)) 27 false,
 rr 31 (.pick (.t 27) (.c (.bool true)) (.t 30)),
 mv 32 31,
 gr 33 (.fld 3 (.t 4)) 32 false,
 gr 34 (.load1 (.t 33)) 32 false,
 gr 35 (.cmp .neq (.t 34) (ci 0)) 32 false,
 rr 36 (.pick (.t 32) (.c (.bool true)) (.t 35))])
 (.cond (.t 36) (.seq (.reg [rr 2 (.mov (.c (.bool false)))])
 (.ret))
 (.skip)))))
 (.reg [rr 37 (.arith .add (.t 6) (ci 1)),
 mv 6 37])))))))
 (.seq (.reg [rr 2 (.mov (.c (.bool true)))])
 (.ret)))⟩
/-- guichet/frame.Digits -/
def b132 : AFunc := ⟨20, [.tmp 2],
 .seq (.reg [rr 2 (.mov (.c (.bool false)))])
 (.seq (.seq (.reg [mv 4 0,
 rr 5 (.len 0 (.t 4)),
 rr 6 (.mov (ci 0))])
 (.block 0 (.loop [] (.seq (.reg [rr 7 (.cmp .lss (.t 6) (.t 5))])
 (.seq (.cond (.t 7) (.skip)
 (.exit 0))
 (.seq (.block 1 (.seq (.reg [mv 8 6,
 mv 3 8])
 (.seq (.reg [mv 9 0,
 mv 10 3,
 rr 11 (.strAt (.t 9) (.t 10)),
 rr 12 (.cmp .lss (.t 11) (.c (.int .u8 48))),
 mv 13 12,
 gr 14 (.mov (.t 0)) 13 false,
 gr 15 (.mov (.t 3)) 13 false,
 gr 16 (.strAt (.t 14) (.t 15)) 13 false,
 gr 17 (.cmp .gtr (.t 16) (.c (.int .u8 57))) 13 false,
 rr 18 (.pick (.t 13) (.c (.bool true)) (.t 17))])
 (.cond (.t 18) (.seq (.reg [rr 2 (.mov (.c (.bool false)))])
 (.ret))
 (.skip)))))
 (.reg [rr 19 (.arith .add (.t 6) (ci 1)),
 mv 6 19])))))))
 (.seq (.reg [rr 2 (.mov (.c (.bool true)))])
 (.ret)))⟩
/-- guichet/cassette.New -/
def b136 : AFunc := ⟨27, [.tmp 2],
 .seq (.reg [nn 1 (.box (.t 0)),
 rr 2 (.mov (.c (.ptr none)))])
 (.seq (.reg [rr 6 (.build [(.int .i64 0), (.int .i64 0), (.int .i64 0), (.int .i64 0), (.int .i64 0), (.int .i64 0), (.int .i64 0), (.int .i64 0), (.int .i64 0), (.int .i64 0), (.int .i64 0), (.int .i64 0), (.int .i64 0), (.int .i64 0), (.int .i64 0), (.int .i64 0)] []),
 nn 7 (.box (.t 6)),
 mv 3 7])
 (.seq (.seq (.reg [rr 8 (.loadN 16 (.t 1)),
 rr 9 (.mov (ci 0))])
 (.block 0 (.loop [] (.seq (.reg [rr 10 (.cmp .lss (.t 9) (ci 4))])
 (.seq (.cond (.t 10) (.skip)
 (.exit 0))
 (.seq (.block 1 (.seq (.reg [mv 11 9,
 rr 12 (.at 4 4 false (.t 8) (.t 9)),
 nn 5 (.zbox [(.int .i64 0), (.int .i64 0), (.int .i64 0), (.int .i64 0)]),
 mv 4 11,
 ff (.storeN 4 (.t 5) (.t 12))])
 (.dreg [⟨0, mv 13 3, false, []⟩,
 ⟨1, mv 14 4, false, []⟩,
 ⟨2, rr 15 (.fld 0 (.t 5)), false, []⟩,
 ⟨3, rr 16 (.load1 (.t 15)), false, []⟩,
 ⟨4, rr 17 (.fld 1 (.t 5)), false, []⟩,
 ⟨5, rr 18 (.load1 (.t 17)), false, []⟩,
 ⟨6, rr 19 (.minmax true (.t 18) (ci 0)), false, []⟩,
 ⟨7, rr 20 (.minmax false (.t 19) (ci 10000)), false, []⟩,
 ⟨8, rr 21 (.build [(.int .i64 0), (.int .i64 0), (.int .i64 0), (.int .i64 0)] [(0, (1, (.t 16))), (1, (1, (.t 20)))]), false, []⟩,
 ⟨9, rr 22 (.nilchk (.t 13)), false, []⟩,
 ⟨10, rr 23 (.fld 0 (.t 22)), false, []⟩,
 ⟨11, rr 24 (.idxA 4 4 (.t 23) (.t 14)), false, []⟩,
 ⟨12, ff (.storeN 4 (.t 24) (.t 21)), true, [11, 10, 9, 8, 7, 6, 5, 4, 3, 2, 1, 0]⟩])))
 (.reg [rr 25 (.arith .add (.t 9) (ci 1)),
 mv 9 25])))))))
 (.seq (.reg [mv 26 3,
 mv 2 26])
 (.ret))))⟩
/-- guichet/frame.Right -/
def b137 : AFunc := ⟨42, [.tmp 2],
 .seq (.reg [nn 1 (.box (.t 0)),
 rr 2 (.mov (.c (.bool false)))])
 (.seq (.reg [rr 3 (.fld 0 (.t 1)),
 rr 4 (.load1 (.t 3)),
 rr 5 (.cmp .geq (.t 4) (ci 1)),
 mv 6 5,
 gr 7 (.fld 0 (.t 1)) 6 true,
 gr 8 (.load1 (.t 7)) 6 true,
 gr 9 (.cmp .lss (.t 8) (ci 10)) 6 true,
 rr 10 (.pick (.t 6) (.t 9) (.c (.bool false))),
 mv 11 10,
 gr 12 (.fld 3 (.t 1)) 11 true,
 gr 13 (.load1 (.t 12)) 11 true,
 gr 14 (.len 0 (.t 13)) 11 true,
 gr 15 (.cmp .leq (.t 14) (ci 19)) 11 true,
 rr 16 (.pick (.t 11) (.t 15) (.c (.bool false))),
 mv 17 16,
 gr 18 (.fld 3 (.t 1)) 17 true,
 gr 19 (.load1 (.t 18)) 17 true,
 ⟨(some 20), .e (.call (.c (.fn (.func 132) [] [])) [.t 19]), (some (17, true))⟩,
 rr 21 (.pick (.t 17) (.t 20) (.c (.bool false))),
 mv 22 21,
 gr 23 (.fld 4 (.t 1)) 22 true,
 gr 24 (.load1 (.t 23)) 22 true,
 gr 25 (.cmp .geq (.t 24) (ci 0)) 22 true,
 rr 26 (.pick (.t 22) (.t 25) (.c (.bool false))),
 mv 27 26,
 gr 28 (.fld 4 (.t 1)) 27 true,
 gr 29 (.load1 (.t 28)) 27 true,
 gr 30 (.cmp .leq (.t 29) (ci 1000000)) 27 true,
 rr 31 (.pick (.t 27) (.t 30) (.c (.bool false))),
 mv 32 31,
 gr 33 (.fld 5 (.t 1)) 32 true,
 gr 34 (.loadN 4 (.t 33)) 32 true,
 gr 35 (.fld 9 (.t 1)) 32 true,
 gr 36 (.loadN 4 (.t 35)) 32 true,
 gr 37 (.fld 13 (.t 1)) 32 true,
 gr 38 (.loadN 4 (.t 37)) 32 true,
 ⟨(some 39), .n (.bslice (some .notes) 4 3 [.t 34, .t 36, .t 38]), (some (32, true))⟩,
 ⟨(some 40), .e (.call (.c (.fn (.func 194) [] [])) [.t 39]), (some (32, true))⟩,
 rr 41 (.pick (.t 32) (.t 40) (.c (.bool false))),
 mv 2 41])
 (.ret))⟩
/-- (*guichet/book.Book).step -/
def b140 : AFunc := ⟨72, [.tmp 6],
 .seq (.reg [nn 4 (.box (.t 1)),
 nn 5 (.box (.t 2)),
 rr 6 (.mov (ci 0))])
 (.seq (.dreg [⟨0, mv 13 0, false, []⟩,
 ⟨1, rr 14 (.nilchk (.t 13)), false, []⟩,
 ⟨2, rr 15 (.fld 2 (.t 14)), false, []⟩,
 ⟨3, rr 16 (.load1 (.t 15)), false, []⟩,
 ⟨4, rr 17 (.fld 1 (.t 4)), false, []⟩,
 ⟨5, rr 18 (.loadN 2 (.t 17)), false, []⟩,
 ⟨6, rr 19 (.look .key .txn true (.t 16) (.t 18)), false, []⟩,
 ⟨7, mv 12 19, false, []⟩,
 ⟨8, rr 20 (.ext (.t 12) 0), false, []⟩,
 ⟨9, rr 21 (.ext (.t 12) 1), false, []⟩,
 ⟨10, nn 7 (.zbox [(.int .u16 0), (.int .u32 0), (.str []), (.int .i64 0), (.int .i64 0), (.int .i64 0), (.int .i64 0), (.int .i64 0), (.int .i64 0), (.int .i64 0), (.int .i64 0)]), false, []⟩,
 ⟨11, ff (.storeN 11 (.t 7) (.t 20)), true, [10, 8, 7, 6, 5, 4, 3, 2, 1, 0]⟩,
 ⟨12, mv 8 21, false, []⟩])
 (.seq (.reg [rr 23 (.loadN 11 (.t 7)),
 rr 24 (.loadN 17 (.t 4)),
 cl 25 197 [.t 23, .t 24],
 mv 22 25,
 rr 26 (.ext (.t 22) 0),
 rr 27 (.ext (.t 22) 1),
 nn 9 (.zbox [(.int .u16 0), (.int .u32 0), (.str []), (.int .i64 0), (.int .i64 0), (.int .i64 0), (.int .i64 0), (.int .i64 0), (.int .i64 0), (.int .i64 0), (.int .i64 0)]),
 ff (.storeN 11 (.t 9) (.t 26)),
 mv 10 27])
 (.seq (.block 0 (.seq (.reg [mv 29 10,
 rr 30 (.cmp .neq (.t 29) (ci 0)),
 mv 28 30])
 (.cond (.t 28) (.seq (.reg [mv 31 10,
 mv 6 31])
 (.ret))
 (.seq (.reg [mv 33 8,
 rr 34 (.not (.t 33)),
 mv 35 34,
 gr 36 (.mov (.t 0)) 35 true,
 gr 37 (.nilchk (.t 36)) 35 true,
 gr 38 (.fld 2 (.t 37)) 35 true,
 gr 39 (.load1 (.t 38)) 35 true,
 gr 40 (.len 2 (.t 39)) 35 true,
 gr 41 (.cmp .geq (.t 40) (ci 400)) 35 true,
 rr 42 (.pick (.t 35) (.t 41) (.c (.bool false))),
 mv 32 42])
 (.cond (.t 32) (.seq (.reg [rr 6 (.mov (ci 21))])
 (.ret))
 (.seq (.reg [rr 44 (.fld 0 (.t 4)),
 rr 45 (.load1 (.t 44)),
 rr 46 (.cmp .eql (.t 45) (ci 6)),
 mv 43 46])
 (.cond (.t 43) (.seq (.seq (.reg [rr 47 (.fld 0 (.t 5)),
 rr 48 (.fld 5 (.t 4)),
 rr 49 (.loadN 4 (.t 48)),
 rr 50 (.fld 9 (.t 4)),
 rr 51 (.loadN 4 (.t 50)),
 cl 52 139 [.t 47, .t 49, .t 51],
 mv 11 52])
 (.seq (.reg [mv 53 11,
 rr 54 (.cmp .neq (.t 53) (ci 0))])
 (.cond (.t 54) (.seq (.reg [mv 55 11,
 mv 6 55])
 (.ret))
 (.skip))))
 (.dreg [⟨0, mv 56 0, false, []⟩,
 ⟨1, rr 57 (.nilchk (.t 56)), false, []⟩,
 ⟨2, rr 58 (.fld 1 (.t 57)), false, []⟩,
 ⟨3, rr 59 (.load1 (.t 58)), false, []⟩,
 ⟨4, rr 60 (.fld 1 (.t 4)), false, []⟩,
 ⟨5, rr 61 (.fld 0 (.t 60)), false, []⟩,
 ⟨6, rr 62 (.load1 (.t 61)), false, []⟩,
 ⟨7, rr 63 (.loadN 18 (.t 5)), false, []⟩,
 ⟨8, rr 64 (.idxS 18 (.t 59) (.t 62)), false, []⟩,
 ⟨9, ff (.storeN 18 (.t 64) (.t 63)), true, [8, 7, 6, 5, 4, 3, 2, 1, 0]⟩]))
 (.skip))))))))
 (.seq (.dreg [⟨0, mv 65 0, false, []⟩,
 ⟨1, rr 66 (.nilchk (.t 65)), false, []⟩,
 ⟨2, rr 67 (.fld 2 (.t 66)), false, []⟩,
 ⟨3, rr 68 (.load1 (.t 67)), false, []⟩,
 ⟨4, rr 69 (.fld 1 (.t 4)), false, []⟩,
 ⟨5, rr 70 (.loadN 2 (.t 69)), false, []⟩,
 ⟨6, rr 71 (.loadN 11 (.t 9)), false, []⟩,
 ⟨7, ff (.upd .key .txn (.t 68) (.t 70) (.t 71)), true, [6, 5, 4, 3, 2, 1, 0]⟩])
 (.seq (.reg [rr 6 (.mov (ci 0))])
 (.ret))))))⟩
/-- guichet/guichetref12.has -/
def b143 : AFunc := ⟨17, [.tmp 4],
 .seq (.reg [rr 4 (.mov (.c (.bool false)))])
 (.seq (.seq (.reg [rr 5 (.mov (ci 0))])
 (.block 0 (.loop [] (.seq (.seq (.reg [mv 6 5,
 mv 7 0,
 rr 8 (.len 0 (.t 7)),
 rr 9 (.cmp .lss (.t 6) (.t 8))])
 (.cond (.t 9) (.skip)
 (.exit 0)))
 (.seq (.block 1 (.seq (.reg [mv 12 0,
 mv 13 5,
 rr 14 (.strAt (.t 12) (.t 13)),
 mv 15 1,
 rr 16 (.cmp .eql (.t 14) (.t 15))])
 (.cond (.t 16) (.seq (.reg [rr 4 (.mov (.c (.bool true)))])
 (.ret))
 (.skip))))
 (.reg [mv 10 5,
 rr 11 (.arith .add (.t 10) (ci 1)),
 mv 5 11]))))))
 (.seq (.reg [rr 4 (.mov (.c (.bool false)))])
 (.ret)))⟩
/-- guichet/guichetref12.number -/
def b144 : AFunc := ⟨21, [.tmp 2, .tmp 3],
 .seq (.reg [rr 2 (.mov (ci 0)),
 rr 3 (.mov (.c (.bool false)))])
 (.seq (.seq (.reg [mv 4 0,
 rr 5 (.len 0 (.t 4)),
 rr 6 (.cmp .gtr (.t 5) (ci 10)),
 mv 7 6,
 gr 8 (.mov (.t 0)) 7 false,
 gr 9 (.len 0 (.t 8)) 7 false,
 gr 10 (.cmp .gtr (.t 9) (ci 1)) 7 false,
 gr 11 (.mov (.t 10)) 7 false,
 gr 12 (.mov (.t 0)) 11 true,
 gr 13 (.strAt (.t 12) (ci 0)) 11 true,
 gr 14 (.cmp .eql (.t 13) (.c (.int .u8 48))) 11 true,
 gr 15 (.pick (.t 11) (.t 14) (.c (.bool false))) 7 false,
 rr 16 (.pick (.t 7) (.c (.bool true)) (.t 15))])
 (.cond (.t 16) (.seq (.reg [rr 2 (.mov (ci 0)),
 rr 3 (.mov (.c (.bool false)))])
 (.ret))
 (.skip)))
 (.seq (.reg [mv 17 0,
 cl 18 116 [.t 17],
 rr 19 (.ext (.t 18) 0),
 rr 20 (.ext (.t 18) 1),
 mv 2 19,
 mv 3 20])
 (.ret)))⟩
/-- guichet/guichetref12.within -/
def b145 : AFunc := ⟨21, [.tmp 4],
 .seq (.reg [nn 2 (.box (.t 0)),
 rr 4 (.mov (.c (.bool false)))])
 (.seq (.seq (.reg [rr 5 (.mov (ci 0))])
 (.block 0 (.loop [] (.seq (.seq (.reg [mv 6 5,
 rr 7 (.cmp .lss (.t 6) (ci 4))])
 (.cond (.t 7) (.skip)
 (.exit 0)))
 (.seq (.block 1 (.seq (.reg [mv 10 5,
 rr 11 (.idxA 4 1 (.t 2) (.t 10)),
 rr 12 (.load1 (.t 11)),
 rr 13 (.cmp .lss (.t 12) (ci 0)),
 mv 14 13,
 gr 15 (.mov (.t 5)) 14 false,
 gr 16 (.idxA 4 1 (.t 2) (.t 15)) 14 false,
 gr 17 (.load1 (.t 16)) 14 false,
 gr 18 (.mov (.t 1)) 14 false,
 gr 19 (.cmp .gtr (.t 17) (.t 18)) 14 false,
 rr 20 (.pick (.t 14) (.c (.bool true)) (.t 19))])
 (.cond (.t 20) (.seq (.reg [rr 4 (.mov (.c (.bool false)))])
 (.ret))
 (.skip))))
 (.reg [mv 8 5,
 rr 9 (.arith .add (.t 8) (ci 1)),
 mv 5 9]))))))
 (.seq (.reg [rr 4 (.mov (.c (.bool true)))])
 (.ret)))⟩
/-- strings.Split -/
def b148 : AFunc := ⟨8, [.tmp 4],
 .seq (.reg [rr 4 (.mov (.c (.slice none (.n 0) (.exact 0))))])
 (.seq (.reg [mv 5 0,
 mv 6 1,
 cl 7 203 [.t 5, .t 6, (ci 0), (ci (-1))],
 mv 4 7])
 (.ret))⟩
/-- strconv.Atoi -/
def b149 : AFunc := ⟨18, [.tmp 2, .tmp 3],
 .seq (.reg [rr 2 (.mov (ci 0)),
 rr 3 (.mov (.c .nilIfc))])
 (.seq (.reg [mv 7 0,
 cl 8 204 [.t 7],
 mv 6 8,
 rr 9 (.ext (.t 6) 0),
 rr 10 (.ext (.t 6) 1),
 mv 4 9,
 mv 5 10])
 (.seq (.seq (.reg [mv 11 5,
 rr 12 (.eqI true (.t 11))])
 (.cond (.t 12) (.seq (.reg [mv 13 4,
 mv 14 0,
 mv 15 5,
 cl 16 205 [(.c (.str [65, 116, 111, 105])), .t 14, (ci 0), (ci 0), .t 15],
 mv 2 13,
 mv 3 16])
 (.ret))
 (.skip)))
 (.seq (.reg [mv 17 4,
 mv 2 17,
 rr 3 (.mov (.c .nilIfc))])
 (.ret))))⟩
/-- strconv.Itoa -/
def b150 : AFunc := ⟨5, [.tmp 2],
 .seq (.reg [rr 2 (.mov (.c (.str [])))])
 (.seq (.reg [mv 3 0,
 cl 4 206 [.t 3],
 mv 2 4])
 (.ret))⟩
/-- guichet/ndc.parts -/
def b151 : AFunc := ⟨47, [.cellN 2 26],
 .seq (.reg [nn 1 (.box (.t 0)),
 nn 2 (.zbox [(.int .i64 0), (.int .u16 0), (.int .u32 0), (.str []), (.int .i64 0), (.int .i64 0), (.int .i64 0), (.int .i64 0), (.int .i64 0), (.int .i64 0), (.int .i64 0), (.int .i64 0), (.int .i64 0), (.int .i64 0), (.int .i64 0), (.int .i64 0), (.int .i64 0), (.int .i64 0), (.int .i64 0), (.int .i64 0), (.int .i64 0), (.int .i64 0), (.int .i64 0), (.int .i64 0), (.int .i64 0), (.int .i64 0)])])
 (.seq (.reg [rr 4 (.fld 0 (.t 1)),
 rr 5 (.load1 (.t 4)),
 rr 6 (.fld 1 (.t 1)),
 rr 7 (.load1 (.t 6)),
 rr 8 (.build [(.int .i64 0), (.int .u16 0), (.int .u32 0), (.str []), (.int .i64 0), (.int .i64 0), (.int .i64 0), (.int .i64 0), (.int .i64 0), (.int .i64 0), (.int .i64 0), (.int .i64 0), (.int .i64 0), (.int .i64 0), (.int .i64 0), (.int .i64 0), (.int .i64 0), (.int .i64 0), (.int .i64 0), (.int .i64 0), (.int .i64 0), (.int .i64 0), (.int .i64 0), (.int .i64 0), (.int .i64 0), (.int .i64 0)] [(0, (1, (.t 5))), (1, (1, (.t 7)))]),
 nn 3 (.zbox [(.int .i64 0), (.int .u16 0), (.int .u32 0), (.str []), (.int .i64 0), (.int .i64 0), (.int .i64 0), (.int .i64 0), (.int .i64 0), (.int .i64 0), (.int .i64 0), (.int .i64 0), (.int .i64 0), (.int .i64 0), (.int .i64 0), (.int .i64 0), (.int .i64 0), (.int .i64 0), (.int .i64 0), (.int .i64 0), (.int .i64 0), (.int .i64 0), (.int .i64 0), (.int .i64 0), (.int .i64 0), (.int .i64 0)]),
 ff (.storeN 26 (.t 3) (.t 8))])
 (.seq (.seq (.reg [rr 9 (.fld 0 (.t 1)),
 rr 10 (.load1 (.t 9)),
 rr 11 (.cmp .neq (.t 10) (ci 3))])
 (.cond (.t 11) (.reg [rr 12 (.fld 2 (.t 1)),
 rr 13 (.load1 (.t 12)),
 rr 14 (.fld 2 (.t 3)),
 ff (.store1 (.t 14) (.t 13))])
 (.skip)))
 (.seq (.seq (.reg [rr 15 (.fld 0 (.t 1)),
 rr 16 (.load1 (.t 15))])
 (.block 0 (.seq (.reg [rr 18 (.cmp .eql (.t 16) (ci 1)),
 mv 17 18])
 (.cond (.t 17) (.dreg [⟨0, rr 19 (.fld 3 (.t 1)), false, []⟩,
 ⟨1, rr 20 (.load1 (.t 19)), false, []⟩,
 ⟨2, rr 21 (.fld 4 (.t 1)), false, []⟩,
 ⟨3, rr 22 (.load1 (.t 21)), false, []⟩,
 ⟨4, rr 23 (.fld 3 (.t 3)), false, []⟩,
 ⟨5, ff (.store1 (.t 23) (.t 20)), true, [4, 1, 0]⟩,
 ⟨6, rr 24 (.fld 4 (.t 3)), false, []⟩,
 ⟨7, ff (.store1 (.t 24) (.t 22)), true, [6, 5, 4, 3, 2, 1, 0]⟩])
 (.seq (.reg [rr 26 (.cmp .eql (.t 16) (ci 2)),
 mv 25 26])
 (.cond (.t 25) (.dreg [⟨0, rr 27 (.fld 5 (.t 1)), false, []⟩,
 ⟨1, rr 28 (.loadN 4 (.t 27)), false, []⟩,
 ⟨2, rr 29 (.fld 9 (.t 1)), false, []⟩,
 ⟨3, rr 30 (.loadN 4 (.t 29)), false, []⟩,
 ⟨4, rr 31 (.fld 5 (.t 3)), false, []⟩,
 ⟨5, ff (.storeN 4 (.t 31) (.t 28)), true, [4, 1, 0]⟩,
 ⟨6, rr 32 (.fld 9 (.t 3)), false, []⟩,
 ⟨7, ff (.storeN 4 (.t 32) (.t 30)), true, [6, 5, 4, 3, 2, 1, 0]⟩])
 (.seq (.reg [rr 34 (.cmp .eql (.t 16) (ci 4)),
 mv 33 34])
 (.cond (.t 33) (.seq (.reg [rr 35 (.loadN 26 (.t 1)),
 ff (.storeN 26 (.t 3) (.t 35))])
 (.reg [rr 36 (.fld 3 (.t 3)),
 ff (.store1 (.t 36) (.c (.str []))),
 rr 37 (.fld 4 (.t 3)),
 ff (.store1 (.t 37) (ci 0))]))
 (.seq (.reg [rr 39 (.cmp .eql (.t 16) (ci 5)),
 mv 38 39])
 (.cond (.t 38) (.dreg [⟨0, rr 40 (.fld 4 (.t 1)), false, []⟩,
 ⟨1, rr 41 (.load1 (.t 40)), false, []⟩,
 ⟨2, rr 42 (.fld 5 (.t 1)), false, []⟩,
 ⟨3, rr 43 (.loadN 4 (.t 42)), false, []⟩,
 ⟨4, rr 44 (.fld 4 (.t 3)), false, []⟩,
 ⟨5, ff (.store1 (.t 44) (.t 41)), true, [4, 1, 0]⟩,
 ⟨6, rr 45 (.fld 5 (.t 3)), false, []⟩,
 ⟨7, ff (.storeN 4 (.t 45) (.t 43)), true, [6, 5, 4, 3, 2, 1, 0]⟩])
 (.skip)))))))))))
 (.seq (.reg [rr 46 (.loadN 26 (.t 3)),
 ff (.storeN 26 (.t 2) (.t 46))])
 (.ret)))))⟩
/-- guichet/ndc.within -/
def b152 : AFunc := ⟨28, [.tmp 4],
 .seq (.reg [rr 4 (.mov (.c (.bool false)))])
 (.seq (.seq (.reg [mv 9 1,
 rr 10 (.len 1 (.t 9)),
 rr 11 (.mov (ci 0))])
 (.block 0 (.loop [] (.seq (.reg [rr 12 (.cmp .lss (.t 11) (.t 10))])
 (.seq (.cond (.t 12) (.skip)
 (.exit 0))
 (.seq (.block 1 (.seq (.reg [rr 13 (.idxS 4 (.t 9) (.t 11)),
 rr 14 (.loadN 4 (.t 13)),
 nn 6 (.zbox [(.int .i64 0), (.int .i64 0), (.int .i64 0), (.int .i64 0)]),
 ff (.storeN 4 (.t 6) (.t 14))])
 (.seq (.reg [rr 15 (.loadN 4 (.t 6)),
 rr 16 (.mov (ci 0))])
 (.block 2 (.loop [] (.seq (.reg [rr 17 (.cmp .lss (.t 16) (ci 4))])
 (.seq (.cond (.t 17) (.skip)
 (.exit 2))
 (.seq (.block 3 (.seq (.reg [rr 18 (.at 4 1 true (.t 15) (.t 16)),
 mv 8 18])
 (.seq (.reg [mv 19 8,
 rr 20 (.cmp .lss (.t 19) (ci 0)),
 mv 21 20,
 gr 22 (.mov (.t 8)) 21 false,
 gr 23 (.mov (.t 0)) 21 false,
 gr 24 (.cmp .gtr (.t 22) (.t 23)) 21 false,
 rr 25 (.pick (.t 21) (.c (.bool true)) (.t 24))])
 (.cond (.t 25) (.seq (.reg [rr 4 (.mov (.c (.bool false)))])
 (.ret))
 (.skip)))))
 (.reg [rr 26 (.arith .add (.t 16) (ci 1)),
 mv 16 26])))))))))
 (.reg [rr 27 (.arith .add (.t 11) (ci 1)),
 mv 11 27])))))))
 (.seq (.reg [rr 4 (.mov (.c (.bool true)))])
 (.ret)))⟩
/-- guichet/mix.Find -/
def b153 : AFunc := ⟨83, [.cellN 4 4, .tmp 5],
 .seq (.reg [nn 2 (.box (.t 0)),
 nn 4 (.zbox [(.int .i64 0), (.int .i64 0), (.int .i64 0), (.int .i64 0)]),
 rr 5 (.mov (ci 0))])
 (.seq (.seq (.reg [mv 10 1,
 rr 11 (.cmp .lss (.t 10) (ci 1)),
 mv 12 11,
 gr 13 (.mov (.t 1)) 12 false,
 gr 14 (.cmp .gtr (.t 13) (ci 1000000)) 12 false,
 rr 15 (.pick (.t 12) (.c (.bool true)) (.t 14))])
 (.cond (.t 15) (.seq (.reg [rr 16 (.build [(.int .i64 0), (.int .i64 0), (.int .i64 0), (.int .i64 0)] []),
 ff (.storeN 4 (.t 4) (.t 16)),
 rr 5 (.mov (ci 33))])
 (.ret))
 (.skip)))
 (.seq (.reg [nn 17 (.mkmap .notes .bool),
 rr 18 (.build [(.int .i64 0), (.int .i64 0), (.int .i64 0), (.int .i64 0), (.int .i64 0), (.int .i64 0), (.int .i64 0), (.int .i64 0), (.int .i64 0), (.int .i64 0), (.int .i64 0), (.int .i64 0), (.int .i64 0), (.int .i64 0), (.map none)] [(13, (1, (ci 41))), (14, (1, (.t 17)))]),
 nn 19 (.box (.t 18)),
 mv 6 19])
 (.seq (.seq (.reg [rr 20 (.loadN 16 (.t 2)),
 rr 21 (.mov (ci 0))])
 (.block 0 (.loop [] (.seq (.reg [rr 22 (.cmp .lss (.t 21) (ci 4))])
 (.seq (.cond (.t 22) (.skip)
 (.exit 0))
 (.seq (.block 1 (.seq (.reg [mv 23 21,
 rr 24 (.at 4 4 false (.t 20) (.t 21)),
 nn 8 (.zbox [(.int .i64 0), (.int .i64 0), (.int .i64 0), (.int .i64 0)]),
 mv 7 23,
 ff (.storeN 4 (.t 8) (.t 24))])
 (.seq (.reg [rr 25 (.fld 0 (.t 8)),
 rr 26 (.load1 (.t 25)),
 rr 27 (.cmp .geq (.t 26) (ci 1)),
 mv 28 27,
 gr 29 (.fld 0 (.t 8)) 28 true,
 gr 30 (.load1 (.t 29)) 28 true,
 gr 31 (.cmp .leq (.t 30) (ci 100000)) 28 true,
 rr 32 (.pick (.t 28) (.t 31) (.c (.bool false)))])
 (.cond (.t 32) (.dreg [⟨0, mv 33 6, false, []⟩,
 ⟨1, mv 34 7, false, []⟩,
 ⟨2, mv 35 6, false, []⟩,
 ⟨3, mv 36 7, false, []⟩,
 ⟨4, rr 37 (.loadN 4 (.t 8)), false, []⟩,
 ⟨6, rr 39 (.fld 0 (.t 8)), false, []⟩,
 ⟨7, rr 40 (.load1 (.t 39)), false, []⟩,
 ⟨8, rr 41 (.nilchk (.t 33)), false, []⟩,
 ⟨9, rr 42 (.fld 0 (.t 41)), false, []⟩,
 ⟨12, rr 44 (.nilchk (.t 35)), false, []⟩,
 ⟨13, rr 45 (.fld 4 (.t 44)), false, []⟩,
 ⟨5, cl 38 196 [.t 37], true, [4]⟩,
 ⟨10, rr 43 (.idxA 4 1 (.t 42) (.t 34)), false, []⟩,
 ⟨11, ff (.store1 (.t 43) (.t 38)), true, [10, 9, 8, 5, 4, 1, 0]⟩,
 ⟨14, rr 46 (.idxA 4 1 (.t 45) (.t 36)), false, []⟩,
 ⟨15, ff (.store1 (.t 46) (.t 40)), true, [14, 13, 12, 11, 10, 9, 8, 7, 6, 5, 4, 3, 2, 1, 0]⟩])
 (.skip)))))
 (.reg [rr 47 (.arith .add (.t 21) (ci 1)),
 mv 21 47])))))))
 (.seq (.seq (.reg [rr 9 (.mov (ci 3))])
 (.block 2 (.loop [] (.seq (.seq (.reg [mv 48 9,
 rr 49 (.cmp .geq (.t 48) (ci 0))])
 (.cond (.t 49) (.skip)
 (.exit 2)))
 (.seq (.block 3 (.dreg [⟨0, mv 52 6, false, []⟩,
 ⟨1, mv 53 9, false, []⟩,
 ⟨2, mv 54 6, false, []⟩,
 ⟨3, mv 55 9, false, []⟩,
 ⟨4, rr 56 (.arith .add (.t 55) (ci 1)), false, []⟩,
 ⟨5, rr 57 (.nilchk (.t 54)), false, []⟩,
 ⟨6, rr 58 (.fld 8 (.t 57)), false, []⟩,
 ⟨7, rr 59 (.idxA 5 1 (.t 58) (.t 56)), false, []⟩,
 ⟨8, rr 60 (.load1 (.t 59)), false, []⟩,
 ⟨9, mv 61 6, false, []⟩,
 ⟨10, mv 62 9, false, []⟩,
 ⟨11, rr 63 (.nilchk (.t 61)), false, []⟩,
 ⟨12, rr 64 (.fld 4 (.t 63)), false, []⟩,
 ⟨13, rr 65 (.idxA 4 1 (.t 64) (.t 62)), false, []⟩,
 ⟨14, rr 66 (.load1 (.t 65)), false, []⟩,
 ⟨15, rr 67 (.minmax true (.t 60) (.t 66)), false, []⟩,
 ⟨16, rr 68 (.nilchk (.t 52)), false, []⟩,
 ⟨17, rr 69 (.fld 8 (.t 68)), false, []⟩,
 ⟨18, rr 70 (.idxA 5 1 (.t 69) (.t 53)), false, []⟩,
 ⟨19, ff (.store1 (.t 70) (.t 67)), true, [18, 17, 16, 15, 14, 13, 12, 11, 10, 9, 8, 7, 6, 5, 4, 3, 2, 1, 0]⟩]))
 (.reg [mv 50 9,
 rr 51 (.arith .sub (.t 50) (ci 1)),
 mv 9 51]))))))
 (.seq (.reg [mv 71 6,
 rr 72 (.build [(.int .i64 0), (.int .i64 0), (.int .i64 0), (.int .i64 0)] []),
 mv 73 1,
 cl 74 207 [.t 71, (ci 0), .t 72, (ci 0), .t 73]])
 (.seq (.seq (.reg [mv 75 6,
 rr 76 (.nilchk (.t 75)),
 rr 77 (.fld 13 (.t 76)),
 rr 78 (.load1 (.t 77)),
 rr 79 (.cmp .gtr (.t 78) (ci 40))])
 (.cond (.t 79) (.seq (.reg [rr 80 (.build [(.int .i64 0), (.int .i64 0), (.int .i64 0), (.int .i64 0)] []),
 ff (.storeN 4 (.t 4) (.t 80)),
 rr 5 (.mov (ci 33))])
 (.ret))
 (.skip)))
 (.seq (.reg [mv 81 6,
 cl 82 208 [.t 81],
 ff (.storeN 4 (.t 4) (.t 82)),
 rr 5 (.mov (ci 0))])
 (.ret))))))))⟩
/-- (*guichet/book.Book).Open -/
def b154 : AFunc := ⟨9, [.tmp 4],
 .seq (.reg [nn 3 (.box (.t 1)),
 rr 4 (.mov (.c (.slice none (.n 0) (.exact 0))))])
 (.seq (.reg [mv 5 0,
 cl 6 33 [.t 5],
 rr 7 (.mkfn (.func 210) [] [.t 3]),
 cl 8 209 [.t 6, .t 7],
 mv 4 8])
 (.ret))⟩
/-- guichet/money.Check -/
def b155 : AFunc := ⟨15, [.tmp 4],
 .seq (.reg [nn 2 (.box (.t 0)),
 rr 4 (.mov (ci 0))])
 (.seq (.seq (.reg [mv 5 1,
 rr 6 (.fld 3 (.t 2)),
 rr 7 (.load1 (.t 6)),
 rr 8 (.cmp .lss (.t 5) (.t 7)),
 mv 9 8,
 gr 10 (.mov (.t 1)) 9 false,
 gr 11 (.fld 4 (.t 2)) 9 false,
 gr 12 (.load1 (.t 11)) 9 false,
 gr 13 (.cmp .gtr (.t 10) (.t 12)) 9 false,
 rr 14 (.pick (.t 9) (.c (.bool true)) (.t 13))])
 (.cond (.t 14) (.seq (.reg [rr 4 (.mov (ci 34))])
 (.ret))
 (.skip)))
 (.seq (.reg [rr 4 (.mov (ci 0))])
 (.ret)))⟩
/-- guichet/host.Debit -/
def b156 : AFunc := ⟨19, [.tmp 6, .tmp 7],
 .seq (.reg [nn 3 (.box (.t 0)),
 rr 6 (.mov (.c (.slice none (.n 0) (.exact 0)))),
 rr 7 (.mov (ci 0))])
 (.seq (.seq (.reg [rr 8 (.loadN 2 (.t 3)),
 mv 9 2,
 cl 10 163 [.t 8, .t 9],
 rr 11 (.not (.t 10))])
 (.cond (.t 11) (.seq (.reg [rr 6 (.mov (.c (.slice none (.n 0) (.exact 0)))),
 rr 7 (.mov (ci 27))])
 (.ret))
 (.skip)))
 (.seq (.reg [rr 12 (.loadN 2 (.t 3)),
 mv 13 1,
 mv 14 2,
 cl 15 165 [.t 12, .t 13, .t 14],
 cl 16 164 [(ci 200), .t 15],
 rr 17 (.ext (.t 16) 0),
 rr 18 (.ext (.t 16) 1),
 mv 6 17,
 mv 7 18])
 (.ret)))⟩
/-- (*guichet/core.Switch).sent -/
def b158 : AFunc := ⟨25, [.cellN 4 11, .tmp 5],
 .seq (.reg [nn 4 (.zbox [(.int .u16 0), (.int .u32 0), (.str []), (.int .i64 0), (.int .i64 0), (.int .i64 0), (.int .i64 0), (.int .i64 0), (.int .i64 0), (.int .i64 0), (.int .i64 0)]),
 rr 5 (.mov (.c (.bool false)))])
 (.seq (.seq (.reg [mv 8 0,
 rr 9 (.nilchk (.t 8)),
 rr 10 (.fld 7 (.t 9)),
 rr 11 (.load1 (.t 10)),
 mv 12 1,
 cl 13 154 [.t 11, .t 12],
 rr 14 (.len 1 (.t 13)),
 rr 15 (.mov (ci 0))])
 (.block 0 (.loop [] (.seq (.reg [rr 16 (.cmp .lss (.t 15) (.t 14))])
 (.seq (.cond (.t 16) (.skip)
 (.exit 0))
 (.seq (.block 1 (.seq (.reg [rr 17 (.idxS 11 (.t 13) (.t 15)),
 rr 18 (.loadN 11 (.t 17)),
 nn 7 (.zbox [(.int .u16 0), (.int .u32 0), (.str []), (.int .i64 0), (.int .i64 0), (.int .i64 0), (.int .i64 0), (.int .i64 0), (.int .i64 0), (.int .i64 0), (.int .i64 0)]),
 ff (.storeN 11 (.t 7) (.t 18))])
 (.seq (.reg [rr 19 (.fld 4 (.t 7)),
 rr 20 (.load1 (.t 19)),
 rr 21 (.cmp .eql (.t 20) (ci 3))])
 (.cond (.t 21) (.seq (.reg [rr 22 (.loadN 11 (.t 7)),
 ff (.storeN 11 (.t 4) (.t 22)),
 rr 5 (.mov (.c (.bool true)))])
 (.ret))
 (.skip)))))
 (.reg [rr 23 (.arith .add (.t 15) (ci 1)),
 mv 15 23])))))))
 (.seq (.reg [rr 24 (.build [(.int .u16 0), (.int .u32 0), (.str []), (.int .i64 0), (.int .i64 0), (.int .i64 0), (.int .i64 0), (.int .i64 0), (.int .i64 0), (.int .i64 0), (.int .i64 0)] []),
 ff (.storeN 11 (.t 4) (.t 24)),
 rr 5 (.mov (.c (.bool false)))])
 (.ret)))⟩
/-- (*guichet/core.Switch).tell -/
def b162 : AFunc := ⟨19, [],
 .seq (.reg [nn 3 (.box (.t 1))])
 (.seq (.reg [rr 7 (.loadN 26 (.t 3)),
 cl 8 214 [.t 7],
 mv 6 8,
 rr 9 (.ext (.t 6) 0),
 rr 10 (.ext (.t 6) 1),
 mv 4 9,
 mv 5 10])
 (.seq (.reg [mv 11 5,
 rr 12 (.cmp .eql (.t 11) (ci 0))])
 (.cond (.t 12) (.reg [mv 13 0,
 rr 14 (.fld 1 (.t 3)),
 rr 15 (.load1 (.t 14)),
 rr 16 (.toInt .i64 (.t 15)),
 mv 17 4,
 cl 18 97 [.t 13, .t 16, .t 17]])
 (.skip))))⟩
/-- guichet/host.right -/
def b163 : AFunc := ⟨21, [.tmp 4],
 .seq (.reg [nn 2 (.box (.t 0)),
 rr 4 (.mov (.c (.bool false)))])
 (.seq (.reg [rr 5 (.fld 1 (.t 2)),
 rr 6 (.load1 (.t 5)),
 rr 7 (.cmp .geq (.t 6) (.c (.int .u32 1))),
 mv 8 7,
 gr 9 (.fld 1 (.t 2)) 8 true,
 gr 10 (.load1 (.t 9)) 8 true,
 gr 11 (.cmp .leq (.t 10) (.c (.int .u32 999999))) 8 true,
 rr 12 (.pick (.t 8) (.t 11) (.c (.bool false))),
 mv 13 12,
 gr 14 (.mov (.t 1)) 13 true,
 gr 15 (.cmp .geq (.t 14) (ci 1)) 13 true,
 rr 16 (.pick (.t 13) (.t 15) (.c (.bool false))),
 mv 17 16,
 gr 18 (.mov (.t 1)) 17 true,
 gr 19 (.cmp .leq (.t 18) (ci 1000000)) 17 true,
 rr 20 (.pick (.t 17) (.t 19) (.c (.bool false))),
 mv 4 20])
 (.ret))⟩
/-- guichet/host.put -/
def b164 : AFunc := ⟨12, [.tmp 4, .tmp 5],
 .seq (.reg [rr 4 (.mov (.c (.slice none (.n 0) (.exact 0)))),
 rr 5 (.mov (ci 0))])
 (.seq (.reg [mv 6 0,
 mv 7 1,
 rr 8 (.build [(.int .i64 0), (.slice none (.n 0) (.exact 0))] [(0, (1, (.t 6))), (1, (1, (.t 7)))]),
 cl 9 215 [.t 8],
 rr 10 (.ext (.t 9) 0),
 rr 11 (.ext (.t 9) 1),
 mv 4 10,
 mv 5 11])
 (.ret))⟩
/-- guichet/host.asked -/
def b165 : AFunc := ⟨22, [.tmp 6],
 .seq (.reg [nn 3 (.box (.t 0)),
 rr 6 (.mov (.c (.slice none (.n 0) (.exact 0))))])
 (.seq (.dreg [⟨0, mv 7 1, false, []⟩,
 ⟨1, rr 8 (.build [(.int .i64 0), (.str [])] [(0, (1, (ci 2))), (1, (1, (.t 7)))]), false, []⟩,
 ⟨2, rr 9 (.build [(.int .i64 0), (.str [])] [(0, (1, (ci 3))), (1, (1, (.c (.str [48, 49, 48, 48, 48, 48]))))]), false, []⟩,
 ⟨3, mv 10 2, false, []⟩,
 ⟨6, rr 13 (.fld 1 (.t 3)), false, []⟩,
 ⟨7, rr 14 (.load1 (.t 13)), false, []⟩,
 ⟨8, rr 15 (.toInt .i64 (.t 14)), false, []⟩,
 ⟨11, rr 18 (.loadN 2 (.t 3)), false, []⟩,
 ⟨4, cl 11 166 [.t 10, (ci 12)], true, [3]⟩,
 ⟨5, rr 12 (.build [(.int .i64 0), (.str [])] [(0, (1, (ci 4))), (1, (1, (.t 11)))]), false, []⟩,
 ⟨9, cl 16 166 [.t 15, (ci 6)], true, [8, 7, 6, 4, 3]⟩,
 ⟨10, rr 17 (.build [(.int .i64 0), (.str [])] [(0, (1, (ci 11))), (1, (1, (.t 16)))]), false, []⟩,
 ⟨12, cl 19 216 [.t 18], true, [11, 9, 8, 7, 6, 4, 3]⟩,
 ⟨13, rr 20 (.build [(.int .i64 0), (.str [])] [(0, (1, (ci 41))), (1, (1, (.t 19)))]), false, []⟩,
 ⟨14, nn 21 (.bslice (some .fld) 2 5 [.t 8, .t 9, .t 12, .t 17, .t 20]), false, []⟩,
 ⟨15, mv 6 21, false, []⟩])
 (.ret))⟩
/-- guichet/host.digits -/
def b166 : AFunc := ⟨14, [.tmp 4],
 .seq (.reg [rr 4 (.mov (.c (.str [])))])
 (.seq (.reg [mv 8 0,
 mv 9 1,
 cl 10 217 [.t 8, .t 9],
 mv 7 10,
 rr 11 (.ext (.t 7) 0),
 rr 12 (.ext (.t 7) 1),
 mv 5 11,
 mv 6 12])
 (.seq (.reg [mv 13 5,
 mv 4 13])
 (.ret)))⟩
/-- guichet/iso.Read -/
def b169 : AFunc := ⟨86, [.cellN 2 2, .tmp 3],
 .seq (.reg [nn 2 (.zbox [(.int .i64 0), (.slice none (.n 0) (.exact 0))]),
 rr 3 (.mov (ci 0))])
 (.seq (.seq (.reg [mv 17 0,
 rr 18 (.len 1 (.t 17)),
 rr 19 (.cmp .lss (.t 18) (ci 2))])
 (.cond (.t 19) (.seq (.reg [rr 20 (.build [(.int .i64 0), (.slice none (.n 0) (.exact 0))] []),
 ff (.storeN 2 (.t 2) (.t 20)),
 rr 3 (.mov (ci 23))])
 (.ret))
 (.skip)))
 (.seq (.reg [mv 22 0,
 rr 23 (.slcS 1 (.t 22) none (some (ci 2)) none),
 cl 24 218 [.t 23, (ci 4)],
 mv 21 24,
 rr 25 (.ext (.t 21) 0),
 rr 26 (.ext (.t 21) 1),
 mv 4 25,
 mv 5 26])
 (.seq (.reg [mv 28 4,
 cl 29 219 [.t 28],
 mv 27 29,
 rr 30 (.ext (.t 27) 0),
 rr 31 (.ext (.t 27) 1),
 mv 6 30,
 mv 7 31])
 (.seq (.reg [mv 33 0,
 rr 34 (.slcS 1 (.t 33) (some (ci 2)) none none),
 cl 35 220 [.t 34],
 mv 32 35,
 rr 36 (.ext (.t 32) 0),
 rr 37 (.ext (.t 32) 1),
 rr 38 (.ext (.t 32) 2),
 mv 8 36,
 mv 9 37,
 mv 10 38])
 (.seq (.seq (.reg [mv 39 10,
 rr 40 (.not (.t 39)),
 mv 41 40,
 gr 42 (.mov (.t 6)) 41 false,
 ⟨(some 43), .e (.call (.c (.fn (.func 221) [] [])) [.t 42]), (some (41, false))⟩,
 gr 44 (.not (.t 43)) 41 false,
 rr 45 (.pick (.t 41) (.c (.bool true)) (.t 44))])
 (.cond (.t 45) (.seq (.reg [rr 46 (.build [(.int .i64 0), (.slice none (.n 0) (.exact 0))] []),
 ff (.storeN 2 (.t 2) (.t 46)),
 rr 3 (.mov (ci 23))])
 (.ret))
 (.skip)))
 (.seq (.reg [mv 47 6,
 rr 48 (.build [(.int .i64 0), (.slice none (.n 0) (.exact 0))] [(0, (1, (.t 47)))]),
 nn 11 (.zbox [(.int .i64 0), (.slice none (.n 0) (.exact 0))]),
 ff (.storeN 2 (.t 11) (.t 48))])
 (.seq (.reg [mv 49 0,
 mv 50 9,
 rr 51 (.arith .add (ci 2) (.t 50)),
 rr 52 (.slcS 1 (.t 49) (some (.t 51)) none none),
 mv 0 52])
 (.seq (.seq (.reg [mv 53 8,
 rr 54 (.len 1 (.t 53)),
 rr 55 (.mov (ci 0))])
 (.block 0 (.loop [] (.seq (.reg [rr 56 (.cmp .lss (.t 55) (.t 54))])
 (.seq (.cond (.t 56) (.skip)
 (.exit 0))
 (.seq (.block 1 (.seq (.reg [rr 57 (.idxS 1 (.t 53) (.t 55)),
 rr 58 (.load1 (.t 57)),
 mv 13 58])
 (.seq (.reg [mv 60 13,
 mv 61 0,
 cl 62 222 [.t 60, .t 61],
 mv 59 62,
 rr 63 (.ext (.t 59) 0),
 rr 64 (.ext (.t 59) 1),
 rr 65 (.ext (.t 59) 2),
 mv 14 63,
 mv 15 64,
 mv 16 65])
 (.seq (.seq (.reg [mv 66 16,
 rr 67 (.cmp .neq (.t 66) (ci 0))])
 (.cond (.t 67) (.seq (.reg [rr 68 (.build [(.int .i64 0), (.slice none (.n 0) (.exact 0))] []),
 ff (.storeN 2 (.t 2) (.t 68)),
 rr 3 (.mov (ci 23))])
 (.ret))
 (.skip)))
 (.dreg [⟨0, rr 69 (.fld 1 (.t 11)), false, []⟩,
 ⟨1, rr 70 (.load1 (.t 69)), false, []⟩,
 ⟨2, mv 71 13, false, []⟩,
 ⟨3, mv 72 14, false, []⟩,
 ⟨4, rr 73 (.build [(.int .i64 0), (.str [])] [(0, (1, (.t 71))), (1, (1, (.t 72)))]), false, []⟩,
 ⟨5, nn 74 (.bslice (some .fld) 2 1 [.t 73]), false, []⟩,
 ⟨7, mv 76 0, false, []⟩,
 ⟨8, mv 77 15, false, []⟩,
 ⟨9, rr 78 (.slcS 1 (.t 76) (some (.t 77)) none none), false, []⟩,
 ⟨6, ee 75 (.append .fld (.t 70) (.t 74)), true, [5, 4, 3, 2, 1, 0]⟩,
 ⟨10, rr 79 (.fld 1 (.t 11)), false, []⟩,
 ⟨11, ff (.store1 (.t 79) (.t 75)), true, [10, 6, 5, 4, 3, 2, 1, 0]⟩,
 ⟨12, mv 0 78, false, []⟩])))))
 (.reg [rr 80 (.arith .add (.t 55) (ci 1)),
 mv 55 80])))))))
 (.seq (.seq (.reg [mv 81 0,
 rr 82 (.len 1 (.t 81)),
 rr 83 (.cmp .gtr (.t 82) (ci 0))])
 (.cond (.t 83) (.seq (.reg [rr 84 (.build [(.int .i64 0), (.slice none (.n 0) (.exact 0))] []),
 ff (.storeN 2 (.t 2) (.t 84)),
 rr 3 (.mov (ci 23))])
 (.ret))
 (.skip)))
 (.seq (.reg [rr 85 (.loadN 2 (.t 11)),
 ff (.storeN 2 (.t 2) (.t 85)),
 rr 3 (.mov (ci 0))])
 (.ret)))))))))))⟩
/-- guichet/host.number -/
def b170 : AFunc := ⟨36, [.tmp 8],
 .seq (.reg [nn 4 (.box (.t 0)),
 rr 8 (.mov (ci 0))])
 (.seq (.reg [rr 14 (.loadN 2 (.t 4)),
 mv 15 1,
 cl 16 171 [.t 14, .t 15],
 mv 13 16,
 rr 17 (.ext (.t 13) 0),
 rr 18 (.ext (.t 13) 1),
 mv 9 17,
 mv 10 18])
 (.seq (.seq (.reg [mv 19 10,
 rr 20 (.not (.t 19)),
 mv 21 20,
 gr 22 (.mov (.t 9)) 21 false,
 gr 23 (.len 0 (.t 22)) 21 false,
 gr 24 (.mov (.t 3)) 21 false,
 gr 25 (.cmp .lss (.t 23) (.t 24)) 21 false,
 rr 26 (.pick (.t 21) (.c (.bool true)) (.t 25))])
 (.cond (.t 26) (.seq (.reg [rr 8 (.mov (ci 0))])
 (.ret))
 (.skip)))
 (.seq (.reg [mv 28 9,
 mv 29 2,
 mv 30 3,
 rr 31 (.slcStr (.t 28) (some (.t 29)) (some (.t 30))),
 cl 32 219 [.t 31],
 mv 27 32,
 rr 33 (.ext (.t 27) 0),
 rr 34 (.ext (.t 27) 1),
 mv 11 33,
 mv 12 34])
 (.seq (.reg [mv 35 11,
 mv 8 35])
 (.ret)))))⟩
/-- guichet/iso.Get -/
def b171 : AFunc := ⟨22, [.tmp 4, .tmp 5],
 .seq (.reg [nn 2 (.box (.t 0)),
 rr 4 (.mov (.c (.str []))),
 rr 5 (.mov (.c (.bool false)))])
 (.seq (.seq (.reg [rr 8 (.fld 1 (.t 2)),
 rr 9 (.load1 (.t 8)),
 rr 10 (.len 1 (.t 9)),
 rr 11 (.mov (ci 0))])
 (.block 0 (.loop [] (.seq (.reg [rr 12 (.cmp .lss (.t 11) (.t 10))])
 (.seq (.cond (.t 12) (.skip)
 (.exit 0))
 (.seq (.block 1 (.seq (.reg [rr 13 (.idxS 2 (.t 9) (.t 11)),
 rr 14 (.loadN 2 (.t 13)),
 nn 7 (.zbox [(.int .i64 0), (.str [])]),
 ff (.storeN 2 (.t 7) (.t 14))])
 (.seq (.reg [rr 15 (.fld 0 (.t 7)),
 rr 16 (.load1 (.t 15)),
 mv 17 1,
 rr 18 (.cmp .eql (.t 16) (.t 17))])
 (.cond (.t 18) (.seq (.reg [rr 19 (.fld 1 (.t 7)),
 rr 20 (.load1 (.t 19)),
 mv 4 20,
 rr 5 (.mov (.c (.bool true)))])
 (.ret))
 (.skip)))))
 (.reg [rr 21 (.arith .add (.t 11) (ci 1)),
 mv 11 21])))))))
 (.seq (.reg [rr 4 (.mov (.c (.str []))),
 rr 5 (.mov (.c (.bool false)))])
 (.ret)))⟩
/-- guichet/host.answered -/
def b173 : AFunc := ⟨52, [.tmp 2, .tmp 3],
 .seq (.reg [nn 1 (.box (.t 0)),
 rr 2 (.mov (.c (.slice none (.n 0) (.exact 0)))),
 rr 3 (.mov (ci 0))])
 (.seq (.seq (.reg [rr 4 (.fld 0 (.t 1)),
 rr 5 (.load1 (.t 4)),
 rr 6 (.cmp .eql (.t 5) (ci 810))])
 (.cond (.t 6) (.seq (.dreg [⟨0, rr 7 (.fld 0 (.t 1)), false, []⟩,
 ⟨1, rr 8 (.load1 (.t 7)), false, []⟩,
 ⟨2, rr 9 (.fld 1 (.t 1)), false, []⟩,
 ⟨3, rr 10 (.fld 1 (.t 9)), false, []⟩,
 ⟨4, rr 11 (.load1 (.t 10)), false, []⟩,
 ⟨5, rr 12 (.toInt .i64 (.t 11)), false, []⟩,
 ⟨8, rr 15 (.fld 6 (.t 1)), false, []⟩,
 ⟨9, rr 16 (.load1 (.t 15)), false, []⟩,
 ⟨10, rr 17 (.build [(.int .i64 0), (.str [])] [(0, (1, (ci 39))), (1, (1, (.t 16)))]), false, []⟩,
 ⟨11, rr 18 (.build [(.int .i64 0), (.str [])] [(0, (1, (ci 70))), (1, (1, (.c (.str [51, 48, 49]))))]), false, []⟩,
 ⟨6, cl 13 166 [.t 12, (ci 6)], true, [5, 4, 3, 2]⟩,
 ⟨7, rr 14 (.build [(.int .i64 0), (.str [])] [(0, (1, (ci 11))), (1, (1, (.t 13)))]), false, []⟩,
 ⟨12, nn 19 (.bslice (some .fld) 2 3 [.t 14, .t 17, .t 18]), false, []⟩,
 ⟨13, cl 20 164 [.t 8, .t 19], true, [12, 11, 10, 9, 8, 7, 6, 5, 4, 3, 2, 1, 0]⟩,
 ⟨14, rr 21 (.ext (.t 20) 0), false, []⟩,
 ⟨15, rr 22 (.ext (.t 20) 1), false, []⟩,
 ⟨16, mv 2 21, false, []⟩,
 ⟨17, mv 3 22, false, []⟩])
 (.ret))
 (.skip)))
 (.seq (.seq (.reg [rr 23 (.fld 1 (.t 1)),
 rr 24 (.loadN 2 (.t 23)),
 rr 25 (.fld 4 (.t 1)),
 rr 26 (.load1 (.t 25)),
 cl 27 163 [.t 24, .t 26],
 rr 28 (.not (.t 27))])
 (.cond (.t 28) (.seq (.reg [rr 2 (.mov (.c (.slice none (.n 0) (.exact 0)))),
 rr 3 (.mov (ci 27))])
 (.ret))
 (.skip)))
 (.seq (.dreg [⟨0, rr 29 (.fld 0 (.t 1)), false, []⟩,
 ⟨1, rr 30 (.load1 (.t 29)), false, []⟩,
 ⟨2, rr 31 (.fld 4 (.t 1)), false, []⟩,
 ⟨3, rr 32 (.load1 (.t 31)), false, []⟩,
 ⟨6, rr 35 (.fld 1 (.t 1)), false, []⟩,
 ⟨7, rr 36 (.fld 1 (.t 35)), false, []⟩,
 ⟨8, rr 37 (.load1 (.t 36)), false, []⟩,
 ⟨9, rr 38 (.toInt .i64 (.t 37)), false, []⟩,
 ⟨12, rr 41 (.fld 6 (.t 1)), false, []⟩,
 ⟨13, rr 42 (.load1 (.t 41)), false, []⟩,
 ⟨14, rr 43 (.build [(.int .i64 0), (.str [])] [(0, (1, (ci 39))), (1, (1, (.t 42)))]), false, []⟩,
 ⟨15, rr 44 (.fld 1 (.t 1)), false, []⟩,
 ⟨16, rr 45 (.loadN 2 (.t 44)), false, []⟩,
 ⟨4, cl 33 166 [.t 32, (ci 12)], true, [3, 2]⟩,
 ⟨5, rr 34 (.build [(.int .i64 0), (.str [])] [(0, (1, (ci 4))), (1, (1, (.t 33)))]), false, []⟩,
 ⟨10, cl 39 166 [.t 38, (ci 6)], true, [9, 8, 7, 6, 4, 3, 2]⟩,
 ⟨11, rr 40 (.build [(.int .i64 0), (.str [])] [(0, (1, (ci 11))), (1, (1, (.t 39)))]), false, []⟩,
 ⟨17, cl 46 216 [.t 45], true, [16, 15, 10, 9, 8, 7, 6, 4, 3, 2]⟩,
 ⟨18, rr 47 (.build [(.int .i64 0), (.str [])] [(0, (1, (ci 41))), (1, (1, (.t 46)))]), false, []⟩,
 ⟨19, nn 48 (.bslice (some .fld) 2 4 [.t 34, .t 40, .t 43, .t 47]), false, []⟩,
 ⟨20, cl 49 164 [.t 30, .t 48], true, [19, 18, 17, 16, 15, 14, 13, 12, 11, 10, 9, 8, 7, 6, 5, 4, 3, 2, 1, 0]⟩,
 ⟨21, rr 50 (.ext (.t 49) 0), false, []⟩,
 ⟨22, rr 51 (.ext (.t 49) 1), false, []⟩,
 ⟨23, mv 2 50, false, []⟩,
 ⟨24, mv 3 51, false, []⟩])
 (.ret))))⟩
/-- (*guichet/core.Switch).lay -/
def b174 : AFunc := ⟨41, [.tmp 4],
 .seq (.reg [rr 4 (.mov (ci 0))])
 (.seq (.reg [mv 8 0,
 rr 9 (.nilchk (.t 8)),
 rr 10 (.fld 5 (.t 9)),
 rr 11 (.load1 (.t 10)),
 mv 12 1,
 cl 13 223 [.t 11, .t 12],
 mv 5 13])
 (.seq (.seq (.reg [mv 14 5,
 rr 15 (.cmp .neq (.t 14) (ci 21))])
 (.cond (.t 15) (.seq (.reg [mv 16 5,
 mv 4 16])
 (.ret))
 (.skip)))
 (.seq (.reg [mv 17 0,
 rr 18 (.nilchk (.t 17)),
 rr 19 (.fld 7 (.t 18)),
 rr 20 (.load1 (.t 19)),
 cl 21 224 [.t 20],
 mv 6 21])
 (.seq (.seq (.reg [mv 22 0,
 rr 23 (.nilchk (.t 22)),
 rr 24 (.fld 5 (.t 23)),
 rr 25 (.load1 (.t 24)),
 mv 26 6,
 cl 27 225 [.t 25, .t 26],
 mv 7 27])
 (.seq (.reg [mv 28 7,
 rr 29 (.cmp .neq (.t 28) (ci 0))])
 (.cond (.t 29) (.seq (.reg [mv 30 7,
 mv 4 30])
 (.ret))
 (.skip))))
 (.seq (.reg [mv 31 0,
 mv 32 6,
 rr 33 (.nilchk (.t 31)),
 rr 34 (.fld 6 (.t 33)),
 ff (.store1 (.t 34) (.t 32))])
 (.seq (.reg [mv 35 0,
 rr 36 (.nilchk (.t 35)),
 rr 37 (.fld 5 (.t 36)),
 rr 38 (.load1 (.t 37)),
 mv 39 1,
 cl 40 223 [.t 38, .t 39],
 mv 4 40])
 (.ret)))))))⟩
/-- guichet/guichetref1.IsoRight -/
def b176 : AFunc := ⟨65, [.tmp 2],
 .seq (.reg [nn 1 (.box (.t 0)),
 rr 2 (.mov (.c (.bool false)))])
 (.seq (.reg [rr 10 (.fld 0 (.t 1)),
 rr 11 (.load1 (.t 10)),
 cl 12 226 [.t 11],
 mv 9 12,
 rr 13 (.ext (.t 9) 0),
 rr 14 (.ext (.t 9) 1),
 mv 3 13,
 mv 4 14])
 (.seq (.reg [rr 16 (.fld 0 (.t 1)),
 rr 17 (.load1 (.t 16)),
 rr 18 (.arith .sub (.t 17) (ci 10)),
 cl 19 226 [.t 18],
 mv 15 19,
 rr 20 (.ext (.t 15) 0),
 rr 21 (.ext (.t 15) 1),
 mv 5 20,
 mv 6 21])
 (.seq (.seq (.reg [mv 22 4,
 rr 23 (.not (.t 22)),
 mv 24 23,
 gr 25 (.mov (.t 6)) 24 true,
 gr 26 (.not (.t 25)) 24 true,
 rr 27 (.pick (.t 24) (.t 26) (.c (.bool false)))])
 (.cond (.t 27) (.seq (.reg [rr 2 (.mov (.c (.bool false)))])
 (.ret))
 (.skip)))
 (.seq (.reg [rr 7 (.mov (ci 1))])
 (.seq (.seq (.reg [rr 8 (.mov (ci 0))])
 (.block 0 (.loop [] (.seq (.seq (.reg [mv 28 8,
 rr 29 (.fld 1 (.t 1)),
 rr 30 (.load1 (.t 29)),
 rr 31 (.len 1 (.t 30)),
 rr 32 (.cmp .lss (.t 28) (.t 31))])
 (.cond (.t 32) (.skip)
 (.exit 0)))
 (.seq (.block 1 (.seq (.seq (.dreg [⟨0, rr 35 (.fld 1 (.t 1)), false, []⟩,
 ⟨1, rr 36 (.load1 (.t 35)), false, []⟩,
 ⟨2, mv 37 8, false, []⟩,
 ⟨3, rr 38 (.idxS 2 (.t 36) (.t 37)), false, []⟩,
 ⟨4, rr 39 (.fld 0 (.t 38)), false, []⟩,
 ⟨5, rr 40 (.load1 (.t 39)), false, []⟩,
 ⟨6, mv 41 7, false, []⟩,
 ⟨7, rr 42 (.cmp .leq (.t 40) (.t 41)), false, []⟩,
 ⟨8, mv 43 42, false, []⟩,
 ⟨9, gr 44 (.fld 1 (.t 1)) 43 false, false, []⟩,
 ⟨10, gr 45 (.load1 (.t 44)) 43 false, false, []⟩,
 ⟨11, gr 46 (.mov (.t 8)) 43 false, false, []⟩,
 ⟨12, gr 47 (.idxS 2 (.t 45) (.t 46)) 43 false, false, []⟩,
 ⟨13, gr 48 (.fld 0 (.t 47)) 43 false, false, []⟩,
 ⟨14, gr 49 (.load1 (.t 48)) 43 false, false, []⟩,
 ⟨15, gr 50 (.fld 1 (.t 1)) 43 false, false, []⟩,
 ⟨16, gr 51 (.load1 (.t 50)) 43 false, false, []⟩,
 ⟨17, gr 52 (.mov (.t 8)) 43 false, false, []⟩,
 ⟨18, gr 53 (.idxS 2 (.t 51) (.t 52)) 43 false, false, []⟩,
 ⟨19, gr 54 (.fld 1 (.t 53)) 43 false, false, []⟩,
 ⟨20, gr 55 (.load1 (.t 54)) 43 false, false, []⟩,
 ⟨21, ⟨(some 56), .e (.call (.c (.fn (.func 227) [] [])) [.t 49, .t 55]), (some (43, false))⟩, true, [20, 19, 18, 17, 16, 15, 14, 13, 12, 11, 10, 9, 8, 7, 6, 5, 4, 3, 2, 1, 0]⟩,
 ⟨22, gr 57 (.not (.t 56)) 43 false, false, []⟩,
 ⟨23, rr 58 (.pick (.t 43) (.c (.bool true)) (.t 57)), false, []⟩])
 (.cond (.t 58) (.seq (.reg [rr 2 (.mov (.c (.bool false)))])
 (.ret))
 (.skip)))
 (.reg [rr 59 (.fld 1 (.t 1)),
 rr 60 (.load1 (.t 59)),
 mv 61 8,
 rr 62 (.idxS 2 (.t 60) (.t 61)),
 rr 63 (.fld 0 (.t 62)),
 rr 64 (.load1 (.t 63)),
 mv 7 64])))
 (.reg [mv 33 8,
 rr 34 (.arith .add (.t 33) (ci 1)),
 mv 8 34]))))))
 (.seq (.reg [rr 2 (.mov (.c (.bool true)))])
 (.ret)))))))⟩
/-- guichet/guichetref1.Pack -/
def b177 : AFunc := ⟨36, [.tmp 2, .tmp 3],
 .seq (.reg [rr 2 (.mov (.c (.slice none (.n 0) (.exact 0)))),
 rr 3 (.mov (.c (.bool false)))])
 (.seq (.seq (.reg [mv 6 0,
 cl 7 60 [.t 6],
 rr 8 (.not (.t 7))])
 (.cond (.t 8) (.seq (.reg [rr 2 (.mov (.c (.slice none (.n 0) (.exact 0)))),
 rr 3 (.mov (.c (.bool false)))])
 (.ret))
 (.skip)))
 (.seq (.seq (.reg [mv 9 0,
 rr 10 (.len 0 (.t 9)),
 rr 11 (.arith .rem (.t 10) (ci 2)),
 rr 12 (.cmp .eql (.t 11) (ci 1))])
 (.cond (.t 12) (.reg [mv 13 0,
 rr 14 (.arith .add (.c (.str [48])) (.t 13)),
 mv 0 14])
 (.skip)))
 (.seq (.reg [rr 4 (.mov (.c (.slice none (.n 0) (.exact 0))))])
 (.seq (.seq (.reg [rr 5 (.mov (ci 0))])
 (.block 0 (.loop [] (.seq (.seq (.reg [mv 15 5,
 mv 16 0,
 rr 17 (.len 0 (.t 16)),
 rr 18 (.cmp .lss (.t 15) (.t 17))])
 (.cond (.t 18) (.skip)
 (.exit 0)))
 (.seq (.block 1 (.dreg [⟨0, mv 21 4, false, []⟩,
 ⟨1, mv 22 0, false, []⟩,
 ⟨2, mv 23 5, false, []⟩,
 ⟨3, rr 24 (.strAt (.t 22) (.t 23)), false, []⟩,
 ⟨4, rr 25 (.arith .sub (.t 24) (.c (.int .u8 48))), false, []⟩,
 ⟨5, rr 26 (.arith .shl (.t 25) (.c (.int .u64 4))), false, []⟩,
 ⟨6, mv 27 0, false, []⟩,
 ⟨7, mv 28 5, false, []⟩,
 ⟨8, rr 29 (.arith .add (.t 28) (ci 1)), false, []⟩,
 ⟨9, rr 30 (.strAt (.t 27) (.t 29)), false, []⟩,
 ⟨10, rr 31 (.arith .sub (.t 30) (.c (.int .u8 48))), false, []⟩,
 ⟨11, rr 32 (.arith .or (.t 26) (.t 31)), false, []⟩,
 ⟨12, nn 33 (.bslice (some (.int .u8)) 1 1 [.t 32]), false, []⟩,
 ⟨13, ee 34 (.append (.int .u8) (.t 21) (.t 33)), true, [12, 11, 10, 9, 8, 7, 6, 5, 4, 3, 2, 1, 0]⟩,
 ⟨14, mv 4 34, false, []⟩]))
 (.reg [mv 19 5,
 rr 20 (.arith .add (.t 19) (ci 2)),
 mv 5 20]))))))
 (.seq (.reg [mv 35 4,
 mv 2 35,
 rr 3 (.mov (.c (.bool true)))])
 (.ret))))))⟩
/-- guichet/guichetref1.MapPut -/
def b178 : AFunc := ⟨53, [.tmp 2, .tmp 3],
 .seq (.reg [rr 2 (.mov (.c (.slice none (.n 0) (.exact 0)))),
 rr 3 (.mov (.c (.bool false)))])
 (.seq (.reg [nn 7 (.mkslice (.int .u8) (ci 16)),
 mv 4 7])
 (.seq (.reg [rr 5 (.mov (ci 1))])
 (.seq (.seq (.reg [rr 6 (.mov (ci 0))])
 (.block 0 (.loop [] (.seq (.seq (.reg [mv 8 6,
 mv 9 0,
 rr 10 (.len 1 (.t 9)),
 rr 11 (.cmp .lss (.t 8) (.t 10))])
 (.cond (.t 11) (.skip)
 (.exit 0)))
 (.seq (.block 1 (.seq (.seq (.reg [mv 14 0,
 mv 15 6,
 rr 16 (.idxS 1 (.t 14) (.t 15)),
 rr 17 (.load1 (.t 16)),
 mv 18 5,
 rr 19 (.cmp .leq (.t 17) (.t 18)),
 mv 20 19,
 gr 21 (.mov (.t 0)) 20 false,
 gr 22 (.mov (.t 6)) 20 false,
 gr 23 (.idxS 1 (.t 21) (.t 22)) 20 false,
 gr 24 (.load1 (.t 23)) 20 false,
 gr 25 (.cmp .gtr (.t 24) (ci 128)) 20 false,
 rr 26 (.pick (.t 20) (.c (.bool true)) (.t 25))])
 (.cond (.t 26) (.seq (.reg [rr 2 (.mov (.c (.slice none (.n 0) (.exact 0)))),
 rr 3 (.mov (.c (.bool false)))])
 (.ret))
 (.skip)))
 (.seq (.reg [mv 27 0,
 mv 28 6,
 rr 29 (.idxS 1 (.t 27) (.t 28)),
 rr 30 (.load1 (.t 29)),
 mv 5 30])
 (.dreg [⟨0, mv 31 4, false, []⟩,
 ⟨1, mv 32 5, false, []⟩,
 ⟨2, rr 33 (.arith .sub (.t 32) (ci 1)), false, []⟩,
 ⟨3, rr 34 (.arith .quo (.t 33) (ci 8)), false, []⟩,
 ⟨4, rr 35 (.idxS 1 (.t 31) (.t 34)), false, []⟩,
 ⟨5, rr 36 (.load1 (.t 35)), false, []⟩,
 ⟨6, mv 37 5, false, []⟩,
 ⟨7, rr 38 (.arith .sub (.t 37) (ci 1)), false, []⟩,
 ⟨8, rr 39 (.arith .rem (.t 38) (ci 8)), false, []⟩,
 ⟨9, rr 40 (.arith .shr (.c (.int .u8 128)) (.t 39)), false, []⟩,
 ⟨10, rr 41 (.arith .or (.t 36) (.t 40)), false, []⟩,
 ⟨11, rr 42 (.idxS 1 (.t 31) (.t 34)), false, []⟩,
 ⟨12, ff (.store1 (.t 42) (.t 41)), true, [11, 10, 9, 8, 7, 6, 5, 4, 3, 2, 1, 0]⟩]))))
 (.reg [mv 12 6,
 rr 13 (.arith .add (.t 12) (ci 1)),
 mv 6 13]))))))
 (.seq (.seq (.reg [mv 43 5,
 rr 44 (.cmp .gtr (.t 43) (ci 64))])
 (.cond (.t 44) (.seq (.reg [mv 45 4,
 rr 46 (.idxS 1 (.t 45) (ci 0)),
 rr 47 (.load1 (.t 46)),
 rr 48 (.arith .or (.t 47) (.c (.int .u8 128))),
 rr 49 (.idxS 1 (.t 45) (ci 0)),
 ff (.store1 (.t 49) (.t 48))])
 (.seq (.reg [mv 50 4,
 mv 2 50,
 rr 3 (.mov (.c (.bool true)))])
 (.ret)))
 (.skip)))
 (.seq (.reg [mv 51 4,
 rr 52 (.slcS 1 (.t 51) none (some (ci 8)) none),
 mv 2 52,
 rr 3 (.mov (.c (.bool true)))])
 (.ret))))))⟩
/-- guichet/guichetref1.FieldPut -/
def b179 : AFunc := ⟨52, [.tmp 4, .tmp 5],
 .seq (.reg [rr 4 (.mov (.c (.slice none (.n 0) (.exact 0)))),
 rr 5 (.mov (ci 0))])
 (.seq (.seq (.reg [mv 13 0,
 mv 14 1,
 cl 15 227 [.t 13, .t 14],
 rr 16 (.not (.t 15))])
 (.cond (.t 16) (.seq (.reg [rr 4 (.mov (.c (.slice none (.n 0) (.exact 0)))),
 rr 5 (.mov (ci 27))])
 (.ret))
 (.skip)))
 (.seq (.reg [mv 18 0,
 cl 19 228 [.t 18],
 mv 17 19,
 rr 20 (.ext (.t 17) 0),
 rr 21 (.ext (.t 17) 1),
 nn 6 (.zbox [(.bool false), (.int .i64 0), (.int .i64 0)]),
 ff (.storeN 3 (.t 6) (.t 20)),
 mv 7 21])
 (.seq (.reg [rr 8 (.mov (.c (.slice none (.n 0) (.exact 0))))])
 (.seq (.seq (.reg [rr 22 (.fld 2 (.t 6)),
 rr 23 (.load1 (.t 22)),
 rr 24 (.cmp .gtr (.t 23) (ci 0))])
 (.cond (.t 24) (.seq (.reg [mv 26 1,
 rr 27 (.len 0 (.t 26)),
 rr 28 (.fld 2 (.t 6)),
 rr 29 (.load1 (.t 28)),
 cl 30 113 [.t 27, .t 29],
 mv 25 30,
 rr 31 (.ext (.t 25) 0),
 rr 32 (.ext (.t 25) 1),
 mv 9 31,
 mv 10 32])
 (.reg [mv 34 9,
 cl 35 177 [.t 34],
 mv 33 35,
 rr 36 (.ext (.t 33) 0),
 rr 37 (.ext (.t 33) 1),
 mv 8 36]))
 (.skip)))
 (.seq (.seq (.reg [rr 38 (.fld 0 (.t 6)),
 rr 39 (.load1 (.t 38)),
 rr 40 (.not (.t 39))])
 (.cond (.t 40) (.seq (.reg [mv 41 8,
 mv 42 1,
 ee 43 (.append (.int .u8) (.t 41) (.t 42)),
 mv 4 43,
 rr 5 (.mov (ci 0))])
 (.ret))
 (.skip)))
 (.seq (.reg [mv 45 1,
 cl 46 177 [.t 45],
 mv 44 46,
 rr 47 (.ext (.t 44) 0),
 rr 48 (.ext (.t 44) 1),
 mv 11 47,
 mv 12 48])
 (.seq (.reg [mv 49 8,
 mv 50 11,
 ee 51 (.append (.int .u8) (.t 49) (.t 50)),
 mv 4 51,
 rr 5 (.mov (ci 0))])
 (.ret))))))))⟩
/-- guichet/guichetref1.Unpack -/
def b180 : AFunc := ⟨66, [.tmp 4, .tmp 5],
 .seq (.reg [rr 4 (.mov (.c (.str []))),
 rr 5 (.mov (.c (.bool false)))])
 (.seq (.seq (.reg [mv 10 1,
 rr 11 (.cmp .lss (.t 10) (ci 0)),
 mv 12 11,
 gr 13 (.mov (.t 1)) 12 false,
 gr 14 (.mov (.t 0)) 12 false,
 gr 15 (.len 1 (.t 14)) 12 false,
 gr 16 (.arith .mul (ci 2) (.t 15)) 12 false,
 gr 17 (.cmp .gtr (.t 13) (.t 16)) 12 false,
 rr 18 (.pick (.t 12) (.c (.bool true)) (.t 17)),
 mv 19 18,
 gr 20 (.mov (.t 1)) 19 false,
 gr 21 (.mov (.t 0)) 19 false,
 gr 22 (.len 1 (.t 21)) 19 false,
 gr 23 (.arith .mul (ci 2) (.t 22)) 19 false,
 gr 24 (.arith .sub (.t 23) (ci 1)) 19 false,
 gr 25 (.cmp .lss (.t 20) (.t 24)) 19 false,
 rr 26 (.pick (.t 19) (.c (.bool true)) (.t 25))])
 (.cond (.t 26) (.seq (.reg [rr 4 (.mov (.c (.str []))),
 rr 5 (.mov (.c (.bool false)))])
 (.ret))
 (.skip)))
 (.seq (.reg [rr 6 (.mov (.c (.str [])))])
 (.seq (.seq (.reg [rr 7 (.mov (ci 0))])
 (.block 0 (.loop [] (.seq (.seq (.reg [mv 27 7,
 mv 28 0,
 rr 29 (.len 1 (.t 28)),
 rr 30 (.cmp .lss (.t 27) (.t 29))])
 (.cond (.t 30) (.skip)
 (.exit 0)))
 (.seq (.block 1 (.seq (.dreg [⟨0, mv 33 0, false, []⟩,
 ⟨1, mv 34 7, false, []⟩,
 ⟨2, rr 35 (.idxS 1 (.t 33) (.t 34)), false, []⟩,
 ⟨3, rr 36 (.load1 (.t 35)), false, []⟩,
 ⟨4, rr 37 (.arith .shr (.t 36) (.c (.int .u64 4))), false, []⟩,
 ⟨5, mv 38 0, false, []⟩,
 ⟨6, mv 39 7, false, []⟩,
 ⟨7, rr 40 (.idxS 1 (.t 38) (.t 39)), false, []⟩,
 ⟨8, rr 41 (.load1 (.t 40)), false, []⟩,
 ⟨9, rr 42 (.arith .and (.t 41) (.c (.int .u8 15))), false, []⟩,
 ⟨10, mv 8 37, false, []⟩,
 ⟨11, mv 9 42, false, []⟩])
 (.seq (.seq (.reg [mv 43 8,
 rr 44 (.cmp .gtr (.t 43) (.c (.int .u8 9))),
 mv 45 44,
 gr 46 (.mov (.t 9)) 45 false,
 gr 47 (.cmp .gtr (.t 46) (.c (.int .u8 9))) 45 false,
 rr 48 (.pick (.t 45) (.c (.bool true)) (.t 47))])
 (.cond (.t 48) (.seq (.reg [rr 4 (.mov (.c (.str []))),
 rr 5 (.mov (.c (.bool false)))])
 (.ret))
 (.skip)))
 (.reg [mv 49 6,
 mv 50 8,
 rr 51 (.arith .add (.c (.int .u8 48)) (.t 50)),
 mv 52 9,
 rr 53 (.arith .add (.c (.int .u8 48)) (.t 52)),
 nn 54 (.bslice (some (.int .u8)) 1 2 [.t 51, .t 53]),
 rr 55 (.toStr (.t 54)),
 rr 56 (.arith .add (.t 49) (.t 55)),
 mv 6 56]))))
 (.reg [mv 31 7,
 rr 32 (.arith .add (.t 31) (ci 1)),
 mv 7 32]))))))
 (.seq (.seq (.reg [mv 57 1,
 rr 58 (.arith .rem (.t 57) (ci 2)),
 rr 59 (.cmp .eql (.t 58) (ci 1))])
 (.cond (.t 59) (.seq (.seq (.reg [mv 60 6,
 rr 61 (.strAt (.t 60) (ci 0)),
 rr 62 (.cmp .neq (.t 61) (.c (.int .u8 48)))])
 (.cond (.t 62) (.seq (.reg [rr 4 (.mov (.c (.str []))),
 rr 5 (.mov (.c (.bool false)))])
 (.ret))
 (.skip)))
 (.reg [mv 63 6,
 rr 64 (.slcStr (.t 63) (some (ci 1)) none),
 mv 6 64]))
 (.skip)))
 (.seq (.reg [mv 65 6,
 mv 4 65,
 rr 5 (.mov (.c (.bool true)))])
 (.ret))))))⟩
/-- guichet/guichetref1.MapRead -/
def b181 : AFunc := ⟨52, [.tmp 2, .tmp 3, .tmp 4],
 .seq (.reg [rr 2 (.mov (.c (.slice none (.n 0) (.exact 0)))),
 rr 3 (.mov (ci 0)),
 rr 4 (.mov (.c (.bool false)))])
 (.seq (.reg [rr 5 (.mov (ci 8))])
 (.seq (.seq (.reg [mv 8 0,
 rr 9 (.len 1 (.t 8)),
 rr 10 (.cmp .gtr (.t 9) (ci 0)),
 mv 11 10,
 gr 12 (.mov (.t 0)) 11 true,
 gr 13 (.idxS 1 (.t 12) (ci 0)) 11 true,
 gr 14 (.load1 (.t 13)) 11 true,
 gr 15 (.cmp .geq (.t 14) (.c (.int .u8 128))) 11 true,
 rr 16 (.pick (.t 11) (.t 15) (.c (.bool false)))])
 (.cond (.t 16) (.reg [rr 5 (.mov (ci 16))])
 (.skip)))
 (.seq (.seq (.reg [mv 17 0,
 rr 18 (.len 1 (.t 17)),
 mv 19 5,
 rr 20 (.cmp .lss (.t 18) (.t 19))])
 (.cond (.t 20) (.seq (.reg [rr 2 (.mov (.c (.slice none (.n 0) (.exact 0)))),
 rr 3 (.mov (ci 0)),
 rr 4 (.mov (.c (.bool false)))])
 (.ret))
 (.skip)))
 (.seq (.reg [rr 6 (.mov (.c (.slice none (.n 0) (.exact 0))))])
 (.seq (.seq (.reg [rr 7 (.mov (ci 2))])
 (.block 0 (.loop [] (.seq (.seq (.reg [mv 21 7,
 mv 22 5,
 rr 23 (.arith .mul (ci 8) (.t 22)),
 rr 24 (.cmp .leq (.t 21) (.t 23))])
 (.cond (.t 24) (.skip)
 (.exit 0)))
 (.seq (.block 1 (.seq (.reg [mv 27 0,
 mv 28 7,
 cl 29 229 [.t 27, .t 28]])
 (.cond (.t 29) (.reg [mv 30 6,
 mv 31 7,
 nn 32 (.bslice (some (.int .i64)) 1 1 [.t 31]),
 ee 33 (.append (.int .i64) (.t 30) (.t 32)),
 mv 6 33])
 (.skip))))
 (.reg [mv 25 7,
 rr 26 (.arith .add (.t 25) (ci 1)),
 mv 7 26]))))))
 (.seq (.seq (.reg [mv 34 5,
 rr 35 (.cmp .eql (.t 34) (ci 16)),
 mv 36 35,
 gr 37 (.mov (.t 6)) 36 true,
 gr 38 (.len 1 (.t 37)) 36 true,
 gr 39 (.cmp .eql (.t 38) (ci 0)) 36 true,
 gr 40 (.mov (.t 39)) 36 true,
 gr 41 (.mov (.t 6)) 40 false,
 gr 42 (.mov (.t 6)) 40 false,
 gr 43 (.len 1 (.t 42)) 40 false,
 gr 44 (.arith .sub (.t 43) (ci 1)) 40 false,
 gr 45 (.idxS 1 (.t 41) (.t 44)) 40 false,
 gr 46 (.load1 (.t 45)) 40 false,
 gr 47 (.cmp .leq (.t 46) (ci 64)) 40 false,
 gr 48 (.pick (.t 40) (.c (.bool true)) (.t 47)) 36 true,
 rr 49 (.pick (.t 36) (.t 48) (.c (.bool false)))])
 (.cond (.t 49) (.seq (.reg [rr 2 (.mov (.c (.slice none (.n 0) (.exact 0)))),
 rr 3 (.mov (ci 0)),
 rr 4 (.mov (.c (.bool false)))])
 (.ret))
 (.skip)))
 (.seq (.reg [mv 50 6,
 mv 51 5,
 mv 2 50,
 mv 3 51,
 rr 4 (.mov (.c (.bool true)))])
 (.ret))))))))⟩
/-- guichet/guichetref1.FieldRead -/
def b182 : AFunc := ⟨98, [.tmp 4, .tmp 5, .tmp 6],
 .seq (.reg [rr 4 (.mov (.c (.str []))),
 rr 5 (.mov (ci 0)),
 rr 6 (.mov (ci 0))])
 (.seq (.reg [mv 18 0,
 cl 19 228 [.t 18],
 mv 17 19,
 rr 20 (.ext (.t 17) 0),
 rr 21 (.ext (.t 17) 1),
 nn 7 (.zbox [(.bool false), (.int .i64 0), (.int .i64 0)]),
 ff (.storeN 3 (.t 7) (.t 20)),
 mv 8 21])
 (.seq (.seq (.reg [mv 22 8,
 rr 23 (.not (.t 22))])
 (.cond (.t 23) (.seq (.reg [rr 4 (.mov (.c (.str []))),
 rr 5 (.mov (ci 0)),
 rr 6 (.mov (ci 27))])
 (.ret))
 (.skip)))
 (.seq (.dreg [⟨0, rr 24 (.fld 1 (.t 7)), false, []⟩,
 ⟨1, rr 25 (.load1 (.t 24)), false, []⟩,
 ⟨2, rr 9 (.mov (ci 0)), false, []⟩,
 ⟨3, mv 10 25, false, []⟩])
 (.seq (.seq (.reg [rr 26 (.fld 2 (.t 7)),
 rr 27 (.load1 (.t 26)),
 rr 28 (.cmp .gtr (.t 27) (ci 0))])
 (.cond (.t 28) (.seq (.reg [rr 29 (.fld 2 (.t 7)),
 rr 30 (.load1 (.t 29)),
 rr 31 (.arith .add (.t 30) (ci 1)),
 rr 32 (.arith .quo (.t 31) (ci 2)),
 mv 9 32])
 (.seq (.seq (.reg [mv 33 1,
 rr 34 (.len 1 (.t 33)),
 mv 35 9,
 rr 36 (.cmp .lss (.t 34) (.t 35))])
 (.cond (.t 36) (.seq (.reg [rr 4 (.mov (.c (.str []))),
 rr 5 (.mov (ci 0)),
 rr 6 (.mov (ci 23))])
 (.ret))
 (.skip)))
 (.seq (.dreg [⟨0, mv 38 1, false, []⟩,
 ⟨1, mv 39 9, false, []⟩,
 ⟨2, rr 40 (.slcS 1 (.t 38) none (some (.t 39)) none), false, []⟩,
 ⟨3, rr 41 (.fld 2 (.t 7)), false, []⟩,
 ⟨4, rr 42 (.load1 (.t 41)), false, []⟩,
 ⟨5, cl 43 180 [.t 40, .t 42], true, [4, 3, 2, 1, 0]⟩,
 ⟨6, mv 37 43, false, []⟩,
 ⟨7, rr 44 (.ext (.t 37) 0), false, []⟩,
 ⟨8, rr 45 (.ext (.t 37) 1), false, []⟩,
 ⟨9, mv 11 44, false, []⟩,
 ⟨10, mv 12 45, false, []⟩])
 (.seq (.reg [mv 47 11,
 cl 48 116 [.t 47],
 mv 46 48,
 rr 49 (.ext (.t 46) 0),
 rr 50 (.ext (.t 46) 1),
 mv 13 49,
 mv 14 50])
 (.seq (.seq (.reg [mv 51 12,
 rr 52 (.not (.t 51))])
 (.cond (.t 52) (.seq (.reg [rr 4 (.mov (.c (.str []))),
 rr 5 (.mov (ci 0)),
 rr 6 (.mov (ci 23))])
 (.ret))
 (.skip)))
 (.reg [mv 53 13,
 mv 10 53]))))))
 (.skip)))
 (.seq (.reg [mv 54 10,
 mv 15 54])
 (.seq (.seq (.reg [rr 55 (.fld 0 (.t 7)),
 rr 56 (.load1 (.t 55))])
 (.cond (.t 56) (.reg [mv 57 10,
 rr 58 (.arith .add (.t 57) (ci 1)),
 rr 59 (.arith .quo (.t 58) (ci 2)),
 mv 15 59])
 (.skip)))
 (.seq (.seq (.reg [mv 60 1,
 rr 61 (.len 1 (.t 60)),
 mv 62 9,
 mv 63 15,
 rr 64 (.arith .add (.t 62) (.t 63)),
 rr 65 (.cmp .lss (.t 61) (.t 64))])
 (.cond (.t 65) (.seq (.reg [rr 4 (.mov (.c (.str []))),
 rr 5 (.mov (ci 0)),
 rr 6 (.mov (ci 23))])
 (.ret))
 (.skip)))
 (.seq (.reg [mv 66 1,
 mv 67 9,
 mv 68 9,
 mv 69 15,
 rr 70 (.arith .add (.t 68) (.t 69)),
 rr 71 (.slcS 1 (.t 66) (some (.t 67)) (some (.t 70)) none),
 rr 72 (.toStr (.t 71)),
 mv 16 72,
 rr 8 (.mov (.c (.bool true)))])
 (.seq (.seq (.reg [rr 73 (.fld 0 (.t 7)),
 rr 74 (.load1 (.t 73))])
 (.cond (.t 74) (.reg [mv 76 1,
 mv 77 9,
 mv 78 9,
 mv 79 15,
 rr 80 (.arith .add (.t 78) (.t 79)),
 rr 81 (.slcS 1 (.t 76) (some (.t 77)) (some (.t 80)) none),
 mv 82 10,
 cl 83 180 [.t 81, .t 82],
 mv 75 83,
 rr 84 (.ext (.t 75) 0),
 rr 85 (.ext (.t 75) 1),
 mv 16 84,
 mv 8 85])
 (.skip)))
 (.seq (.seq (.reg [mv 86 8,
 rr 87 (.not (.t 86)),
 mv 88 87,
 gr 89 (.mov (.t 0)) 88 false,
 gr 90 (.mov (.t 16)) 88 false,
 ⟨(some 91), .e (.call (.c (.fn (.func 227) [] [])) [.t 89, .t 90]), (some (88, false))⟩,
 gr 92 (.not (.t 91)) 88 false,
 rr 93 (.pick (.t 88) (.c (.bool true)) (.t 92))])
 (.cond (.t 93) (.seq (.reg [rr 4 (.mov (.c (.str []))),
 rr 5 (.mov (ci 0)),
 rr 6 (.mov (ci 23))])
 (.ret))
 (.skip)))
 (.seq (.reg [mv 94 16,
 mv 95 9,
 mv 96 15,
 rr 97 (.arith .add (.t 95) (.t 96)),
 mv 4 94,
 mv 5 97,
 rr 6 (.mov (ci 0))])
 (.ret))))))))))))⟩
/-- (*guichet/guichetref12.Ledger).at -/
def b183 : AFunc := ⟨25, [.tmp 4],
 .seq (.reg [nn 3 (.box (.t 1)),
 rr 4 (.mov (ci 0))])
 (.seq (.seq (.reg [rr 5 (.mov (ci 0))])
 (.block 0 (.loop [] (.seq (.seq (.reg [mv 6 5,
 mv 7 0,
 rr 8 (.nilchk (.t 7)),
 rr 9 (.fld 2 (.t 8)),
 rr 10 (.load1 (.t 9)),
 rr 11 (.len 1 (.t 10)),
 rr 12 (.cmp .lss (.t 6) (.t 11))])
 (.cond (.t 12) (.skip)
 (.exit 0)))
 (.seq (.block 1 (.seq (.dreg [⟨0, mv 15 0, false, []⟩,
 ⟨1, rr 16 (.nilchk (.t 15)), false, []⟩,
 ⟨2, rr 17 (.fld 2 (.t 16)), false, []⟩,
 ⟨3, rr 18 (.load1 (.t 17)), false, []⟩,
 ⟨4, mv 19 5, false, []⟩,
 ⟨5, rr 20 (.idxS 2 (.t 18) (.t 19)), false, []⟩,
 ⟨6, rr 21 (.loadN 2 (.t 20)), false, []⟩,
 ⟨7, rr 22 (.loadN 2 (.t 3)), false, []⟩,
 ⟨8, rr 23 (.eqA [.i .u16, .i .u32] false (.t 21) (.t 22)), false, []⟩])
 (.cond (.t 23) (.seq (.reg [mv 24 5,
 mv 4 24])
 (.ret))
 (.skip))))
 (.reg [mv 13 5,
 rr 14 (.arith .add (.t 13) (ci 1)),
 mv 5 14]))))))
 (.seq (.reg [rr 4 (.mov (ci (-1)))])
 (.ret)))⟩
/-- (*guichet/guichetref12.Ledger).keep -/
def b184 : AFunc := ⟨50, [],
 .seq (.reg [nn 6 (.box (.t 1))])
 (.seq (.dreg [⟨0, mv 10 0, false, []⟩,
 ⟨1, mv 11 0, false, []⟩,
 ⟨2, mv 12 0, false, []⟩,
 ⟨3, rr 13 (.nilchk (.t 12)), false, []⟩,
 ⟨4, rr 14 (.fld 2 (.t 13)), false, []⟩,
 ⟨5, rr 15 (.load1 (.t 14)), false, []⟩,
 ⟨6, rr 16 (.loadN 2 (.t 6)), false, []⟩,
 ⟨7, nn 17 (.bslice (some .key) 2 1 [.t 16]), false, []⟩,
 ⟨9, mv 19 0, false, []⟩,
 ⟨10, rr 20 (.nilchk (.t 19)), false, []⟩,
 ⟨11, rr 21 (.fld 3 (.t 20)), false, []⟩,
 ⟨12, rr 22 (.load1 (.t 21)), false, []⟩,
 ⟨13, mv 23 2, false, []⟩,
 ⟨14, nn 24 (.bslice (some .str) 1 1 [.t 23]), false, []⟩,
 ⟨8, ee 18 (.append .key (.t 15) (.t 17)), true, [7, 6, 5, 4, 3, 2]⟩,
 ⟨15, ee 25 (.append .str (.t 22) (.t 24)), true, [14, 13, 12, 11, 10, 9, 8, 7, 6, 5, 4, 3, 2]⟩,
 ⟨16, rr 26 (.nilchk (.t 10)), false, []⟩,
 ⟨17, rr 27 (.fld 2 (.t 26)), false, []⟩,
 ⟨18, ff (.store1 (.t 27) (.t 18)), true, [17, 16, 15, 14, 13, 12, 11, 10, 9, 8, 7, 6, 5, 4, 3, 2, 0]⟩,
 ⟨19, rr 28 (.nilchk (.t 11)), false, []⟩,
 ⟨20, rr 29 (.fld 3 (.t 28)), false, []⟩,
 ⟨21, ff (.store1 (.t 29) (.t 25)), true, [20, 19, 18, 17, 16, 15, 14, 13, 12, 11, 10, 9, 8, 7, 6, 5, 4, 3, 2, 1, 0]⟩])
 (.dreg [⟨0, mv 30 0, false, []⟩,
 ⟨1, mv 31 0, false, []⟩,
 ⟨2, mv 32 0, false, []⟩,
 ⟨3, rr 33 (.nilchk (.t 32)), false, []⟩,
 ⟨4, rr 34 (.fld 4 (.t 33)), false, []⟩,
 ⟨5, rr 35 (.load1 (.t 34)), false, []⟩,
 ⟨6, mv 36 3, false, []⟩,
 ⟨7, nn 37 (.bslice (some (.int .i64)) 1 1 [.t 36]), false, []⟩,
 ⟨9, mv 39 0, false, []⟩,
 ⟨10, rr 40 (.nilchk (.t 39)), false, []⟩,
 ⟨11, rr 41 (.fld 5 (.t 40)), false, []⟩,
 ⟨12, rr 42 (.load1 (.t 41)), false, []⟩,
 ⟨13, mv 43 4, false, []⟩,
 ⟨14, nn 44 (.bslice (some (.int .i64)) 1 1 [.t 43]), false, []⟩,
 ⟨8, ee 38 (.append (.int .i64) (.t 35) (.t 37)), true, [7, 6, 5, 4, 3, 2]⟩,
 ⟨15, ee 45 (.append (.int .i64) (.t 42) (.t 44)), true, [14, 13, 12, 11, 10, 9, 8, 7, 6, 5, 4, 3, 2]⟩,
 ⟨16, rr 46 (.nilchk (.t 30)), false, []⟩,
 ⟨17, rr 47 (.fld 4 (.t 46)), false, []⟩,
 ⟨18, ff (.store1 (.t 47) (.t 38)), true, [17, 16, 15, 14, 13, 12, 11, 10, 9, 8, 7, 6, 5, 4, 3, 2, 0]⟩,
 ⟨19, rr 48 (.nilchk (.t 31)), false, []⟩,
 ⟨20, rr 49 (.fld 5 (.t 48)), false, []⟩,
 ⟨21, ff (.store1 (.t 49) (.t 45)), true, [20, 19, 18, 17, 16, 15, 14, 13, 12, 11, 10, 9, 8, 7, 6, 5, 4, 3, 2, 1, 0]⟩]))⟩
/-- slices.pdqsortCmpFunc[guichet/api.Key] -/
def b186 : AFunc := ⟨148, [],
 .seq (.reg [rr 10 (.mov (.c (.bool true)))])
 (.seq (.reg [rr 11 (.mov (.c (.bool true)))])
 (.block 0 (.loop [] (.block 1 (.seq (.reg [mv 21 2,
 mv 22 1,
 rr 23 (.arith .sub (.t 21) (.t 22)),
 mv 12 23])
 (.seq (.seq (.reg [mv 24 12,
 rr 25 (.cmp .leq (.t 24) (ci 12))])
 (.cond (.t 25) (.seq (.reg [mv 26 0,
 mv 27 1,
 mv 28 2,
 mv 29 4,
 cl 30 230 [.t 26, .t 27, .t 28, .t 29]])
 (.ret))
 (.skip)))
 (.seq (.seq (.reg [mv 31 3,
 rr 32 (.cmp .eql (.t 31) (ci 0))])
 (.cond (.t 32) (.seq (.reg [mv 33 0,
 mv 34 1,
 mv 35 2,
 mv 36 4,
 cl 37 231 [.t 33, .t 34, .t 35, .t 36]])
 (.ret))
 (.skip)))
 (.seq (.seq (.reg [mv 38 10,
 rr 39 (.not (.t 38))])
 (.cond (.t 39) (.seq (.reg [mv 40 0,
 mv 41 1,
 mv 42 2,
 mv 43 4,
 cl 44 232 [.t 40, .t 41, .t 42, .t 43]])
 (.reg [mv 45 3,
 rr 46 (.arith .sub (.t 45) (ci 1)),
 mv 3 46]))
 (.skip)))
 (.seq (.reg [mv 48 0,
 mv 49 1,
 mv 50 2,
 mv 51 4,
 cl 52 233 [.t 48, .t 49, .t 50, .t 51],
 mv 47 52,
 rr 53 (.ext (.t 47) 0),
 rr 54 (.ext (.t 47) 1),
 mv 13 53,
 mv 14 54])
 (.seq (.seq (.reg [mv 55 14,
 rr 56 (.cmp .eql (.t 55) (ci 2))])
 (.cond (.t 56) (.seq (.reg [mv 57 0,
 mv 58 1,
 mv 59 2,
 mv 60 4,
 cl 61 234 [.t 57, .t 58, .t 59, .t 60]])
 (.seq (.reg [mv 62 2,
 rr 63 (.arith .sub (.t 62) (ci 1)),
 mv 64 13,
 mv 65 1,
 rr 66 (.arith .sub (.t 64) (.t 65)),
 rr 67 (.arith .sub (.t 63) (.t 66)),
 mv 13 67])
 (.reg [rr 14 (.mov (ci 1))])))
 (.skip)))
 (.seq (.seq (.reg [mv 68 10,
 mv 69 68,
 gr 70 (.mov (.t 11)) 69 true,
 rr 71 (.pick (.t 69) (.t 70) (.c (.bool false))),
 mv 72 71,
 gr 73 (.mov (.t 14)) 72 true,
 gr 74 (.cmp .eql (.t 73) (ci 1)) 72 true,
 rr 75 (.pick (.t 72) (.t 74) (.c (.bool false)))])
 (.cond (.t 75) (.seq (.reg [mv 76 0,
 mv 77 1,
 mv 78 2,
 mv 79 4,
 cl 80 235 [.t 76, .t 77, .t 78, .t 79]])
 (.cond (.t 80) (.ret)
 (.skip)))
 (.skip)))
 (.seq (.seq (.dreg [⟨0, mv 81 1, false, []⟩,
 ⟨1, rr 82 (.cmp .gtr (.t 81) (ci 0)), false, []⟩,
 ⟨2, mv 83 82, false, []⟩,
 ⟨3, gr 84 (.mov (.t 4)) 83 true, false, []⟩,
 ⟨4, gr 85 (.mov (.t 0)) 83 true, false, []⟩,
 ⟨5, gr 86 (.mov (.t 1)) 83 true, false, []⟩,
 ⟨6, gr 87 (.arith .sub (.t 86) (ci 1)) 83 true, false, []⟩,
 ⟨7, gr 88 (.idxS 2 (.t 85) (.t 87)) 83 true, false, []⟩,
 ⟨8, gr 89 (.loadN 2 (.t 88)) 83 true, false, []⟩,
 ⟨9, gr 90 (.mov (.t 0)) 83 true, false, []⟩,
 ⟨10, gr 91 (.mov (.t 13)) 83 true, false, []⟩,
 ⟨11, gr 92 (.idxS 2 (.t 90) (.t 91)) 83 true, false, []⟩,
 ⟨12, gr 93 (.loadN 2 (.t 92)) 83 true, false, []⟩,
 ⟨13, ⟨(some 94), .e (.call (.t 84) [.t 89, .t 93]), (some (83, true))⟩, true, [12, 11, 10, 9, 8, 7, 6, 5, 4, 3, 2, 1, 0]⟩,
 ⟨14, gr 95 (.cmp .lss (.t 94) (ci 0)) 83 true, false, []⟩,
 ⟨15, gr 96 (.not (.t 95)) 83 true, false, []⟩,
 ⟨16, rr 97 (.pick (.t 83) (.t 96) (.c (.bool false))), false, []⟩])
 (.cond (.t 97) (.seq (.reg [mv 98 0,
 mv 99 1,
 mv 100 2,
 mv 101 13,
 mv 102 4,
 cl 103 236 [.t 98, .t 99, .t 100, .t 101, .t 102],
 mv 15 103])
 (.seq (.reg [mv 104 15,
 mv 1 104])
 (.exit 1)))
 (.skip)))
 (.seq (.reg [mv 106 0,
 mv 107 1,
 mv 108 2,
 mv 109 13,
 mv 110 4,
 cl 111 237 [.t 106, .t 107, .t 108, .t 109, .t 110],
 mv 105 111,
 rr 112 (.ext (.t 105) 0),
 rr 113 (.ext (.t 105) 1),
 mv 16 112,
 mv 17 113])
 (.seq (.reg [mv 114 17,
 mv 11 114])
 (.seq (.reg [mv 115 16,
 mv 116 1,
 rr 117 (.arith .sub (.t 115) (.t 116)),
 mv 118 2,
 mv 119 16,
 rr 120 (.arith .sub (.t 118) (.t 119)),
 mv 18 117,
 mv 19 120])
 (.seq (.reg [mv 121 12,
 rr 122 (.arith .quo (.t 121) (ci 8)),
 mv 20 122])
 (.seq (.reg [mv 123 18,
 mv 124 19,
 rr 125 (.cmp .lss (.t 123) (.t 124))])
 (.cond (.t 125) (.seq (.reg [mv 126 18,
 mv 127 20,
 rr 128 (.cmp .geq (.t 126) (.t 127)),
 mv 10 128])
 (.seq (.reg [mv 129 0,
 mv 130 1,
 mv 131 16,
 mv 132 3,
 mv 133 4,
 cl 134 186 [.t 129, .t 130, .t 131, .t 132, .t 133]])
 (.reg [mv 135 16,
 rr 136 (.arith .add (.t 135) (ci 1)),
 mv 1 136])))
 (.seq (.reg [mv 137 19,
 mv 138 20,
 rr 139 (.cmp .geq (.t 137) (.t 138)),
 mv 10 139])
 (.seq (.reg [mv 140 0,
 mv 141 16,
 rr 142 (.arith .add (.t 141) (ci 1)),
 mv 143 2,
 mv 144 3,
 mv 145 4,
 cl 146 186 [.t 140, .t 142, .t 143, .t 144, .t 145]])
 (.reg [mv 147 16,
 mv 2 147])))))))))))))))))))))⟩
/-- math/bits.Len -/
def b187 : AFunc := ⟨8, [.tmp 2],
 .seq (.reg [rr 2 (.mov (ci 0))])
 (.seq (.cond (.c (.bool false)) (.seq (.reg [mv 3 0,
 rr 4 (.toInt .u32 (.t 3)),
 cl 5 238 [.t 4],
 mv 2 5])
 (.ret))
 (.skip))
 (.seq (.reg [mv 6 0,
 cl 7 239 [.t 6],
 mv 2 7])
 (.ret)))⟩
/-- guichet/frame.Sum -/
def b193 : AFunc := ⟨29, [.tmp 2],
 .seq (.reg [rr 2 (.mov (.c (.int .u32 0)))])
 (.seq (.reg [rr 3 (.mov (.c (.int .u32 4294967295)))])
 (.seq (.seq (.reg [mv 6 0,
 rr 7 (.len 1 (.t 6)),
 rr 8 (.mov (ci 0))])
 (.block 0 (.loop [] (.seq (.reg [rr 9 (.cmp .lss (.t 8) (.t 7))])
 (.seq (.cond (.t 9) (.skip)
 (.exit 0))
 (.seq (.block 1 (.seq (.reg [rr 10 (.idxS 1 (.t 6) (.t 8)),
 rr 11 (.load1 (.t 10)),
 mv 5 11])
 (.seq (.reg [mv 12 3,
 mv 13 5,
 rr 14 (.toInt .u32 (.t 13)),
 rr 15 (.arith .xor (.t 12) (.t 14)),
 mv 3 15])
 (.seq (.reg [rr 16 (.mov (ci 0))])
 (.block 2 (.loop [] (.seq (.reg [rr 17 (.cmp .lss (.t 16) (ci 8))])
 (.seq (.cond (.t 17) (.skip)
 (.exit 2))
 (.seq (.block 3 (.reg [mv 18 3,
 rr 19 (.arith .shr (.t 18) (.c (.int .u64 1))),
 mv 20 3,
 rr 21 (.arith .and (.t 20) (.c (.int .u32 1))),
 rr 22 (.neg (.t 21)),
 rr 23 (.arith .and (.t 22) (.c (.int .u32 2197175160))),
 rr 24 (.arith .xor (.t 19) (.t 23)),
 mv 3 24]))
 (.reg [rr 25 (.arith .add (.t 16) (ci 1)),
 mv 16 25]))))))))))
 (.reg [rr 26 (.arith .add (.t 8) (ci 1)),
 mv 8 26])))))))
 (.seq (.reg [mv 27 3,
 rr 28 (.compl (.t 27)),
 mv 2 28])
 (.ret))))⟩
/-- guichet/frame.counts -/
def b194 : AFunc := ⟨25, [.tmp 2],
 .seq (.reg [rr 2 (.mov (.c (.bool false)))])
 (.seq (.seq (.reg [mv 7 0,
 rr 8 (.len 1 (.t 7)),
 rr 9 (.mov (ci 0))])
 (.block 0 (.loop [] (.seq (.reg [rr 10 (.cmp .lss (.t 9) (.t 8))])
 (.seq (.cond (.t 10) (.skip)
 (.exit 0))
 (.seq (.block 1 (.seq (.reg [rr 11 (.idxS 4 (.t 7) (.t 9)),
 rr 12 (.loadN 4 (.t 11)),
 nn 4 (.zbox [(.int .i64 0), (.int .i64 0), (.int .i64 0), (.int .i64 0)]),
 ff (.storeN 4 (.t 4) (.t 12))])
 (.seq (.reg [rr 13 (.loadN 4 (.t 4)),
 rr 14 (.mov (ci 0))])
 (.block 2 (.loop [] (.seq (.reg [rr 15 (.cmp .lss (.t 14) (ci 4))])
 (.seq (.cond (.t 15) (.skip)
 (.exit 2))
 (.seq (.block 3 (.seq (.reg [rr 16 (.at 4 1 true (.t 13) (.t 14)),
 mv 6 16])
 (.seq (.reg [mv 17 6,
 rr 18 (.cmp .lss (.t 17) (ci 0)),
 mv 19 18,
 gr 20 (.mov (.t 6)) 19 false,
 gr 21 (.cmp .gtr (.t 20) (ci 10000)) 19 false,
 rr 22 (.pick (.t 19) (.c (.bool true)) (.t 21))])
 (.cond (.t 22) (.seq (.reg [rr 2 (.mov (.c (.bool false)))])
 (.ret))
 (.skip)))))
 (.reg [rr 23 (.arith .add (.t 14) (ci 1)),
 mv 14 23])))))))))
 (.reg [rr 24 (.arith .add (.t 9) (ci 1)),
 mv 9 24])))))))
 (.seq (.reg [rr 2 (.mov (.c (.bool true)))])
 (.ret)))⟩
/-- guichet/mix.Left -/
def b196 : AFunc := ⟨33, [.tmp 2],
 .seq (.reg [nn 1 (.box (.t 0)),
 rr 2 (.mov (ci 0))])
 (.seq (.seq (.reg [rr 5 (.fld 1 (.t 1)),
 rr 6 (.load1 (.t 5)),
 rr 7 (.fld 2 (.t 1)),
 rr 8 (.load1 (.t 7)),
 rr 9 (.fld 3 (.t 1)),
 rr 10 (.load1 (.t 9)),
 nn 11 (.bslice (some (.int .i64)) 1 3 [.t 6, .t 8, .t 10]),
 rr 12 (.len 1 (.t 11)),
 rr 13 (.mov (ci 0))])
 (.block 0 (.loop [] (.seq (.reg [rr 14 (.cmp .lss (.t 13) (.t 12))])
 (.seq (.cond (.t 14) (.skip)
 (.exit 0))
 (.seq (.block 1 (.seq (.reg [rr 15 (.idxS 1 (.t 11) (.t 13)),
 rr 16 (.load1 (.t 15)),
 mv 4 16])
 (.seq (.reg [mv 17 4,
 rr 18 (.cmp .lss (.t 17) (ci 0)),
 mv 19 18,
 gr 20 (.mov (.t 4)) 19 false,
 gr 21 (.cmp .gtr (.t 20) (ci 10000)) 19 false,
 rr 22 (.pick (.t 19) (.c (.bool true)) (.t 21))])
 (.cond (.t 22) (.seq (.reg [rr 2 (.mov (ci 0))])
 (.ret))
 (.skip)))))
 (.reg [rr 23 (.arith .add (.t 13) (ci 1)),
 mv 13 23])))))))
 (.seq (.reg [rr 24 (.fld 1 (.t 1)),
 rr 25 (.load1 (.t 24)),
 rr 26 (.fld 2 (.t 1)),
 rr 27 (.load1 (.t 26)),
 rr 28 (.arith .sub (.t 25) (.t 27)),
 rr 29 (.fld 3 (.t 1)),
 rr 30 (.load1 (.t 29)),
 rr 31 (.arith .sub (.t 28) (.t 30)),
 rr 32 (.minmax true (.t 31) (ci 0)),
 mv 2 32])
 (.ret)))⟩
/-- guichet/txn.Step -/
def b197 : AFunc := ⟨86, [.cellN 4 11, .tmp 5],
 .seq (.reg [nn 2 (.box (.t 0)),
 nn 3 (.box (.t 1)),
 nn 4 (.zbox [(.int .u16 0), (.int .u32 0), (.str []), (.int .i64 0), (.int .i64 0), (.int .i64 0), (.int .i64 0), (.int .i64 0), (.int .i64 0), (.int .i64 0), (.int .i64 0)]),
 rr 5 (.mov (ci 0))])
 (.seq (.block 0 (.seq (.reg [rr 7 (.loadN 17 (.t 3)),
 cl 8 137 [.t 7],
 rr 9 (.not (.t 8)),
 mv 10 9,
 gr 11 (.loadN 11 (.t 2)) 10 false,
 ⟨(some 12), .e (.call (.c (.fn (.func 243) [] [])) [.t 11]), (some (10, false))⟩,
 gr 13 (.not (.t 12)) 10 false,
 rr 14 (.pick (.t 10) (.c (.bool true)) (.t 13)),
 mv 15 14,
 gr 16 (.fld 0 (.t 3)) 15 false,
 gr 17 (.load1 (.t 16)) 15 false,
 gr 18 (.cmp .gtr (.t 17) (ci 7)) 15 false,
 rr 19 (.pick (.t 15) (.c (.bool true)) (.t 18)),
 mv 20 19,
 gr 21 (.fld 4 (.t 2)) 20 false,
 gr 22 (.load1 (.t 21)) 20 false,
 gr 23 (.cmp .neq (.t 22) (ci 0)) 20 false,
 gr 24 (.mov (.t 23)) 20 false,
 gr 25 (.fld 1 (.t 3)) 24 true,
 gr 26 (.loadN 2 (.t 25)) 24 true,
 gr 27 (.fld 0 (.t 2)) 24 true,
 gr 28 (.loadN 2 (.t 27)) 24 true,
 gr 29 (.eqA [.i .u16, .i .u32] true (.t 26) (.t 28)) 24 true,
 gr 30 (.pick (.t 24) (.t 29) (.c (.bool false))) 20 false,
 rr 31 (.pick (.t 20) (.c (.bool true)) (.t 30)),
 mv 6 31])
 (.cond (.t 6) (.seq (.reg [rr 32 (.build [(.int .u16 0), (.int .u32 0), (.str []), (.int .i64 0), (.int .i64 0), (.int .i64 0), (.int .i64 0), (.int .i64 0), (.int .i64 0), (.int .i64 0), (.int .i64 0)] []),
 ff (.storeN 11 (.t 4) (.t 32)),
 rr 5 (.mov (ci 27))])
 (.ret))
 (.seq (.dreg [⟨0, rr 34 (.fld 4 (.t 2)), false, []⟩,
 ⟨1, rr 35 (.load1 (.t 34)), false, []⟩,
 ⟨2, rr 36 (.fld 0 (.t 3)), false, []⟩,
 ⟨3, rr 37 (.load1 (.t 36)), false, []⟩,
 ⟨4, cl 38 245 [.t 37], true, [3, 2]⟩,
 ⟨5, cl 39 244 [.t 35, .t 38], true, [4, 3, 2, 1, 0]⟩,
 ⟨6, rr 40 (.not (.t 39)), false, []⟩,
 ⟨7, mv 33 40, false, []⟩])
 (.cond (.t 33) (.seq (.reg [rr 41 (.build [(.int .u16 0), (.int .u32 0), (.str []), (.int .i64 0), (.int .i64 0), (.int .i64 0), (.int .i64 0), (.int .i64 0), (.int .i64 0), (.int .i64 0), (.int .i64 0)] []),
 ff (.storeN 11 (.t 4) (.t 41)),
 rr 5 (.mov (ci 30))])
 (.ret))
 (.skip))))))
 (.seq (.seq (.reg [rr 42 (.fld 0 (.t 3)),
 rr 43 (.load1 (.t 42))])
 (.block 1 (.seq (.reg [rr 45 (.cmp .eql (.t 43) (ci 1)),
 mv 44 45])
 (.cond (.t 44) (.seq (.reg [rr 46 (.loadN 17 (.t 3)),
 cl 47 246 [.t 46],
 rr 48 (.ext (.t 47) 0),
 rr 49 (.ext (.t 47) 1),
 ff (.storeN 11 (.t 4) (.t 48)),
 mv 5 49])
 (.ret))
 (.seq (.reg [rr 51 (.cmp .eql (.t 43) (ci 2)),
 mv 50 51])
 (.cond (.t 50) (.reg [rr 52 (.fld 4 (.t 2)),
 ff (.store1 (.t 52) (ci 2))])
 (.seq (.reg [rr 54 (.cmp .eql (.t 43) (ci 3)),
 mv 53 54])
 (.cond (.t 53) (.reg [rr 55 (.fld 4 (.t 2)),
 ff (.store1 (.t 55) (ci 6))])
 (.seq (.reg [rr 57 (.cmp .eql (.t 43) (ci 4)),
 mv 56 57])
 (.cond (.t 56) (.reg [rr 58 (.loadN 11 (.t 2)),
 cl 59 247 [.t 58, (ci 0)],
 ff (.storeN 11 (.t 2) (.t 59))])
 (.seq (.reg [rr 61 (.cmp .eql (.t 43) (ci 5)),
 mv 60 61])
 (.cond (.t 60) (.dreg [⟨0, rr 62 (.fld 5 (.t 3)), false, []⟩,
 ⟨1, rr 63 (.loadN 4 (.t 62)), false, []⟩,
 ⟨2, rr 64 (.fld 4 (.t 2)), false, []⟩,
 ⟨3, ff (.store1 (.t 64) (ci 3)), true, [2]⟩,
 ⟨4, rr 65 (.fld 5 (.t 2)), false, []⟩,
 ⟨5, ff (.storeN 4 (.t 65) (.t 63)), true, [4, 3, 2, 1, 0]⟩])
 (.seq (.reg [rr 67 (.cmp .eql (.t 43) (ci 6)),
 mv 66 67])
 (.cond (.t 66) (.seq (.seq (.reg [rr 68 (.fld 4 (.t 3)),
 rr 69 (.load1 (.t 68)),
 rr 70 (.fld 3 (.t 2)),
 rr 71 (.load1 (.t 70)),
 rr 72 (.cmp .gtr (.t 69) (.t 71))])
 (.cond (.t 72) (.seq (.reg [rr 73 (.build [(.int .u16 0), (.int .u32 0), (.str []), (.int .i64 0), (.int .i64 0), (.int .i64 0), (.int .i64 0), (.int .i64 0), (.int .i64 0), (.int .i64 0), (.int .i64 0)] []),
 ff (.storeN 11 (.t 4) (.t 73)),
 rr 5 (.mov (ci 34))])
 (.ret))
 (.skip)))
 (.seq (.reg [rr 74 (.loadN 11 (.t 2)),
 rr 75 (.fld 4 (.t 3)),
 rr 76 (.load1 (.t 75)),
 cl 77 247 [.t 74, .t 76],
 ff (.storeN 11 (.t 2) (.t 77))])
 (.seq (.reg [rr 78 (.fld 10 (.t 2)),
 rr 79 (.load1 (.t 78)),
 rr 80 (.cmp .eql (.t 79) (ci 0))])
 (.cond (.t 80) (.reg [rr 81 (.fld 4 (.t 2)),
 ff (.store1 (.t 81) (ci 5))])
 (.skip)))))
 (.seq (.reg [rr 83 (.cmp .eql (.t 43) (ci 7)),
 mv 82 83])
 (.cond (.t 82) (.reg [rr 84 (.fld 4 (.t 2)),
 ff (.store1 (.t 84) (ci 5))])
 (.skip)))))))))))))))))
 (.seq (.reg [rr 85 (.loadN 11 (.t 2)),
 ff (.storeN 11 (.t 4) (.t 85)),
 rr 5 (.mov (ci 0))])
 (.ret))))⟩
/-- strings.genSplit -/
def b203 : AFunc := ⟨66, [.tmp 8],
 .seq (.reg [rr 8 (.mov (.c (.slice none (.n 0) (.exact 0))))])
 (.seq (.seq (.reg [mv 12 3,
 rr 13 (.cmp .eql (.t 12) (ci 0))])
 (.cond (.t 13) (.seq (.reg [rr 8 (.mov (.c (.slice none (.n 0) (.exact 0))))])
 (.ret))
 (.skip)))
 (.seq (.seq (.reg [mv 14 1,
 rr 15 (.eq1 (.s) false (.t 14) (.c (.str [])))])
 (.cond (.t 15) (.seq (.reg [mv 16 0,
 mv 17 3,
 cl 18 249 [.t 16, .t 17],
 mv 8 18])
 (.ret))
 (.skip)))
 (.seq (.seq (.reg [mv 19 3,
 rr 20 (.cmp .lss (.t 19) (ci 0))])
 (.cond (.t 20) (.reg [mv 21 0,
 mv 22 1,
 cl 23 250 [.t 21, .t 22],
 rr 24 (.arith .add (.t 23) (ci 1)),
 mv 3 24])
 (.skip)))
 (.seq (.reg [mv 25 3,
 mv 26 0,
 rr 27 (.len 0 (.t 26)),
 rr 28 (.arith .add (.t 27) (ci 1)),
 rr 29 (.minmax false (.t 25) (.t 28)),
 mv 3 29])
 (.seq (.reg [mv 30 3,
 nn 31 (.mkslice .str (.t 30)),
 mv 9 31])
 (.seq (.reg [mv 32 3,
 rr 33 (.arith .sub (.t 32) (ci 1)),
 mv 3 33])
 (.seq (.reg [rr 10 (.mov (ci 0))])
 (.seq (.block 0 (.loop [] (.seq (.seq (.reg [mv 34 10,
 mv 35 3,
 rr 36 (.cmp .lss (.t 34) (.t 35))])
 (.cond (.t 36) (.skip)
 (.exit 0)))
 (.block 1 (.seq (.reg [mv 37 0,
 mv 38 1,
 cl 39 251 [.t 37, .t 38],
 mv 11 39])
 (.seq (.seq (.reg [mv 40 11,
 rr 41 (.cmp .lss (.t 40) (ci 0))])
 (.cond (.t 41) (.exit 0)
 (.skip)))
 (.seq (.reg [mv 42 9,
 mv 43 10,
 mv 44 0,
 mv 45 11,
 mv 46 2,
 rr 47 (.arith .add (.t 45) (.t 46)),
 rr 48 (.slcStr (.t 44) none (some (.t 47))),
 rr 49 (.idxS 1 (.t 42) (.t 43)),
 ff (.store1 (.t 49) (.t 48))])
 (.seq (.reg [mv 50 0,
 mv 51 11,
 mv 52 1,
 rr 53 (.len 0 (.t 52)),
 rr 54 (.arith .add (.t 51) (.t 53)),
 rr 55 (.slcStr (.t 50) (some (.t 54)) none),
 mv 0 55])
 (.reg [mv 56 10,
 rr 57 (.arith .add (.t 56) (ci 1)),
 mv 10 57])))))))))
 (.seq (.reg [mv 58 9,
 mv 59 10,
 mv 60 0,
 rr 61 (.idxS 1 (.t 58) (.t 59)),
 ff (.store1 (.t 61) (.t 60))])
 (.seq (.reg [mv 62 9,
 mv 63 10,
 rr 64 (.arith .add (.t 63) (ci 1)),
 rr 65 (.slcS 1 (.t 62) none (some (.t 64)) none),
 mv 8 65])
 (.ret)))))))))))⟩
/-- internal/strconv.Atoi -/
def b204 : AFunc := ⟨77, [.tmp 2, .tmp 3],
 .seq (.reg [rr 2 (.mov (ci 0)),
 rr 3 (.mov (.c .nilIfc))])
 (.seq (.reg [mv 11 0,
 rr 12 (.len 0 (.t 11)),
 mv 4 12])
 (.seq (.seq (.reg [rr 13 (.mov (.c (.bool false))),
 gr 14 (.mov (.t 4)) 13 true,
 gr 15 (.cmp .lss (ci 0) (.t 14)) 13 true,
 gr 16 (.mov (.t 15)) 13 true,
 gr 17 (.mov (.t 4)) 16 true,
 gr 18 (.cmp .lss (.t 17) (ci 10)) 16 true,
 gr 19 (.pick (.t 16) (.t 18) (.c (.bool false))) 13 true,
 rr 20 (.pick (.t 13) (.t 19) (.c (.bool false))),
 mv 21 20,
 gr 22 (.mov (.c (.bool true))) 21 false,
 gr 23 (.mov (.t 4)) 22 true,
 gr 24 (.cmp .lss (ci 0) (.t 23)) 22 true,
 gr 25 (.mov (.t 24)) 22 true,
 gr 26 (.mov (.t 4)) 25 true,
 gr 27 (.cmp .lss (.t 26) (ci 19)) 25 true,
 gr 28 (.pick (.t 25) (.t 27) (.c (.bool false))) 22 true,
 gr 29 (.pick (.t 22) (.t 28) (.c (.bool false))) 21 false,
 rr 30 (.pick (.t 21) (.c (.bool true)) (.t 29))])
 (.cond (.t 30) (.seq (.reg [mv 31 0,
 mv 5 31])
 (.seq (.seq (.reg [mv 32 0,
 rr 33 (.strAt (.t 32) (ci 0)),
 rr 34 (.cmp .eql (.t 33) (.c (.int .u8 45))),
 mv 35 34,
 gr 36 (.mov (.t 0)) 35 false,
 gr 37 (.strAt (.t 36) (ci 0)) 35 false,
 gr 38 (.cmp .eql (.t 37) (.c (.int .u8 43))) 35 false,
 rr 39 (.pick (.t 35) (.c (.bool true)) (.t 38))])
 (.cond (.t 39) (.seq (.reg [mv 40 0,
 rr 41 (.slcStr (.t 40) (some (ci 1)) none),
 mv 0 41])
 (.seq (.reg [mv 42 0,
 rr 43 (.len 0 (.t 42)),
 rr 44 (.cmp .lss (.t 43) (ci 1))])
 (.cond (.t 44) (.seq (.reg [rr 45 (.ifc 378 (ci 2)),
 rr 2 (.mov (ci 0)),
 mv 3 45])
 (.ret))
 (.skip))))
 (.skip)))
 (.seq (.reg [rr 6 (.mov (ci 0))])
 (.seq (.seq (.reg [mv 46 0,
 nn 47 (.bytes (.t 46)),
 rr 48 (.len 1 (.t 47)),
 rr 49 (.mov (ci 0))])
 (.block 0 (.loop [] (.seq (.reg [rr 50 (.cmp .lss (.t 49) (.t 48))])
 (.seq (.cond (.t 50) (.skip)
 (.exit 0))
 (.seq (.block 1 (.seq (.reg [rr 51 (.idxS 1 (.t 47) (.t 49)),
 rr 52 (.load1 (.t 51)),
 mv 8 52])
 (.seq (.reg [mv 53 8,
 rr 54 (.arith .sub (.t 53) (.c (.int .u8 48))),
 mv 8 54])
 (.seq (.seq (.reg [mv 55 8,
 rr 56 (.cmp .gtr (.t 55) (.c (.int .u8 9)))])
 (.cond (.t 56) (.seq (.reg [rr 57 (.ifc 378 (ci 2)),
 rr 2 (.mov (ci 0)),
 mv 3 57])
 (.ret))
 (.skip)))
 (.reg [mv 58 6,
 rr 59 (.arith .mul (.t 58) (ci 10)),
 mv 60 8,
 rr 61 (.toInt .i64 (.t 60)),
 rr 62 (.arith .add (.t 59) (.t 61)),
 mv 6 62])))))
 (.reg [rr 63 (.arith .add (.t 49) (ci 1)),
 mv 49 63])))))))
 (.seq (.seq (.reg [mv 64 5,
 rr 65 (.strAt (.t 64) (ci 0)),
 rr 66 (.cmp .eql (.t 65) (.c (.int .u8 45)))])
 (.cond (.t 66) (.reg [mv 67 6,
 rr 68 (.neg (.t 67)),
 mv 6 68])
 (.skip)))
 (.seq (.reg [mv 69 6,
 mv 2 69,
 rr 3 (.mov (.c .nilIfc))])
 (.ret)))))))
 (.skip)))
 (.seq (.reg [mv 71 0,
 cl 72 252 [.t 71, (ci 10), (ci 0)],
 mv 70 72,
 rr 73 (.ext (.t 70) 0),
 rr 74 (.ext (.t 70) 1),
 mv 9 73,
 mv 10 74])
 (.seq (.reg [mv 75 9,
 mv 76 10,
 mv 2 75,
 mv 3 76])
 (.ret)))))⟩
/-- internal/strconv.Itoa -/
def b206 : AFunc := ⟨5, [.tmp 2],
 .seq (.reg [rr 2 (.mov (.c (.str [])))])
 (.seq (.reg [mv 3 0,
 cl 4 257 [.t 3, (ci 10)],
 mv 2 4])
 (.ret))⟩
/-- (*guichet/mix.search).from -/
def b207 : AFunc := ⟨84, [],
 .seq (.reg [nn 7 (.box (.t 2))])
 (.seq (.seq (.reg [mv 11 1,
 rr 12 (.cmp .eql (.t 11) (ci 4))])
 (.cond (.t 12) (.seq (.seq (.reg [mv 13 4,
 rr 14 (.cmp .eql (.t 13) (ci 0))])
 (.cond (.t 14) (.reg [mv 15 0,
 rr 16 (.loadN 4 (.t 7)),
 mv 17 3,
 cl 18 258 [.t 15, .t 16, .t 17]])
 (.skip)))
 (.ret))
 (.skip)))
 (.seq (.seq (.dreg [⟨0, mv 19 4, false, []⟩,
 ⟨1, mv 20 0, false, []⟩,
 ⟨2, rr 21 (.nilchk (.t 20)), false, []⟩,
 ⟨3, rr 22 (.fld 13 (.t 21)), false, []⟩,
 ⟨4, rr 23 (.load1 (.t 22)), false, []⟩,
 ⟨5, rr 24 (.minmax false (.t 23) (ci 40)), false, []⟩,
 ⟨6, mv 25 3, false, []⟩,
 ⟨7, rr 26 (.arith .sub (.t 24) (.t 25)), false, []⟩,
 ⟨8, mv 27 0, false, []⟩,
 ⟨9, mv 28 1, false, []⟩,
 ⟨10, rr 29 (.nilchk (.t 27)), false, []⟩,
 ⟨11, rr 30 (.fld 8 (.t 29)), false, []⟩,
 ⟨12, rr 31 (.idxA 5 1 (.t 30) (.t 28)), false, []⟩,
 ⟨13, rr 32 (.load1 (.t 31)), false, []⟩,
 ⟨14, rr 33 (.arith .mul (.t 26) (.t 32)), false, []⟩,
 ⟨15, rr 34 (.cmp .gtr (.t 19) (.t 33)), false, []⟩])
 (.cond (.t 34) (.ret)
 (.skip)))
 (.seq (.reg [rr 10 (.mov (ci 0))])
 (.block 0 (.loop [] (.seq (.seq (.reg [mv 35 10,
 mv 36 0,
 mv 37 1,
 rr 38 (.nilchk (.t 36)),
 rr 39 (.fld 0 (.t 38)),
 rr 40 (.idxA 4 1 (.t 39) (.t 37)),
 rr 41 (.load1 (.t 40)),
 rr 42 (.cmp .leq (.t 35) (.t 41)),
 mv 43 42,
 gr 44 (.mov (.t 3)) 43 true,
 gr 45 (.mov (.t 10)) 43 true,
 gr 46 (.arith .add (.t 44) (.t 45)) 43 true,
 gr 47 (.cmp .leq (.t 46) (ci 40)) 43 true,
 rr 48 (.pick (.t 43) (.t 47) (.c (.bool false))),
 mv 49 48,
 gr 50 (.mov (.t 10)) 49 true,
 gr 51 (.mov (.t 0)) 49 true,
 gr 52 (.mov (.t 1)) 49 true,
 gr 53 (.nilchk (.t 51)) 49 true,
 gr 54 (.fld 4 (.t 53)) 49 true,
 gr 55 (.idxA 4 1 (.t 54) (.t 52)) 49 true,
 gr 56 (.load1 (.t 55)) 49 true,
 gr 57 (.arith .mul (.t 50) (.t 56)) 49 true,
 gr 58 (.mov (.t 4)) 49 true,
 gr 59 (.cmp .leq (.t 57) (.t 58)) 49 true,
 rr 60 (.pick (.t 49) (.t 59) (.c (.bool false)))])
 (.cond (.t 60) (.skip)
 (.exit 0)))
 (.seq (.block 1 (.seq (.reg [mv 63 1,
 mv 64 10,
 rr 65 (.idxA 4 1 (.t 7) (.t 63)),
 ff (.store1 (.t 65) (.t 64))])
 (.dreg [⟨0, mv 66 0, false, []⟩,
 ⟨1, mv 67 1, false, []⟩,
 ⟨2, rr 68 (.arith .add (.t 67) (ci 1)), false, []⟩,
 ⟨3, rr 69 (.loadN 4 (.t 7)), false, []⟩,
 ⟨4, mv 70 3, false, []⟩,
 ⟨5, mv 71 10, false, []⟩,
 ⟨6, rr 72 (.arith .add (.t 70) (.t 71)), false, []⟩,
 ⟨7, mv 73 4, false, []⟩,
 ⟨8, mv 74 10, false, []⟩,
 ⟨9, mv 75 0, false, []⟩,
 ⟨10, mv 76 1, false, []⟩,
 ⟨11, rr 77 (.nilchk (.t 75)), false, []⟩,
 ⟨12, rr 78 (.fld 4 (.t 77)), false, []⟩,
 ⟨13, rr 79 (.idxA 4 1 (.t 78) (.t 76)), false, []⟩,
 ⟨14, rr 80 (.load1 (.t 79)), false, []⟩,
 ⟨15, rr 81 (.arith .mul (.t 74) (.t 80)), false, []⟩,
 ⟨16, rr 82 (.arith .sub (.t 73) (.t 81)), false, []⟩,
 ⟨17, cl 83 207 [.t 66, .t 68, .t 69, .t 72, .t 82], true, [16, 15, 14, 13, 12, 11, 10, 9, 8, 7, 6, 5, 4, 3, 2, 1, 0]⟩])))
 (.reg [mv 61 10,
 rr 62 (.arith .add (.t 61) (ci 1)),
 mv 10 62]))))))))⟩
/-- slices.DeleteFunc[[]guichet/api.Txn,guichet/api.Txn] -/
def b209 : AFunc := ⟨42, [.tmp 4],
 .seq (.reg [rr 4 (.mov (.c (.slice none (.n 0) (.exact 0))))])
 (.seq (.reg [mv 8 0,
 mv 9 1,
 cl 10 260 [.t 8, .t 9],
 mv 5 10])
 (.seq (.seq (.reg [mv 11 5,
 rr 12 (.cmp .eql (.t 11) (ci (-1)))])
 (.cond (.t 12) (.seq (.reg [mv 13 0,
 mv 4 13])
 (.ret))
 (.skip)))
 (.seq (.seq (.reg [mv 14 5,
 rr 15 (.arith .add (.t 14) (ci 1)),
 mv 6 15])
 (.block 0 (.loop [] (.seq (.seq (.reg [mv 16 6,
 mv 17 0,
 rr 18 (.len 1 (.t 17)),
 rr 19 (.cmp .lss (.t 16) (.t 18))])
 (.cond (.t 19) (.skip)
 (.exit 0)))
 (.seq (.block 1 (.seq (.reg [mv 22 0,
 mv 23 6,
 rr 24 (.idxS 11 (.t 22) (.t 23)),
 rr 25 (.loadN 11 (.t 24)),
 nn 7 (.zbox [(.int .u16 0), (.int .u32 0), (.str []), (.int .i64 0), (.int .i64 0), (.int .i64 0), (.int .i64 0), (.int .i64 0), (.int .i64 0), (.int .i64 0), (.int .i64 0)]),
 ff (.storeN 11 (.t 7) (.t 25))])
 (.seq (.reg [mv 26 1,
 rr 27 (.loadN 11 (.t 7)),
 ee 28 (.call (.t 26) [.t 27]),
 rr 29 (.not (.t 28))])
 (.cond (.t 29) (.seq (.reg [mv 30 0,
 mv 31 5,
 rr 32 (.loadN 11 (.t 7)),
 rr 33 (.idxS 11 (.t 30) (.t 31)),
 ff (.storeN 11 (.t 33) (.t 32))])
 (.reg [mv 34 5,
 rr 35 (.arith .add (.t 34) (ci 1)),
 mv 5 35]))
 (.skip)))))
 (.reg [mv 20 6,
 rr 21 (.arith .add (.t 20) (ci 1)),
 mv 6 21]))))))
 (.seq (.reg [mv 36 0,
 mv 37 5,
 rr 38 (.slcS 11 (.t 36) (some (.t 37)) none none),
 ff (.clr (some .txn) (.t 38))])
 (.seq (.reg [mv 39 0,
 mv 40 5,
 rr 41 (.slcS 11 (.t 39) none (some (.t 40)) none),
 mv 4 41])
 (.ret))))))⟩
/-- guichet/ndc.Put -/
def b214 : AFunc := ⟨94, [.tmp 2, .tmp 3],
 .seq (.reg [nn 1 (.box (.t 0)),
 rr 2 (.mov (.c (.slice none (.n 0) (.exact 0)))),
 rr 3 (.mov (ci 0))])
 (.seq (.seq (.reg [rr 8 (.loadN 26 (.t 1)),
 cl 9 90 [.t 8],
 rr 10 (.not (.t 9))])
 (.cond (.t 10) (.seq (.reg [rr 2 (.mov (.c (.slice none (.n 0) (.exact 0)))),
 rr 3 (.mov (ci 27))])
 (.ret))
 (.skip)))
 (.seq (.dreg [⟨0, rr 11 (.fld 0 (.t 1)), false, []⟩,
 ⟨1, rr 12 (.load1 (.t 11)), false, []⟩,
 ⟨3, rr 14 (.fld 1 (.t 1)), false, []⟩,
 ⟨4, rr 15 (.load1 (.t 14)), false, []⟩,
 ⟨5, rr 16 (.toInt .i64 (.t 15)), false, []⟩,
 ⟨2, cl 13 88 [.t 12], true, [1, 0]⟩,
 ⟨6, cl 17 150 [.t 16], true, [5, 4, 3, 2, 1, 0]⟩,
 ⟨7, nn 18 (.bslice (some .str) 1 2 [.t 13, .t 17]), false, []⟩,
 ⟨8, mv 4 18, false, []⟩])
 (.seq (.seq (.reg [rr 19 (.fld 0 (.t 1)),
 rr 20 (.load1 (.t 19)),
 rr 21 (.cmp .neq (.t 20) (ci 3))])
 (.cond (.t 21) (.reg [mv 22 4,
 rr 23 (.fld 2 (.t 1)),
 rr 24 (.load1 (.t 23)),
 rr 25 (.toInt .u64 (.t 24)),
 cl 26 264 [.t 25, (ci 10)],
 nn 27 (.bslice (some .str) 1 1 [.t 26]),
 ee 28 (.append .str (.t 22) (.t 27)),
 mv 4 28])
 (.skip)))
 (.seq (.reg [rr 29 (.fld 4 (.t 1)),
 rr 30 (.load1 (.t 29)),
 cl 31 265 [.t 30, (ci 10)],
 mv 5 31])
 (.seq (.seq (.reg [rr 32 (.fld 0 (.t 1)),
 rr 33 (.load1 (.t 32))])
 (.block 0 (.seq (.reg [rr 35 (.cmp .eql (.t 33) (ci 1)),
 mv 34 35])
 (.cond (.t 34) (.reg [mv 36 4,
 rr 37 (.fld 3 (.t 1)),
 rr 38 (.load1 (.t 37)),
 mv 39 5,
 nn 40 (.bslice (some .str) 1 2 [.t 38, .t 39]),
 ee 41 (.append .str (.t 36) (.t 40)),
 mv 4 41])
 (.seq (.reg [rr 43 (.cmp .eql (.t 33) (ci 2)),
 mv 42 43])
 (.cond (.t 42) (.reg [mv 44 4,
 rr 45 (.fld 5 (.t 1)),
 rr 46 (.loadN 4 (.t 45)),
 rr 47 (.fld 9 (.t 1)),
 rr 48 (.loadN 4 (.t 47)),
 nn 49 (.bslice (some .notes) 4 2 [.t 46, .t 48]),
 cl 50 266 [.t 49],
 ee 51 (.append .str (.t 44) (.t 50)),
 mv 4 51])
 (.seq (.reg [rr 53 (.cmp .eql (.t 33) (ci 4)),
 mv 52 53])
 (.cond (.t 52) (.seq (.reg [mv 54 4,
 rr 55 (.fld 5 (.t 1)),
 rr 56 (.loadN 4 (.t 55)),
 rr 57 (.fld 9 (.t 1)),
 rr 58 (.loadN 4 (.t 57)),
 rr 59 (.fld 13 (.t 1)),
 rr 60 (.loadN 4 (.t 59)),
 rr 61 (.fld 17 (.t 1)),
 rr 62 (.loadN 4 (.t 61)),
 nn 63 (.bslice (some .notes) 4 4 [.t 56, .t 58, .t 60, .t 62]),
 cl 64 266 [.t 63],
 ee 65 (.append .str (.t 54) (.t 64)),
 mv 4 65])
 (.dreg [⟨0, mv 66 4, false, []⟩,
 ⟨1, rr 67 (.fld 21 (.t 1)), false, []⟩,
 ⟨2, rr 68 (.load1 (.t 67)), false, []⟩,
 ⟨6, rr 72 (.fld 22 (.t 1)), false, []⟩,
 ⟨7, rr 73 (.loadN 4 (.t 72)), false, []⟩,
 ⟨8, nn 74 (.bslice (some .notes) 4 1 [.t 73]), false, []⟩,
 ⟨3, cl 69 150 [.t 68], true, [2, 1]⟩,
 ⟨4, nn 70 (.bslice (some .str) 1 1 [.t 69]), false, []⟩,
 ⟨5, ee 71 (.append .str (.t 66) (.t 70)), true, [4, 3, 2, 1, 0]⟩,
 ⟨9, cl 75 266 [.t 74], true, [8, 7, 6, 5, 4, 3, 2, 1, 0]⟩,
 ⟨10, ee 76 (.append .str (.t 71) (.t 75)), true, [9, 8, 7, 6, 5, 4, 3, 2, 1, 0]⟩,
 ⟨11, mv 4 76, false, []⟩]))
 (.seq (.reg [rr 78 (.cmp .eql (.t 33) (ci 5)),
 mv 77 78])
 (.cond (.t 77) (.dreg [⟨0, mv 79 4, false, []⟩,
 ⟨1, mv 80 5, false, []⟩,
 ⟨2, nn 81 (.bslice (some .str) 1 1 [.t 80]), false, []⟩,
 ⟨4, rr 83 (.fld 5 (.t 1)), false, []⟩,
 ⟨5, rr 84 (.loadN 4 (.t 83)), false, []⟩,
 ⟨6, nn 85 (.bslice (some .notes) 4 1 [.t 84]), false, []⟩,
 ⟨3, ee 82 (.append .str (.t 79) (.t 81)), true, [2, 1, 0]⟩,
 ⟨7, cl 86 266 [.t 85], true, [6, 5, 4, 3, 2, 1, 0]⟩,
 ⟨8, ee 87 (.append .str (.t 82) (.t 86)), true, [7, 6, 5, 4, 3, 2, 1, 0]⟩,
 ⟨9, mv 4 87, false, []⟩])
 (.skip)))))))))))
 (.seq (.reg [mv 89 4,
 cl 90 267 [.t 89],
 mv 88 90,
 rr 91 (.ext (.t 88) 0),
 rr 92 (.ext (.t 88) 1),
 mv 6 91,
 mv 7 92])
 (.seq (.reg [mv 93 6,
 mv 2 93,
 rr 3 (.mov (ci 0))])
 (.ret))))))))⟩
/-- guichet/iso.Put -/
def b215 : AFunc := ⟨64, [.tmp 2, .tmp 3],
 .seq (.reg [nn 1 (.box (.t 0)),
 rr 2 (.mov (.c (.slice none (.n 0) (.exact 0)))),
 rr 3 (.mov (ci 0))])
 (.seq (.seq (.reg [rr 16 (.loadN 2 (.t 1)),
 cl 17 268 [.t 16],
 rr 18 (.not (.t 17))])
 (.cond (.t 18) (.seq (.reg [rr 2 (.mov (.c (.slice none (.n 0) (.exact 0)))),
 rr 3 (.mov (ci 27))])
 (.ret))
 (.skip)))
 (.seq (.reg [rr 20 (.fld 0 (.t 1)),
 rr 21 (.load1 (.t 20)),
 cl 22 217 [.t 21, (ci 4)],
 mv 19 22,
 rr 23 (.ext (.t 19) 0),
 rr 24 (.ext (.t 19) 1),
 mv 4 23,
 mv 5 24])
 (.seq (.reg [mv 26 4,
 cl 27 269 [.t 26],
 mv 25 27,
 rr 28 (.ext (.t 25) 0),
 rr 29 (.ext (.t 25) 1),
 mv 6 28,
 mv 7 29])
 (.seq (.reg [rr 8 (.mov (.c (.slice none (.n 0) (.exact 0))))])
 (.seq (.reg [rr 9 (.mov (.c (.slice none (.n 0) (.exact 0))))])
 (.seq (.seq (.reg [rr 30 (.fld 1 (.t 1)),
 rr 31 (.load1 (.t 30)),
 rr 32 (.len 1 (.t 31)),
 rr 33 (.mov (ci 0))])
 (.block 0 (.loop [] (.seq (.reg [rr 34 (.cmp .lss (.t 33) (.t 32))])
 (.seq (.cond (.t 34) (.skip)
 (.exit 0))
 (.seq (.block 1 (.seq (.reg [rr 35 (.idxS 2 (.t 31) (.t 33)),
 rr 36 (.loadN 2 (.t 35)),
 nn 11 (.zbox [(.int .i64 0), (.str [])]),
 ff (.storeN 2 (.t 11) (.t 36))])
 (.seq (.reg [rr 38 (.fld 0 (.t 11)),
 rr 39 (.load1 (.t 38)),
 rr 40 (.fld 1 (.t 11)),
 rr 41 (.load1 (.t 40)),
 cl 42 270 [.t 39, .t 41],
 mv 37 42,
 rr 43 (.ext (.t 37) 0),
 rr 44 (.ext (.t 37) 1),
 mv 12 43,
 mv 13 44])
 (.reg [mv 45 8,
 rr 46 (.fld 0 (.t 11)),
 rr 47 (.load1 (.t 46)),
 nn 48 (.bslice (some (.int .i64)) 1 1 [.t 47]),
 ee 49 (.append (.int .i64) (.t 45) (.t 48)),
 mv 50 9,
 mv 51 12,
 ee 52 (.append (.int .u8) (.t 50) (.t 51)),
 mv 8 49,
 mv 9 52]))))
 (.reg [rr 53 (.arith .add (.t 33) (ci 1)),
 mv 33 53])))))))
 (.seq (.reg [mv 55 8,
 cl 56 271 [.t 55],
 mv 54 56,
 rr 57 (.ext (.t 54) 0),
 rr 58 (.ext (.t 54) 1),
 mv 14 57,
 mv 15 58])
 (.seq (.reg [mv 59 6,
 mv 60 14,
 mv 61 9,
 nn 62 (.bslice none 1 3 [.t 59, .t 60, .t 61]),
 cl 63 272 [.t 62],
 mv 2 63,
 rr 3 (.mov (ci 0))])
 (.ret)))))))))⟩
/-- guichet/host.term -/
def b216 : AFunc := ⟨8, [.tmp 2],
 .seq (.reg [nn 1 (.box (.t 0)),
 rr 2 (.mov (.c (.str [])))])
 (.seq (.reg [rr 3 (.fld 0 (.t 1)),
 rr 4 (.load1 (.t 3)),
 rr 5 (.toInt .i64 (.t 4)),
 cl 6 166 [.t 5, (ci 7)],
 rr 7 (.arith .add (.c (.str [84])) (.t 6)),
 mv 2 7])
 (.ret))⟩
/-- guichet/bcd.Digits -/
def b217 : AFunc := ⟨32, [.tmp 4, .tmp 5],
 .seq (.reg [rr 4 (.mov (.c (.str []))),
 rr 5 (.mov (.c (.bool false)))])
 (.seq (.reg [mv 7 0,
 cl 8 265 [.t 7, (ci 10)],
 mv 6 8])
 (.seq (.seq (.reg [mv 9 0,
 rr 10 (.cmp .lss (.t 9) (ci 0)),
 mv 11 10,
 gr 12 (.mov (.t 1)) 11 false,
 gr 13 (.cmp .lss (.t 12) (ci 1)) 11 false,
 rr 14 (.pick (.t 11) (.c (.bool true)) (.t 13)),
 mv 15 14,
 gr 16 (.mov (.t 1)) 15 false,
 gr 17 (.cmp .gtr (.t 16) (ci 18)) 15 false,
 rr 18 (.pick (.t 15) (.c (.bool true)) (.t 17)),
 mv 19 18,
 gr 20 (.mov (.t 6)) 19 false,
 gr 21 (.len 0 (.t 20)) 19 false,
 gr 22 (.mov (.t 1)) 19 false,
 gr 23 (.cmp .gtr (.t 21) (.t 22)) 19 false,
 rr 24 (.pick (.t 19) (.c (.bool true)) (.t 23))])
 (.cond (.t 24) (.seq (.reg [rr 4 (.mov (.c (.str []))),
 rr 5 (.mov (.c (.bool false)))])
 (.ret))
 (.skip)))
 (.seq (.reg [mv 25 1,
 mv 26 6,
 rr 27 (.len 0 (.t 26)),
 rr 28 (.arith .sub (.t 25) (.t 27)),
 cl 29 273 [(.c (.str [48])), .t 28],
 mv 30 6,
 rr 31 (.arith .add (.t 29) (.t 30)),
 mv 4 31,
 rr 5 (.mov (.c (.bool true)))])
 (.ret))))⟩
/-- guichet/bcd.Unpack -/
def b218 : AFunc := ⟨57, [.tmp 4, .tmp 5],
 .seq (.reg [rr 4 (.mov (.c (.str []))),
 rr 5 (.mov (.c (.bool false)))])
 (.seq (.seq (.reg [mv 10 1,
 rr 11 (.cmp .lss (.t 10) (ci 0)),
 mv 12 11,
 gr 13 (.mov (.t 0)) 12 false,
 gr 14 (.len 1 (.t 13)) 12 false,
 gr 15 (.mov (.t 1)) 12 false,
 gr 16 (.arith .quo (.t 15) (ci 2)) 12 false,
 gr 17 (.mov (.t 1)) 12 false,
 gr 18 (.arith .rem (.t 17) (ci 2)) 12 false,
 gr 19 (.arith .add (.t 16) (.t 18)) 12 false,
 gr 20 (.cmp .neq (.t 14) (.t 19)) 12 false,
 rr 21 (.pick (.t 12) (.c (.bool true)) (.t 20))])
 (.cond (.t 21) (.seq (.reg [rr 4 (.mov (.c (.str []))),
 rr 5 (.mov (.c (.bool false)))])
 (.ret))
 (.skip)))
 (.seq (.reg [rr 6 (.mov (.c (.slice none (.n 0) (.exact 0))))])
 (.seq (.seq (.reg [mv 22 0,
 rr 23 (.len 1 (.t 22)),
 rr 24 (.mov (ci 0))])
 (.block 0 (.loop [] (.seq (.reg [rr 25 (.cmp .lss (.t 24) (.t 23))])
 (.seq (.cond (.t 25) (.skip)
 (.exit 0))
 (.seq (.block 1 (.seq (.reg [rr 26 (.idxS 1 (.t 22) (.t 24)),
 rr 27 (.load1 (.t 26)),
 mv 8 27])
 (.reg [mv 28 6,
 mv 29 8,
 rr 30 (.arith .shr (.t 29) (.c (.int .u64 4))),
 rr 31 (.arith .add (.c (.int .u8 48)) (.t 30)),
 mv 32 8,
 rr 33 (.arith .and (.t 32) (.c (.int .u8 15))),
 rr 34 (.arith .add (.c (.int .u8 48)) (.t 33)),
 nn 35 (.bslice (some (.int .u8)) 1 2 [.t 31, .t 34]),
 ee 36 (.append (.int .u8) (.t 28) (.t 35)),
 mv 6 36])))
 (.reg [rr 37 (.arith .add (.t 24) (ci 1)),
 mv 24 37])))))))
 (.seq (.reg [mv 38 6,
 rr 39 (.toStr (.t 38)),
 mv 9 39])
 (.seq (.seq (.reg [mv 40 9,
 cl 41 274 [.t 40],
 rr 42 (.not (.t 41)),
 mv 43 42,
 gr 44 (.mov (.t 1)) 43 false,
 gr 45 (.arith .rem (.t 44) (ci 2)) 43 false,
 gr 46 (.cmp .eql (.t 45) (ci 1)) 43 false,
 gr 47 (.mov (.t 46)) 43 false,
 gr 48 (.mov (.t 9)) 47 true,
 gr 49 (.strAt (.t 48) (ci 0)) 47 true,
 gr 50 (.cmp .neq (.t 49) (.c (.int .u8 48))) 47 true,
 gr 51 (.pick (.t 47) (.t 50) (.c (.bool false))) 43 false,
 rr 52 (.pick (.t 43) (.c (.bool true)) (.t 51))])
 (.cond (.t 52) (.seq (.reg [rr 4 (.mov (.c (.str []))),
 rr 5 (.mov (.c (.bool false)))])
 (.ret))
 (.skip)))
 (.seq (.reg [mv 53 9,
 mv 54 1,
 rr 55 (.arith .rem (.t 54) (ci 2)),
 rr 56 (.slcStr (.t 53) (some (.t 55)) none),
 mv 4 56,
 rr 5 (.mov (.c (.bool true)))])
 (.ret)))))))⟩
/-- guichet/bcd.Number -/
def b219 : AFunc := ⟨25, [.tmp 2, .tmp 3],
 .seq (.reg [rr 2 (.mov (ci 0)),
 rr 3 (.mov (.c (.bool false)))])
 (.seq (.seq (.reg [mv 6 0,
 rr 7 (.len 0 (.t 6)),
 rr 8 (.cmp .lss (.t 7) (ci 1)),
 mv 9 8,
 gr 10 (.mov (.t 0)) 9 false,
 gr 11 (.len 0 (.t 10)) 9 false,
 gr 12 (.cmp .gtr (.t 11) (ci 18)) 9 false,
 rr 13 (.pick (.t 9) (.c (.bool true)) (.t 12)),
 mv 14 13,
 gr 15 (.mov (.t 0)) 14 false,
 ⟨(some 16), .e (.call (.c (.fn (.func 274) [] [])) [.t 15]), (some (14, false))⟩,
 gr 17 (.not (.t 16)) 14 false,
 rr 18 (.pick (.t 14) (.c (.bool true)) (.t 17))])
 (.cond (.t 18) (.seq (.reg [rr 2 (.mov (ci 0)),
 rr 3 (.mov (.c (.bool false)))])
 (.ret))
 (.skip)))
 (.seq (.reg [mv 20 0,
 cl 21 275 [.t 20, (ci 10), (ci 64)],
 mv 19 21,
 rr 22 (.ext (.t 19) 0),
 rr 23 (.ext (.t 19) 1),
 mv 4 22,
 mv 5 23])
 (.seq (.reg [mv 24 4,
 mv 2 24,
 rr 3 (.mov (.c (.bool true)))])
 (.ret))))⟩
/-- guichet/bitmap.Read -/
def b220 : AFunc := ⟨47, [.tmp 2, .tmp 3, .tmp 4],
 .seq (.reg [rr 2 (.mov (.c (.slice none (.n 0) (.exact 0)))),
 rr 3 (.mov (ci 0)),
 rr 4 (.mov (.c (.bool false)))])
 (.seq (.reg [rr 5 (.mov (ci 8))])
 (.seq (.seq (.reg [mv 8 0,
 cl 9 276 [.t 8, (ci 1)]])
 (.cond (.t 9) (.reg [rr 5 (.mov (ci 16))])
 (.skip)))
 (.seq (.seq (.reg [mv 10 0,
 rr 11 (.len 1 (.t 10)),
 mv 12 5,
 rr 13 (.cmp .lss (.t 11) (.t 12))])
 (.cond (.t 13) (.seq (.reg [rr 2 (.mov (.c (.slice none (.n 0) (.exact 0)))),
 rr 3 (.mov (ci 0)),
 rr 4 (.mov (.c (.bool false)))])
 (.ret))
 (.skip)))
 (.seq (.reg [rr 6 (.mov (.c (.slice none (.n 0) (.exact 0))))])
 (.seq (.seq (.reg [rr 7 (.mov (ci 2))])
 (.block 0 (.loop [] (.seq (.seq (.reg [mv 14 7,
 mv 15 5,
 rr 16 (.arith .mul (ci 8) (.t 15)),
 rr 17 (.cmp .leq (.t 14) (.t 16))])
 (.cond (.t 17) (.skip)
 (.exit 0)))
 (.seq (.block 1 (.seq (.reg [mv 20 0,
 mv 21 5,
 rr 22 (.slcS 1 (.t 20) none (some (.t 21)) none),
 mv 23 7,
 cl 24 276 [.t 22, .t 23]])
 (.cond (.t 24) (.reg [mv 25 6,
 mv 26 7,
 nn 27 (.bslice (some (.int .i64)) 1 1 [.t 26]),
 ee 28 (.append (.int .i64) (.t 25) (.t 27)),
 mv 6 28])
 (.skip))))
 (.reg [mv 18 7,
 rr 19 (.arith .add (.t 18) (ci 1)),
 mv 7 19]))))))
 (.seq (.seq (.reg [mv 29 5,
 rr 30 (.cmp .gtr (.t 29) (ci 8)),
 mv 31 30,
 gr 32 (.mov (.t 6)) 31 true,
 gr 33 (.len 1 (.t 32)) 31 true,
 gr 34 (.cmp .eql (.t 33) (ci 0)) 31 true,
 gr 35 (.mov (.t 34)) 31 true,
 gr 36 (.mov (.t 6)) 35 false,
 gr 37 (.mov (.t 6)) 35 false,
 gr 38 (.len 1 (.t 37)) 35 false,
 gr 39 (.arith .sub (.t 38) (ci 1)) 35 false,
 gr 40 (.idxS 1 (.t 36) (.t 39)) 35 false,
 gr 41 (.load1 (.t 40)) 35 false,
 gr 42 (.cmp .leq (.t 41) (ci 64)) 35 false,
 gr 43 (.pick (.t 35) (.c (.bool true)) (.t 42)) 31 true,
 rr 44 (.pick (.t 31) (.t 43) (.c (.bool false)))])
 (.cond (.t 44) (.seq (.reg [rr 2 (.mov (.c (.slice none (.n 0) (.exact 0)))),
 rr 3 (.mov (ci 0)),
 rr 4 (.mov (.c (.bool false)))])
 (.ret))
 (.skip)))
 (.seq (.reg [mv 45 6,
 mv 46 5,
 mv 2 45,
 mv 3 46,
 rr 4 (.mov (.c (.bool true)))])
 (.ret))))))))⟩
/-- guichet/iso.kinds -/
def b221 : AFunc := ⟨6, [.tmp 2],
 .seq (.reg [rr 2 (.mov (.c (.bool false)))])
 (.seq (.reg [nn 3 (.bslice (some (.int .i64)) 1 8 [(ci 100), (ci 110), (ci 200), (ci 210), (ci 420), (ci 430), (ci 800), (ci 810)]),
 mv 4 0,
 cl 5 277 [.t 3, .t 4],
 mv 2 5])
 (.ret))⟩
/-- guichet/field.Read -/
def b222 : AFunc := ⟨73, [.tmp 4, .tmp 5, .tmp 6],
 .seq (.reg [rr 4 (.mov (.c (.str []))),
 rr 5 (.mov (ci 0)),
 rr 6 (.mov (ci 0))])
 (.seq (.reg [mv 14 0,
 cl 15 278 [.t 14],
 mv 13 15,
 rr 16 (.ext (.t 13) 0),
 rr 17 (.ext (.t 13) 1),
 nn 7 (.zbox [(.bool false), (.int .i64 0), (.int .i64 0)]),
 ff (.storeN 3 (.t 7) (.t 16)),
 mv 8 17])
 (.seq (.seq (.reg [mv 18 8,
 rr 19 (.not (.t 18))])
 (.cond (.t 19) (.seq (.reg [rr 4 (.mov (.c (.str []))),
 rr 5 (.mov (ci 0)),
 rr 6 (.mov (ci 27))])
 (.ret))
 (.skip)))
 (.seq (.reg [rr 20 (.fld 1 (.t 7)),
 rr 21 (.load1 (.t 20)),
 mv 9 21,
 rr 10 (.mov (ci 0))])
 (.seq (.seq (.reg [rr 22 (.fld 2 (.t 7)),
 rr 23 (.load1 (.t 22)),
 rr 24 (.cmp .gtr (.t 23) (ci 0))])
 (.cond (.t 24) (.seq (.reg [mv 26 1,
 rr 27 (.fld 2 (.t 7)),
 rr 28 (.load1 (.t 27)),
 cl 29 279 [.t 26, .t 28],
 mv 25 29,
 rr 30 (.ext (.t 25) 0),
 rr 31 (.ext (.t 25) 1),
 rr 32 (.ext (.t 25) 2),
 mv 9 30,
 mv 10 31,
 mv 8 32])
 (.seq (.reg [mv 33 8,
 rr 34 (.not (.t 33))])
 (.cond (.t 34) (.seq (.reg [rr 4 (.mov (.c (.str []))),
 rr 5 (.mov (ci 0)),
 rr 6 (.mov (ci 23))])
 (.ret))
 (.skip))))
 (.skip)))
 (.seq (.reg [mv 35 10,
 mv 36 9,
 rr 37 (.arith .add (.t 35) (.t 36)),
 mv 11 37])
 (.seq (.seq (.reg [rr 38 (.fld 0 (.t 7)),
 rr 39 (.load1 (.t 38))])
 (.cond (.t 39) (.reg [mv 40 10,
 mv 41 9,
 rr 42 (.arith .add (.t 41) (ci 1)),
 rr 43 (.arith .quo (.t 42) (ci 2)),
 rr 44 (.arith .add (.t 40) (.t 43)),
 mv 11 44])
 (.skip)))
 (.seq (.seq (.reg [mv 45 1,
 rr 46 (.len 1 (.t 45)),
 mv 47 11,
 rr 48 (.cmp .lss (.t 46) (.t 47))])
 (.cond (.t 48) (.seq (.reg [rr 4 (.mov (.c (.str []))),
 rr 5 (.mov (ci 0)),
 rr 6 (.mov (ci 23))])
 (.ret))
 (.skip)))
 (.seq (.reg [mv 49 1,
 mv 50 10,
 mv 51 11,
 rr 52 (.slcS 1 (.t 49) (some (.t 50)) (some (.t 51)) none),
 rr 53 (.toStr (.t 52)),
 mv 12 53])
 (.seq (.seq (.reg [rr 54 (.fld 0 (.t 7)),
 rr 55 (.load1 (.t 54))])
 (.cond (.t 55) (.seq (.reg [mv 57 1,
 mv 58 10,
 mv 59 11,
 rr 60 (.slcS 1 (.t 57) (some (.t 58)) (some (.t 59)) none),
 mv 61 9,
 cl 62 218 [.t 60, .t 61],
 mv 56 62,
 rr 63 (.ext (.t 56) 0),
 rr 64 (.ext (.t 56) 1),
 mv 12 63,
 mv 8 64])
 (.seq (.reg [mv 65 8,
 rr 66 (.not (.t 65))])
 (.cond (.t 66) (.seq (.reg [rr 4 (.mov (.c (.str []))),
 rr 5 (.mov (ci 0)),
 rr 6 (.mov (ci 23))])
 (.ret))
 (.skip))))
 (.skip)))
 (.seq (.seq (.reg [mv 67 0,
 mv 68 12,
 cl 69 280 [.t 67, .t 68],
 rr 70 (.not (.t 69))])
 (.cond (.t 70) (.seq (.reg [rr 4 (.mov (.c (.str []))),
 rr 5 (.mov (ci 0)),
 rr 6 (.mov (ci 23))])
 (.ret))
 (.skip)))
 (.seq (.reg [mv 71 12,
 mv 72 11,
 mv 4 71,
 mv 5 72,
 rr 6 (.mov (ci 0))])
 (.ret))))))))))))⟩
end Go.Sx
