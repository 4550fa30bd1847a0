/- CoreQueries: each terminal is asked what it counts when the switch begins, when its power is back, and at each so-manieth tick; true for every k and ticks. Part Ca of the proof. Condition: the listed package variables hold what the program's text lays. -/
import Derived.Test.YtncpkgjihijjhaaGreatDoorSc
import Derived.Test.YtncpkgjihijjhaaGreatDoorSp
set_option linter.unusedVariables false
set_option linter.unusedSimpArgs false
noncomputable section
/- The program's functions, as the evaluator runs them: part 0. -/
set_option maxRecDepth 100000
namespace Go.Sx
/-- slices.Clone[[]guichet/api.Rec,guichet/api.Rec] -/
def a59 : AFunc := ⟨8, [.tmp 2],
 .seq (.reg [rr 2 (.mov (.c (.slice none (.n 0) (.exact 0))))])
 (.seq (.seq (.reg [mv 3 0,
 rr 4 (.eqN false (.t 3))])
 (.cond (.t 4) (.seq (.reg [rr 2 (.mov (.c (.slice none (.n 0) (.exact 0))))])
 (.ret))
 (.skip)))
 (.seq (.reg [nn 5 (.bslice (some .rcd) 17 0 []),
 mv 6 0,
 ee 7 (.append .rcd (.t 5) (.t 6)),
 mv 2 7])
 (.ret)))⟩
/-- guichet/journal.Open -/
def a70 : AFunc := ⟨92, [.tmp 2, .tmp 3, .tmp 4],
 .seq (.reg [rr 2 (.mov (.c (.ptr none))),
 rr 3 (.mov (.c (.slice none (.n 0) (.exact 0)))),
 rr 4 (.mov (ci 0))])
 (.seq (.seq (.reg [mv 13 0,
 cl 14 133 [.t 13],
 rr 15 (.cmp .lss (.t 14) (ci 8))])
 (.cond (.t 15) (.seq (.reg [rr 2 (.mov (.c (.ptr none))),
 rr 3 (.mov (.c (.slice none (.n 0) (.exact 0)))),
 rr 4 (.mov (ci 21))])
 (.ret))
 (.skip)))
 (.seq (.reg [mv 16 0,
 mv 17 0,
 cl 18 133 [.t 17],
 rr 19 (.arith .quo (.t 18) (ci 2)),
 rr 20 (.build [(.ptr none), (.int .i64 0), (.int .i64 0), (.int .i64 0), (.int .u32 0), (.slice none (.n 0) (.exact 0))] [(0, (1, (.t 16))), (1, (1, (.t 19)))]),
 nn 21 (.box (.t 20)),
 mv 5 21])
 (.seq (.reg [mv 23 5,
 cl 24 134 [.t 23, (ci 0)],
 mv 22 24,
 rr 25 (.ext (.t 22) 0),
 rr 26 (.ext (.t 22) 1),
 nn 6 (.zbox [(.int .u32 0), (.int .i64 0), (.slice none (.n 0) (.exact 0))]),
 ff (.storeN 3 (.t 6) (.t 25)),
 mv 7 26])
 (.seq (.seq (.reg [mv 27 7,
 rr 28 (.cmp .neq (.t 27) (ci 0))])
 (.cond (.t 28) (.seq (.reg [mv 29 7,
 rr 2 (.mov (.c (.ptr none))),
 rr 3 (.mov (.c (.slice none (.n 0) (.exact 0)))),
 mv 4 29])
 (.ret))
 (.skip)))
 (.seq (.reg [mv 31 5,
 mv 32 5,
 rr 33 (.nilchk (.t 32)),
 rr 34 (.fld 1 (.t 33)),
 rr 35 (.load1 (.t 34)),
 cl 36 134 [.t 31, .t 35],
 mv 30 36,
 rr 37 (.ext (.t 30) 0),
 rr 38 (.ext (.t 30) 1),
 nn 8 (.zbox [(.int .u32 0), (.int .i64 0), (.slice none (.n 0) (.exact 0))]),
 ff (.storeN 3 (.t 8) (.t 37)),
 mv 7 38])
 (.seq (.seq (.reg [mv 39 7,
 rr 40 (.cmp .neq (.t 39) (ci 0))])
 (.cond (.t 40) (.seq (.reg [mv 41 7,
 rr 2 (.mov (.c (.ptr none))),
 rr 3 (.mov (.c (.slice none (.n 0) (.exact 0)))),
 mv 4 41])
 (.ret))
 (.skip)))
 (.seq (.seq (.reg [rr 42 (.fld 0 (.t 8)),
 rr 43 (.load1 (.t 42)),
 rr 44 (.fld 0 (.t 6)),
 rr 45 (.load1 (.t 44)),
 rr 46 (.cmp .gtr (.t 43) (.t 45))])
 (.cond (.t 46) (.dreg [⟨0, mv 47 5, false, []⟩,
 ⟨1, rr 48 (.loadN 3 (.t 8)), false, []⟩,
 ⟨2, mv 49 5, false, []⟩,
 ⟨3, rr 50 (.nilchk (.t 49)), false, []⟩,
 ⟨4, rr 51 (.fld 1 (.t 50)), false, []⟩,
 ⟨5, rr 52 (.load1 (.t 51)), false, []⟩,
 ⟨6, ff (.storeN 3 (.t 6) (.t 48)), true, [1]⟩,
 ⟨7, rr 53 (.nilchk (.t 47)), false, []⟩,
 ⟨8, rr 54 (.fld 2 (.t 53)), false, []⟩,
 ⟨9, ff (.store1 (.t 54) (.t 52)), true, [8, 7, 6, 5, 4, 3, 2, 1, 0]⟩])
 (.skip)))
 (.seq (.reg [mv 55 5,
 rr 56 (.fld 1 (.t 6)),
 rr 57 (.load1 (.t 56)),
 rr 58 (.nilchk (.t 55)),
 rr 59 (.fld 3 (.t 58)),
 ff (.store1 (.t 59) (.t 57))])
 (.seq (.seq (.reg [rr 60 (.fld 2 (.t 6)),
 rr 61 (.load1 (.t 60)),
 mv 9 61])
 (.block 0 (.loop [] (.seq (.seq (.reg [mv 62 9,
 rr 63 (.len 1 (.t 62)),
 rr 64 (.cmp .gtr (.t 63) (ci 0))])
 (.cond (.t 64) (.skip)
 (.exit 0)))
 (.block 1 (.seq (.reg [mv 66 9,
 cl 67 135 [.t 66],
 mv 65 67,
 rr 68 (.ext (.t 65) 0),
 rr 69 (.ext (.t 65) 1),
 rr 70 (.ext (.t 65) 2),
 nn 10 (.zbox [(.int .i64 0), (.int .u16 0), (.int .u32 0), (.str []), (.int .i64 0), (.int .i64 0), (.int .i64 0), (.int .i64 0), (.int .i64 0), (.int .i64 0), (.int .i64 0), (.int .i64 0), (.int .i64 0), (.int .i64 0), (.int .i64 0), (.int .i64 0), (.int .i64 0)]),
 ff (.storeN 17 (.t 10) (.t 68)),
 mv 11 69,
 mv 12 70])
 (.seq (.seq (.reg [mv 71 12,
 rr 72 (.cmp .neq (.t 71) (ci 0))])
 (.cond (.t 72) (.exit 0)
 (.skip)))
 (.dreg [⟨0, mv 73 5, false, []⟩,
 ⟨1, mv 74 5, false, []⟩,
 ⟨2, rr 75 (.nilchk (.t 74)), false, []⟩,
 ⟨3, rr 76 (.fld 5 (.t 75)), false, []⟩,
 ⟨4, rr 77 (.load1 (.t 76)), false, []⟩,
 ⟨5, rr 78 (.loadN 17 (.t 10)), false, []⟩,
 ⟨6, nn 79 (.bslice (some .rcd) 17 1 [.t 78]), false, []⟩,
 ⟨8, mv 81 9, false, []⟩,
 ⟨9, mv 82 11, false, []⟩,
 ⟨10, rr 83 (.slcS 1 (.t 81) (some (.t 82)) none none), false, []⟩,
 ⟨7, ee 80 (.append .rcd (.t 77) (.t 79)), true, [6, 5, 4, 3, 2, 1]⟩,
 ⟨11, rr 84 (.nilchk (.t 73)), false, []⟩,
 ⟨12, rr 85 (.fld 5 (.t 84)), false, []⟩,
 ⟨13, ff (.store1 (.t 85) (.t 80)), true, [12, 11, 7, 6, 5, 4, 3, 2, 1, 0]⟩,
 ⟨14, mv 9 83, false, []⟩]))))))))
 (.seq (.reg [mv 86 5,
 mv 87 5,
 rr 88 (.nilchk (.t 87)),
 rr 89 (.fld 5 (.t 88)),
 rr 90 (.load1 (.t 89)),
 cl 91 59 [.t 90],
 mv 2 86,
 mv 3 91,
 rr 4 (.mov (ci 0))])
 (.ret)))))))))))⟩
/-- guichet/frame.Digits -/
def a132 : AFunc := ⟨20, [.tmp 2],
 .seq (.reg [rr 2 (.mov (.c (.bool false)))])
 (.seq (.seq (.reg [mv 4 0,
 rr 5 (.len 0 (.t 4)),
 rr 6 (.mov (ci 0))])
 (.block 0 (.loop [] (.seq (.reg [rr 7 (.cmp .lss (.t 6) (.t 5))])
 (.seq (.cond (.t 7) (.skip)
 (.exit 0))
 (.seq (.block 1 (.seq (.reg [mv 8 6,
 mv 3 8])
 (.seq (.reg [mv 9 0,
 mv 10 3,
 rr 11 (.strAt (.t 9) (.t 10)),
 rr 12 (.cmp .lss (.t 11) (.c (.int .u8 48))),
 mv 13 12,
 gr 14 (.mov (.t 0)) 13 false,
 gr 15 (.mov (.t 3)) 13 false,
 gr 16 (.strAt (.t 14) (.t 15)) 13 false,
 gr 17 (.cmp .gtr (.t 16) (.c (.int .u8 57))) 13 false,
 rr 18 (.pick (.t 13) (.c (.bool true)) (.t 17))])
 (.cond (.t 18) (.seq (.reg [rr 2 (.mov (.c (.bool false)))])
 (.ret))
 (.skip)))))
 (.reg [rr 19 (.arith .add (.t 6) (ci 1)),
 mv 6 19])))))))
 (.seq (.reg [rr 2 (.mov (.c (.bool true)))])
 (.ret)))⟩
/-- (*guichet/disk.Disk).Sectors -/
def a133 : AFunc := ⟨8, [.tmp 2],
 .seq (.reg [rr 2 (.mov (ci 0))])
 (.seq (.reg [mv 3 0,
 rr 4 (.nilchk (.t 3)),
 rr 5 (.fld 1 (.t 4)),
 rr 6 (.load1 (.t 5)),
 rr 7 (.len 1 (.t 6)),
 mv 2 7])
 (.ret))⟩
/-- (*guichet/journal.Log).scan -/
def a134 : AFunc := ⟨129, [.cellN 4 3, .tmp 5],
 .seq (.reg [nn 4 (.zbox [(.int .u32 0), (.int .i64 0), (.slice none (.n 0) (.exact 0))]),
 rr 5 (.mov (ci 0))])
 (.seq (.reg [nn 6 (.zbox [(.int .u32 0), (.int .i64 0), (.slice none (.n 0) (.exact 0))])])
 (.seq (.reg [rr 7 (.mov (.c (.slice none (.n 0) (.exact 0))))])
 (.seq (.reg [rr 16 (.build [(.int .u32 0), (.int .i64 0), (.int .i64 0), (.slice none (.n 0) (.exact 0))] []),
 nn 8 (.zbox [(.int .u32 0), (.int .i64 0), (.int .i64 0), (.slice none (.n 0) (.exact 0))]),
 ff (.storeN 4 (.t 8) (.t 16))])
 (.seq (.reg [rr 9 (.mov (.c (.bool false)))])
 (.seq (.seq (.reg [mv 17 0,
 rr 18 (.nilchk (.t 17)),
 rr 19 (.fld 1 (.t 18)),
 rr 20 (.load1 (.t 19)),
 rr 21 (.mov (ci 0))])
 (.block 0 (.loop [] (.seq (.reg [rr 22 (.cmp .lss (.t 21) (.t 20))])
 (.seq (.cond (.t 22) (.skip)
 (.exit 0))
 (.seq (.block 1 (.seq (.reg [mv 23 21,
 mv 10 23])
 (.seq (.reg [mv 25 0,
 mv 26 1,
 mv 27 10,
 rr 28 (.arith .add (.t 26) (.t 27)),
 cl 29 190 [.t 25, .t 28],
 mv 24 29,
 rr 30 (.ext (.t 24) 0),
 rr 31 (.ext (.t 24) 1),
 rr 32 (.ext (.t 24) 2),
 nn 11 (.zbox [(.int .u32 0), (.int .i64 0), (.int .i64 0), (.slice none (.n 0) (.exact 0))]),
 ff (.storeN 4 (.t 11) (.t 30)),
 mv 12 31,
 mv 13 32])
 (.seq (.seq (.reg [mv 33 13,
 rr 34 (.cmp .neq (.t 33) (ci 0))])
 (.cond (.t 34) (.seq (.reg [rr 35 (.build [(.int .u32 0), (.int .i64 0), (.slice none (.n 0) (.exact 0))] []),
 mv 36 13,
 ff (.storeN 3 (.t 4) (.t 35)),
 mv 5 36])
 (.ret))
 (.skip)))
 (.seq (.reg [rr 37 (.fld 1 (.t 11)),
 rr 38 (.load1 (.t 37)),
 rr 39 (.cmp .eql (.t 38) (ci 0)),
 mv 40 39,
 gr 41 (.fld 0 (.t 11)) 40 true,
 gr 42 (.load1 (.t 41)) 40 true,
 gr 43 (.fld 0 (.t 8)) 40 true,
 gr 44 (.load1 (.t 43)) 40 true,
 gr 45 (.cmp .gtr (.t 42) (.t 44)) 40 true,
 rr 46 (.pick (.t 40) (.t 45) (.c (.bool false))),
 mv 47 46,
 gr 48 (.fld 1 (.t 8)) 47 true,
 gr 49 (.load1 (.t 48)) 47 true,
 gr 50 (.fld 2 (.t 8)) 47 true,
 gr 51 (.load1 (.t 50)) 47 true,
 gr 52 (.arith .sub (.t 51) (ci 1)) 47 true,
 gr 53 (.cmp .eql (.t 49) (.t 52)) 47 true,
 rr 54 (.pick (.t 47) (.t 53) (.c (.bool false))),
 mv 14 54])
 (.seq (.seq (.reg [mv 55 10,
 rr 56 (.cmp .eql (.t 55) (ci 0))])
 (.cond (.t 56) (.reg [rr 57 (.fld 1 (.t 11)),
 rr 58 (.load1 (.t 57)),
 rr 59 (.cmp .eql (.t 58) (ci 0)),
 mv 14 59])
 (.skip)))
 (.seq (.reg [rr 60 (.fld 0 (.t 11)),
 rr 61 (.load1 (.t 60)),
 rr 62 (.fld 0 (.t 8)),
 rr 63 (.load1 (.t 62)),
 rr 64 (.cmp .eql (.t 61) (.t 63)),
 mv 65 64,
 gr 66 (.fld 1 (.t 11)) 65 true,
 gr 67 (.load1 (.t 66)) 65 true,
 gr 68 (.fld 1 (.t 8)) 65 true,
 gr 69 (.load1 (.t 68)) 65 true,
 gr 70 (.arith .add (.t 69) (ci 1)) 65 true,
 gr 71 (.cmp .eql (.t 67) (.t 70)) 65 true,
 rr 72 (.pick (.t 65) (.t 71) (.c (.bool false))),
 mv 73 72,
 gr 74 (.fld 2 (.t 11)) 73 true,
 gr 75 (.load1 (.t 74)) 73 true,
 gr 76 (.fld 2 (.t 8)) 73 true,
 gr 77 (.load1 (.t 76)) 73 true,
 gr 78 (.cmp .eql (.t 75) (.t 77)) 73 true,
 rr 79 (.pick (.t 73) (.t 78) (.c (.bool false))),
 mv 15 79])
 (.seq (.seq (.reg [mv 80 9,
 mv 81 80,
 gr 82 (.mov (.t 12)) 81 false,
 gr 83 (.not (.t 82)) 81 false,
 rr 84 (.pick (.t 81) (.c (.bool true)) (.t 83)),
 mv 85 84,
 gr 86 (.fld 1 (.t 11)) 85 false,
 gr 87 (.load1 (.t 86)) 85 false,
 gr 88 (.fld 2 (.t 11)) 85 false,
 gr 89 (.load1 (.t 88)) 85 false,
 gr 90 (.cmp .geq (.t 87) (.t 89)) 85 false,
 rr 91 (.pick (.t 85) (.c (.bool true)) (.t 90)),
 mv 92 91,
 gr 93 (.mov (.t 14)) 92 false,
 gr 94 (.not (.t 93)) 92 false,
 gr 95 (.mov (.t 94)) 92 false,
 gr 96 (.mov (.t 15)) 95 true,
 gr 97 (.not (.t 96)) 95 true,
 gr 98 (.pick (.t 95) (.t 97) (.c (.bool false))) 92 false,
 rr 99 (.pick (.t 92) (.c (.bool true)) (.t 98)),
 mv 9 99])
 (.seq (.reg [mv 100 9])
 (.cond (.t 100) (.exit 1)
 (.skip))))
 (.seq (.seq (.reg [mv 101 14])
 (.cond (.t 101) (.reg [rr 7 (.mov (.c (.slice none (.n 0) (.exact 0))))])
 (.skip)))
 (.seq (.dreg [⟨0, mv 102 7, false, []⟩,
 ⟨1, rr 103 (.fld 3 (.t 11)), false, []⟩,
 ⟨2, rr 104 (.load1 (.t 103)), false, []⟩,
 ⟨4, rr 106 (.loadN 4 (.t 11)), false, []⟩,
 ⟨3, ee 105 (.append (.int .u8) (.t 102) (.t 104)), true, [2, 1, 0]⟩,
 ⟨5, mv 7 105, false, []⟩,
 ⟨6, ff (.storeN 4 (.t 8) (.t 106)), true, [5, 4, 3, 2, 1, 0]⟩])
 (.seq (.reg [rr 107 (.fld 1 (.t 11)),
 rr 108 (.load1 (.t 107)),
 rr 109 (.fld 2 (.t 11)),
 rr 110 (.load1 (.t 109)),
 rr 111 (.arith .sub (.t 110) (ci 1)),
 rr 112 (.cmp .eql (.t 108) (.t 111))])
 (.cond (.t 112) (.seq (.reg [rr 113 (.fld 2 (.t 6)),
 rr 114 (.load1 (.t 113)),
 mv 115 7,
 ee 116 (.append (.int .u8) (.t 114) (.t 115)),
 mv 117 10,
 rr 118 (.arith .add (.t 117) (ci 1)),
 rr 119 (.fld 2 (.t 6)),
 ff (.store1 (.t 119) (.t 116)),
 rr 120 (.fld 1 (.t 6)),
 ff (.store1 (.t 120) (.t 118))])
 (.seq (.reg [rr 121 (.fld 0 (.t 6)),
 rr 122 (.load1 (.t 121)),
 rr 123 (.cmp .eql (.t 122) (.c (.int .u32 0)))])
 (.cond (.t 123) (.reg [rr 124 (.fld 0 (.t 11)),
 rr 125 (.load1 (.t 124)),
 rr 126 (.fld 0 (.t 6)),
 ff (.store1 (.t 126) (.t 125))])
 (.skip))))
 (.skip)))))))))))))
 (.reg [rr 127 (.arith .add (.t 21) (ci 1)),
 mv 21 127])))))))
 (.seq (.reg [rr 128 (.loadN 3 (.t 6)),
 ff (.storeN 3 (.t 4) (.t 128)),
 rr 5 (.mov (ci 0))])
 (.ret)))))))⟩
/-- guichet/frame.Read -/
def a135 : AFunc := ⟨66, [.cellN 2 17, .tmp 3, .tmp 4],
 .seq (.reg [nn 2 (.zbox [(.int .i64 0), (.int .u16 0), (.int .u32 0), (.str []), (.int .i64 0), (.int .i64 0), (.int .i64 0), (.int .i64 0), (.int .i64 0), (.int .i64 0), (.int .i64 0), (.int .i64 0), (.int .i64 0), (.int .i64 0), (.int .i64 0), (.int .i64 0), (.int .i64 0)]),
 rr 3 (.mov (ci 0)),
 rr 4 (.mov (ci 0))])
 (.seq (.seq (.reg [mv 10 0,
 rr 11 (.len 1 (.t 10)),
 rr 12 (.cmp .lss (.t 11) (ci 2)),
 mv 13 12,
 gr 14 (.mov (.t 0)) 13 false,
 gr 15 (.idxS 1 (.t 14) (ci 0)) 13 false,
 gr 16 (.load1 (.t 15)) 13 false,
 gr 17 (.cmp .neq (.t 16) (.c (.int .u8 165))) 13 false,
 rr 18 (.pick (.t 13) (.c (.bool true)) (.t 17)),
 mv 19 18,
 gr 20 (.mov (.t 0)) 19 false,
 gr 21 (.len 1 (.t 20)) 19 false,
 gr 22 (.mov (.t 0)) 19 false,
 gr 23 (.idxS 1 (.t 22) (ci 1)) 19 false,
 gr 24 (.load1 (.t 23)) 19 false,
 gr 25 (.toInt .i64 (.t 24)) 19 false,
 gr 26 (.arith .add (ci 2) (.t 25)) 19 false,
 gr 27 (.arith .add (.t 26) (ci 4)) 19 false,
 gr 28 (.cmp .lss (.t 21) (.t 27)) 19 false,
 rr 29 (.pick (.t 19) (.c (.bool true)) (.t 28))])
 (.cond (.t 29) (.seq (.reg [rr 30 (.build [(.int .i64 0), (.int .u16 0), (.int .u32 0), (.str []), (.int .i64 0), (.int .i64 0), (.int .i64 0), (.int .i64 0), (.int .i64 0), (.int .i64 0), (.int .i64 0), (.int .i64 0), (.int .i64 0), (.int .i64 0), (.int .i64 0), (.int .i64 0), (.int .i64 0)] []),
 ff (.storeN 17 (.t 2) (.t 30)),
 rr 3 (.mov (ci 0)),
 rr 4 (.mov (ci 23))])
 (.ret))
 (.skip)))
 (.seq (.reg [mv 31 0,
 rr 32 (.idxS 1 (.t 31) (ci 1)),
 rr 33 (.load1 (.t 32)),
 rr 34 (.toInt .i64 (.t 33)),
 rr 35 (.arith .add (ci 2) (.t 34)),
 mv 5 35])
 (.seq (.reg [mv 37 0,
 mv 38 5,
 rr 39 (.slcS 1 (.t 37) (some (ci 2)) (some (.t 38)) none),
 cl 40 191 [.t 39],
 mv 36 40,
 rr 41 (.ext (.t 36) 0),
 rr 42 (.ext (.t 36) 1),
 nn 6 (.zbox [(.int .i64 0), (.int .u16 0), (.int .u32 0), (.str []), (.int .i64 0), (.int .i64 0), (.int .i64 0), (.int .i64 0), (.int .i64 0), (.int .i64 0), (.int .i64 0), (.int .i64 0), (.int .i64 0), (.int .i64 0), (.int .i64 0), (.int .i64 0), (.int .i64 0)]),
 ff (.storeN 17 (.t 6) (.t 41)),
 mv 7 42])
 (.seq (.seq (.reg [mv 43 7,
 rr 44 (.not (.t 43))])
 (.cond (.t 44) (.seq (.reg [rr 45 (.build [(.int .i64 0), (.int .u16 0), (.int .u32 0), (.str []), (.int .i64 0), (.int .i64 0), (.int .i64 0), (.int .i64 0), (.int .i64 0), (.int .i64 0), (.int .i64 0), (.int .i64 0), (.int .i64 0), (.int .i64 0), (.int .i64 0), (.int .i64 0), (.int .i64 0)] []),
 ff (.storeN 17 (.t 2) (.t 45)),
 rr 3 (.mov (ci 0)),
 rr 4 (.mov (ci 23))])
 (.ret))
 (.skip)))
 (.seq (.seq (.reg [mv 47 0,
 mv 48 5,
 mv 49 5,
 rr 50 (.arith .add (.t 49) (ci 4)),
 rr 51 (.slcS 1 (.t 47) (some (.t 48)) (some (.t 50)) none),
 cl 52 192 [.t 51],
 mv 46 52,
 rr 53 (.ext (.t 46) 0),
 rr 54 (.ext (.t 46) 1),
 mv 8 53,
 mv 9 54])
 (.seq (.reg [mv 55 8,
 rr 56 (.toInt .u32 (.t 55)),
 mv 57 0,
 mv 58 5,
 rr 59 (.slcS 1 (.t 57) (some (ci 2)) (some (.t 58)) none),
 cl 60 193 [.t 59],
 rr 61 (.cmp .neq (.t 56) (.t 60))])
 (.cond (.t 61) (.seq (.reg [rr 62 (.build [(.int .i64 0), (.int .u16 0), (.int .u32 0), (.str []), (.int .i64 0), (.int .i64 0), (.int .i64 0), (.int .i64 0), (.int .i64 0), (.int .i64 0), (.int .i64 0), (.int .i64 0), (.int .i64 0), (.int .i64 0), (.int .i64 0), (.int .i64 0), (.int .i64 0)] []),
 ff (.storeN 17 (.t 2) (.t 62)),
 rr 3 (.mov (ci 0)),
 rr 4 (.mov (ci 24))])
 (.ret))
 (.skip))))
 (.seq (.reg [rr 63 (.loadN 17 (.t 6)),
 mv 64 5,
 rr 65 (.arith .add (.t 64) (ci 4)),
 ff (.storeN 17 (.t 2) (.t 63)),
 mv 3 65,
 rr 4 (.mov (ci 0))])
 (.ret)))))))⟩
/-- guichet/frame.Right -/
def a137 : AFunc := ⟨42, [.tmp 2],
 .seq (.reg [nn 1 (.box (.t 0)),
 rr 2 (.mov (.c (.bool false)))])
 (.seq (.reg [rr 3 (.fld 0 (.t 1)),
 rr 4 (.load1 (.t 3)),
 rr 5 (.cmp .geq (.t 4) (ci 1)),
 mv 6 5,
 gr 7 (.fld 0 (.t 1)) 6 true,
 gr 8 (.load1 (.t 7)) 6 true,
 gr 9 (.cmp .lss (.t 8) (ci 10)) 6 true,
 rr 10 (.pick (.t 6) (.t 9) (.c (.bool false))),
 mv 11 10,
 gr 12 (.fld 3 (.t 1)) 11 true,
 gr 13 (.load1 (.t 12)) 11 true,
 gr 14 (.len 0 (.t 13)) 11 true,
 gr 15 (.cmp .leq (.t 14) (ci 19)) 11 true,
 rr 16 (.pick (.t 11) (.t 15) (.c (.bool false))),
 mv 17 16,
 gr 18 (.fld 3 (.t 1)) 17 true,
 gr 19 (.load1 (.t 18)) 17 true,
 ⟨(some 20), .e (.call (.c (.fn (.func 132) [] [])) [.t 19]), (some (17, true))⟩,
 rr 21 (.pick (.t 17) (.t 20) (.c (.bool false))),
 mv 22 21,
 gr 23 (.fld 4 (.t 1)) 22 true,
 gr 24 (.load1 (.t 23)) 22 true,
 gr 25 (.cmp .geq (.t 24) (ci 0)) 22 true,
 rr 26 (.pick (.t 22) (.t 25) (.c (.bool false))),
 mv 27 26,
 gr 28 (.fld 4 (.t 1)) 27 true,
 gr 29 (.load1 (.t 28)) 27 true,
 gr 30 (.cmp .leq (.t 29) (ci 1000000)) 27 true,
 rr 31 (.pick (.t 27) (.t 30) (.c (.bool false))),
 mv 32 31,
 gr 33 (.fld 5 (.t 1)) 32 true,
 gr 34 (.loadN 4 (.t 33)) 32 true,
 gr 35 (.fld 9 (.t 1)) 32 true,
 gr 36 (.loadN 4 (.t 35)) 32 true,
 gr 37 (.fld 13 (.t 1)) 32 true,
 gr 38 (.loadN 4 (.t 37)) 32 true,
 ⟨(some 39), .n (.bslice (some .notes) 4 3 [.t 34, .t 36, .t 38]), (some (32, true))⟩,
 ⟨(some 40), .e (.call (.c (.fn (.func 194) [] [])) [.t 39]), (some (32, true))⟩,
 rr 41 (.pick (.t 32) (.t 40) (.c (.bool false))),
 mv 2 41])
 (.ret))⟩
/-- (*guichet/journal.Log).read -/
def a190 : AFunc := ⟨94, [.cellN 4 4, .tmp 5, .tmp 6],
 .seq (.reg [nn 4 (.zbox [(.int .u32 0), (.int .i64 0), (.int .i64 0), (.slice none (.n 0) (.exact 0))]),
 rr 5 (.mov (.c (.bool false))),
 rr 6 (.mov (ci 0))])
 (.seq (.reg [mv 19 0,
 rr 20 (.nilchk (.t 19)),
 rr 21 (.fld 0 (.t 20)),
 rr 22 (.load1 (.t 21)),
 mv 23 1,
 cl 24 240 [.t 22, .t 23],
 mv 18 24,
 rr 25 (.ext (.t 18) 0),
 rr 26 (.ext (.t 18) 1),
 mv 7 25,
 mv 8 26])
 (.seq (.seq (.reg [mv 27 8,
 rr 28 (.cmp .neq (.t 27) (ci 0))])
 (.cond (.t 28) (.seq (.reg [rr 29 (.build [(.int .u32 0), (.int .i64 0), (.int .i64 0), (.slice none (.n 0) (.exact 0))] []),
 mv 30 8,
 ff (.storeN 4 (.t 4) (.t 29)),
 rr 5 (.mov (.c (.bool false))),
 mv 6 30])
 (.ret))
 (.skip)))
 (.seq (.reg [mv 32 7,
 rr 33 (.slcS 1 (.t 32) none (some (ci 4)) none),
 cl 34 192 [.t 33],
 mv 31 34,
 rr 35 (.ext (.t 31) 0),
 rr 36 (.ext (.t 31) 1),
 mv 9 35,
 mv 10 36])
 (.seq (.reg [mv 38 7,
 rr 39 (.slcS 1 (.t 38) (some (ci 60)) none none),
 cl 40 192 [.t 39],
 mv 37 40,
 rr 41 (.ext (.t 37) 0),
 rr 42 (.ext (.t 37) 1),
 mv 11 41,
 mv 12 42])
 (.seq (.reg [mv 43 0,
 mv 44 0,
 rr 45 (.nilchk (.t 44)),
 rr 46 (.fld 4 (.t 45)),
 rr 47 (.load1 (.t 46)),
 mv 48 9,
 rr 49 (.toInt .u32 (.t 48)),
 mv 50 11,
 rr 51 (.toInt .u32 (.t 50)),
 rr 52 (.mm3 true (.t 47) (.t 49) (.t 51)),
 rr 53 (.nilchk (.t 43)),
 rr 54 (.fld 4 (.t 53)),
 ff (.store1 (.t 54) (.t 52))])
 (.seq (.reg [mv 56 7,
 rr 57 (.slcS 1 (.t 56) (some (ci 4)) (some (ci 6)) none),
 cl 58 192 [.t 57],
 mv 55 58,
 rr 59 (.ext (.t 55) 0),
 rr 60 (.ext (.t 55) 1),
 mv 13 59,
 mv 14 60])
 (.seq (.reg [mv 62 7,
 rr 63 (.slcS 1 (.t 62) (some (ci 6)) (some (ci 8)) none),
 cl 64 192 [.t 63],
 mv 61 64,
 rr 65 (.ext (.t 61) 0),
 rr 66 (.ext (.t 61) 1),
 mv 15 65,
 mv 16 66])
 (.seq (.reg [mv 67 7,
 rr 68 (.idxS 1 (.t 67) (ci 8)),
 rr 69 (.load1 (.t 68)),
 rr 70 (.toInt .i64 (.t 69)),
 mv 17 70])
 (.seq (.seq (.reg [mv 71 9,
 mv 72 11,
 rr 73 (.cmp .neq (.t 71) (.t 72)),
 mv 74 73,
 gr 75 (.mov (.t 9)) 74 false,
 gr 76 (.cmp .eql (.t 75) (.c (.int .u64 0))) 74 false,
 rr 77 (.pick (.t 74) (.c (.bool true)) (.t 76)),
 mv 78 77,
 gr 79 (.mov (.t 17)) 78 false,
 gr 80 (.cmp .gtr (.t 79) (ci 51)) 78 false,
 rr 81 (.pick (.t 78) (.c (.bool true)) (.t 80))])
 (.cond (.t 81) (.seq (.reg [rr 82 (.build [(.int .u32 0), (.int .i64 0), (.int .i64 0), (.slice none (.n 0) (.exact 0))] []),
 ff (.storeN 4 (.t 4) (.t 82)),
 rr 5 (.mov (.c (.bool false))),
 rr 6 (.mov (ci 0))])
 (.ret))
 (.skip)))
 (.seq (.reg [mv 83 9,
 rr 84 (.toInt .u32 (.t 83)),
 mv 85 13,
 rr 86 (.toInt .i64 (.t 85)),
 mv 87 15,
 rr 88 (.toInt .i64 (.t 87)),
 mv 89 7,
 mv 90 17,
 rr 91 (.arith .add (ci 9) (.t 90)),
 rr 92 (.slcS 1 (.t 89) (some (ci 9)) (some (.t 91)) none),
 rr 93 (.build [(.int .u32 0), (.int .i64 0), (.int .i64 0), (.slice none (.n 0) (.exact 0))] [(0, (1, (.t 84))), (1, (1, (.t 86))), (2, (1, (.t 88))), (3, (1, (.t 92)))]),
 ff (.storeN 4 (.t 4) (.t 93)),
 rr 5 (.mov (.c (.bool true))),
 rr 6 (.mov (ci 0))])
 (.ret)))))))))))⟩
/-- guichet/frame.body -/
def a191 : AFunc := ⟨58, [.cellN 2 17, .tmp 3],
 .seq (.reg [nn 2 (.zbox [(.int .i64 0), (.int .u16 0), (.int .u32 0), (.str []), (.int .i64 0), (.int .i64 0), (.int .i64 0), (.int .i64 0), (.int .i64 0), (.int .i64 0), (.int .i64 0), (.int .i64 0), (.int .i64 0), (.int .i64 0), (.int .i64 0), (.int .i64 0), (.int .i64 0)]),
 rr 3 (.mov (.c (.bool false)))])
 (.seq (.seq (.reg [mv 7 0,
 rr 8 (.len 1 (.t 7)),
 rr 9 (.cmp .lss (.t 8) (ci 36))])
 (.cond (.t 9) (.seq (.reg [rr 10 (.build [(.int .i64 0), (.int .u16 0), (.int .u32 0), (.str []), (.int .i64 0), (.int .i64 0), (.int .i64 0), (.int .i64 0), (.int .i64 0), (.int .i64 0), (.int .i64 0), (.int .i64 0), (.int .i64 0), (.int .i64 0), (.int .i64 0), (.int .i64 0), (.int .i64 0)] []),
 ff (.storeN 17 (.t 2) (.t 10)),
 rr 3 (.mov (.c (.bool false)))])
 (.ret))
 (.skip)))
 (.seq (.reg [mv 11 0,
 rr 12 (.build [(.slice none (.n 0) (.exact 0))] [(0, (1, (.t 11)))]),
 nn 13 (.box (.t 12)),
 mv 4 13])
 (.seq (.reg [mv 14 4,
 cl 15 241 [.t 14, (ci 1)],
 rr 16 (.toInt .i64 (.t 15)),
 mv 17 4,
 cl 18 241 [.t 17, (ci 2)],
 rr 19 (.toInt .u16 (.t 18)),
 mv 20 4,
 cl 21 241 [.t 20, (ci 4)],
 rr 22 (.toInt .u32 (.t 21)),
 rr 23 (.build [(.int .u16 0), (.int .u32 0)] [(0, (1, (.t 19))), (1, (1, (.t 22)))]),
 mv 24 4,
 cl 25 241 [.t 24, (ci 4)],
 rr 26 (.toInt .i64 (.t 25)),
 rr 27 (.build [(.int .i64 0), (.int .u16 0), (.int .u32 0), (.str []), (.int .i64 0), (.int .i64 0), (.int .i64 0), (.int .i64 0), (.int .i64 0), (.int .i64 0), (.int .i64 0), (.int .i64 0), (.int .i64 0), (.int .i64 0), (.int .i64 0), (.int .i64 0), (.int .i64 0)] [(0, (1, (.t 16))), (1, (2, (.t 23))), (4, (1, (.t 26)))]),
 nn 5 (.zbox [(.int .i64 0), (.int .u16 0), (.int .u32 0), (.str []), (.int .i64 0), (.int .i64 0), (.int .i64 0), (.int .i64 0), (.int .i64 0), (.int .i64 0), (.int .i64 0), (.int .i64 0), (.int .i64 0), (.int .i64 0), (.int .i64 0), (.int .i64 0), (.int .i64 0)]),
 ff (.storeN 17 (.t 5) (.t 27))])
 (.seq (.reg [mv 28 4,
 cl 29 242 [.t 28],
 mv 30 4,
 cl 31 242 [.t 30],
 mv 32 4,
 cl 33 242 [.t 32],
 rr 34 (.fld 5 (.t 5)),
 ff (.storeN 4 (.t 34) (.t 29)),
 rr 35 (.fld 9 (.t 5)),
 ff (.storeN 4 (.t 35) (.t 31)),
 rr 36 (.fld 13 (.t 5)),
 ff (.storeN 4 (.t 36) (.t 33))])
 (.seq (.reg [mv 37 4,
 cl 38 241 [.t 37, (ci 1)],
 rr 39 (.toInt .i64 (.t 38)),
 mv 6 39])
 (.seq (.reg [mv 40 4,
 rr 41 (.nilchk (.t 40)),
 rr 42 (.fld 0 (.t 41)),
 rr 43 (.load1 (.t 42)),
 rr 44 (.toStr (.t 43)),
 rr 45 (.fld 3 (.t 5)),
 ff (.store1 (.t 45) (.t 44))])
 (.seq (.dreg [⟨0, rr 46 (.loadN 17 (.t 5)), false, []⟩,
 ⟨1, mv 47 6, false, []⟩,
 ⟨2, mv 48 4, false, []⟩,
 ⟨3, rr 49 (.nilchk (.t 48)), false, []⟩,
 ⟨4, rr 50 (.fld 0 (.t 49)), false, []⟩,
 ⟨5, rr 51 (.load1 (.t 50)), false, []⟩,
 ⟨6, rr 52 (.len 1 (.t 51)), false, []⟩,
 ⟨7, rr 53 (.cmp .eql (.t 47) (.t 52)), false, []⟩,
 ⟨8, mv 54 53, false, []⟩,
 ⟨9, gr 55 (.loadN 17 (.t 5)) 54 true, false, []⟩,
 ⟨10, ⟨(some 56), .e (.call (.c (.fn (.func 137) [] [])) [.t 55]), (some (54, true))⟩, true, [9, 8, 7, 6, 5, 4, 3, 2, 1]⟩,
 ⟨11, rr 57 (.pick (.t 54) (.t 56) (.c (.bool false))), false, []⟩,
 ⟨12, ff (.storeN 17 (.t 2) (.t 46)), true, [10, 9, 8, 7, 6, 5, 4, 3, 2, 1, 0]⟩,
 ⟨13, mv 3 57, false, []⟩])
 (.ret))))))))⟩
/-- guichet/arith.Number -/
def a192 : AFunc := ⟨23, [.tmp 2, .tmp 3],
 .seq (.reg [rr 2 (.mov (.c (.int .u64 0))),
 rr 3 (.mov (.c (.bool false)))])
 (.seq (.reg [rr 4 (.mov (.c (.int .u64 0)))])
 (.seq (.seq (.reg [mv 7 0,
 rr 8 (.len 1 (.t 7)),
 rr 9 (.mov (ci 0))])
 (.block 0 (.loop [] (.seq (.reg [rr 10 (.cmp .lss (.t 9) (.t 8))])
 (.seq (.cond (.t 10) (.skip)
 (.exit 0))
 (.seq (.block 1 (.seq (.reg [rr 11 (.idxS 1 (.t 7) (.t 9)),
 rr 12 (.load1 (.t 11)),
 mv 6 12])
 (.seq (.seq (.reg [mv 13 4,
 rr 14 (.arith .shr (.t 13) (.c (.int .u64 56))),
 rr 15 (.cmp .neq (.t 14) (.c (.int .u64 0)))])
 (.cond (.t 15) (.seq (.reg [rr 2 (.mov (.c (.int .u64 0))),
 rr 3 (.mov (.c (.bool false)))])
 (.ret))
 (.skip)))
 (.reg [mv 16 4,
 rr 17 (.arith .shl (.t 16) (.c (.int .u64 8))),
 mv 18 6,
 rr 19 (.toInt .u64 (.t 18)),
 rr 20 (.arith .or (.t 17) (.t 19)),
 mv 4 20]))))
 (.reg [rr 21 (.arith .add (.t 9) (ci 1)),
 mv 9 21])))))))
 (.seq (.reg [mv 22 4,
 mv 2 22,
 rr 3 (.mov (.c (.bool true)))])
 (.ret))))⟩
/-- guichet/frame.Sum -/
def a193 : AFunc := ⟨29, [.tmp 2],
 .seq (.reg [rr 2 (.mov (.c (.int .u32 0)))])
 (.seq (.reg [rr 3 (.mov (.c (.int .u32 4294967295)))])
 (.seq (.seq (.reg [mv 6 0,
 rr 7 (.len 1 (.t 6)),
 rr 8 (.mov (ci 0))])
 (.block 0 (.loop [] (.seq (.reg [rr 9 (.cmp .lss (.t 8) (.t 7))])
 (.seq (.cond (.t 9) (.skip)
 (.exit 0))
 (.seq (.block 1 (.seq (.reg [rr 10 (.idxS 1 (.t 6) (.t 8)),
 rr 11 (.load1 (.t 10)),
 mv 5 11])
 (.seq (.reg [mv 12 3,
 mv 13 5,
 rr 14 (.toInt .u32 (.t 13)),
 rr 15 (.arith .xor (.t 12) (.t 14)),
 mv 3 15])
 (.seq (.reg [rr 16 (.mov (ci 0))])
 (.block 2 (.loop [] (.seq (.reg [rr 17 (.cmp .lss (.t 16) (ci 8))])
 (.seq (.cond (.t 17) (.skip)
 (.exit 2))
 (.seq (.block 3 (.reg [mv 18 3,
 rr 19 (.arith .shr (.t 18) (.c (.int .u64 1))),
 mv 20 3,
 rr 21 (.arith .and (.t 20) (.c (.int .u32 1))),
 rr 22 (.neg (.t 21)),
 rr 23 (.arith .and (.t 22) (.c (.int .u32 2197175160))),
 rr 24 (.arith .xor (.t 19) (.t 23)),
 mv 3 24]))
 (.reg [rr 25 (.arith .add (.t 16) (ci 1)),
 mv 16 25]))))))))))
 (.reg [rr 26 (.arith .add (.t 8) (ci 1)),
 mv 8 26])))))))
 (.seq (.reg [mv 27 3,
 rr 28 (.compl (.t 27)),
 mv 2 28])
 (.ret))))⟩
/-- guichet/frame.counts -/
def a194 : AFunc := ⟨25, [.tmp 2],
 .seq (.reg [rr 2 (.mov (.c (.bool false)))])
 (.seq (.seq (.reg [mv 7 0,
 rr 8 (.len 1 (.t 7)),
 rr 9 (.mov (ci 0))])
 (.block 0 (.loop [] (.seq (.reg [rr 10 (.cmp .lss (.t 9) (.t 8))])
 (.seq (.cond (.t 10) (.skip)
 (.exit 0))
 (.seq (.block 1 (.seq (.reg [rr 11 (.idxS 4 (.t 7) (.t 9)),
 rr 12 (.loadN 4 (.t 11)),
 nn 4 (.zbox [(.int .i64 0), (.int .i64 0), (.int .i64 0), (.int .i64 0)]),
 ff (.storeN 4 (.t 4) (.t 12))])
 (.seq (.reg [rr 13 (.loadN 4 (.t 4)),
 rr 14 (.mov (ci 0))])
 (.block 2 (.loop [] (.seq (.reg [rr 15 (.cmp .lss (.t 14) (ci 4))])
 (.seq (.cond (.t 15) (.skip)
 (.exit 2))
 (.seq (.block 3 (.seq (.reg [rr 16 (.at 4 1 true (.t 13) (.t 14)),
 mv 6 16])
 (.seq (.reg [mv 17 6,
 rr 18 (.cmp .lss (.t 17) (ci 0)),
 mv 19 18,
 gr 20 (.mov (.t 6)) 19 false,
 gr 21 (.cmp .gtr (.t 20) (ci 10000)) 19 false,
 rr 22 (.pick (.t 19) (.c (.bool true)) (.t 21))])
 (.cond (.t 22) (.seq (.reg [rr 2 (.mov (.c (.bool false)))])
 (.ret))
 (.skip)))))
 (.reg [rr 23 (.arith .add (.t 14) (ci 1)),
 mv 14 23])))))))))
 (.reg [rr 24 (.arith .add (.t 9) (ci 1)),
 mv 9 24])))))))
 (.seq (.reg [rr 2 (.mov (.c (.bool true)))])
 (.ret)))⟩
/-- (*guichet/disk.Disk).Read -/
def a240 : AFunc := ⟨21, [.tmp 4, .tmp 5],
 .seq (.reg [rr 4 (.mov (.c (.slice none (.n 0) (.exact 0)))),
 rr 5 (.mov (ci 0))])
 (.seq (.seq (.reg [mv 7 0,
 mv 8 1,
 cl 9 294 [.t 7, .t 8],
 mv 6 9])
 (.seq (.reg [mv 10 6,
 rr 11 (.cmp .neq (.t 10) (ci 0))])
 (.cond (.t 11) (.seq (.reg [mv 12 6,
 rr 4 (.mov (.c (.slice none (.n 0) (.exact 0)))),
 mv 5 12])
 (.ret))
 (.skip))))
 (.seq (.reg [mv 13 0,
 rr 14 (.nilchk (.t 13)),
 rr 15 (.fld 1 (.t 14)),
 rr 16 (.load1 (.t 15)),
 mv 17 1,
 rr 18 (.idxS 64 (.t 16) (.t 17)),
 rr 19 (.slcA 64 1 (.t 18) none none),
 cl 20 295 [.t 19],
 mv 4 20,
 rr 5 (.mov (ci 0))])
 (.ret)))⟩
/-- (*guichet/frame.reader).number -/
def a241 : AFunc := ⟨27, [.tmp 4],
 .seq (.reg [rr 4 (.mov (.c (.int .u64 0)))])
 (.seq (.reg [mv 8 0,
 rr 9 (.nilchk (.t 8)),
 rr 10 (.fld 0 (.t 9)),
 rr 11 (.load1 (.t 10)),
 mv 12 1,
 rr 13 (.slcS 1 (.t 11) none (some (.t 12)) none),
 cl 14 192 [.t 13],
 mv 7 14,
 rr 15 (.ext (.t 7) 0),
 rr 16 (.ext (.t 7) 1),
 mv 5 15,
 mv 6 16])
 (.seq (.reg [mv 17 0,
 mv 18 0,
 rr 19 (.nilchk (.t 18)),
 rr 20 (.fld 0 (.t 19)),
 rr 21 (.load1 (.t 20)),
 mv 22 1,
 rr 23 (.slcS 1 (.t 21) (some (.t 22)) none none),
 rr 24 (.nilchk (.t 17)),
 rr 25 (.fld 0 (.t 24)),
 ff (.store1 (.t 25) (.t 23))])
 (.seq (.reg [mv 26 5,
 mv 4 26])
 (.ret))))⟩
/-- (*guichet/frame.reader).notes -/
def a242 : AFunc := ⟨15, [.cellN 2 4],
 .seq (.reg [nn 2 (.zbox [(.int .i64 0), (.int .i64 0), (.int .i64 0), (.int .i64 0)])])
 (.seq (.reg [nn 3 (.zbox [(.int .i64 0), (.int .i64 0), (.int .i64 0), (.int .i64 0)])])
 (.seq (.seq (.reg [rr 5 (.mov (ci 0))])
 (.block 0 (.loop [] (.seq (.reg [rr 6 (.cmp .lss (.t 5) (ci 4))])
 (.seq (.cond (.t 6) (.skip)
 (.exit 0))
 (.seq (.block 1 (.seq (.reg [mv 7 5,
 mv 4 7])
 (.reg [mv 8 4,
 mv 9 0,
 cl 10 241 [.t 9, (ci 2)],
 rr 11 (.toInt .i64 (.t 10)),
 rr 12 (.idxA 4 1 (.t 3) (.t 8)),
 ff (.store1 (.t 12) (.t 11))])))
 (.reg [rr 13 (.arith .add (.t 5) (ci 1)),
 mv 5 13])))))))
 (.seq (.reg [rr 14 (.loadN 4 (.t 3)),
 ff (.storeN 4 (.t 2) (.t 14))])
 (.ret))))⟩
/-- (*guichet/disk.Disk).out -/
def a294 : AFunc := ⟨22, [.tmp 4],
 .seq (.reg [rr 4 (.mov (ci 0))])
 (.seq (.block 0 (.seq (.reg [mv 6 0,
 rr 7 (.nilchk (.t 6)),
 rr 8 (.fld 4 (.t 7)),
 rr 9 (.load1 (.t 8)),
 mv 5 9])
 (.cond (.t 5) (.seq (.reg [rr 4 (.mov (ci 22))])
 (.ret))
 (.seq (.reg [mv 11 1,
 rr 12 (.cmp .lss (.t 11) (ci 0)),
 mv 13 12,
 gr 14 (.mov (.t 1)) 13 false,
 gr 15 (.mov (.t 0)) 13 false,
 gr 16 (.nilchk (.t 15)) 13 false,
 gr 17 (.fld 1 (.t 16)) 13 false,
 gr 18 (.load1 (.t 17)) 13 false,
 gr 19 (.len 1 (.t 18)) 13 false,
 gr 20 (.cmp .geq (.t 14) (.t 19)) 13 false,
 rr 21 (.pick (.t 13) (.c (.bool true)) (.t 20)),
 mv 10 21])
 (.cond (.t 10) (.seq (.reg [rr 4 (.mov (ci 20))])
 (.ret))
 (.skip))))))
 (.seq (.reg [rr 4 (.mov (ci 0))])
 (.ret)))⟩
/-- slices.Clone[[]byte,byte] -/
def a295 : AFunc := ⟨8, [.tmp 2],
 .seq (.reg [rr 2 (.mov (.c (.slice none (.n 0) (.exact 0))))])
 (.seq (.seq (.reg [mv 3 0,
 rr 4 (.eqN false (.t 3))])
 (.cond (.t 4) (.seq (.reg [rr 2 (.mov (.c (.slice none (.n 0) (.exact 0))))])
 (.ret))
 (.skip)))
 (.seq (.reg [nn 5 (.bslice (some (.int .u8)) 1 0 []),
 mv 6 0,
 ee 7 (.append (.int .u8) (.t 5) (.t 6)),
 mv 2 7])
 (.ret)))⟩
end Go.Sx

/- That these are the program's functions: part 0. -/
set_option maxRecDepth 1000000
namespace Go.Sx
open Go.Proofs
theorem c59 : compF Tryz.prog tt Tryz.f59 = some a59 := by kernel_rfl
theorem c70 : compF Tryz.prog tt Tryz.f70 = some a70 := by kernel_rfl
theorem c132 : compF Tryz.prog tt Tryz.f132 = some a132 := by kernel_rfl
theorem c133 : compF Tryz.prog tt Tryz.f133 = some a133 := by kernel_rfl
theorem c134 : compF Tryz.prog tt Tryz.f134 = some a134 := by kernel_rfl
theorem c135 : compF Tryz.prog tt Tryz.f135 = some a135 := by kernel_rfl
theorem c137 : compF Tryz.prog tt Tryz.f137 = some a137 := by kernel_rfl
theorem c190 : compF Tryz.prog tt Tryz.f190 = some a190 := by kernel_rfl
theorem c191 : compF Tryz.prog tt Tryz.f191 = some a191 := by kernel_rfl
theorem c192 : compF Tryz.prog tt Tryz.f192 = some a192 := by kernel_rfl
theorem c193 : compF Tryz.prog tt Tryz.f193 = some a193 := by kernel_rfl
theorem c194 : compF Tryz.prog tt Tryz.f194 = some a194 := by kernel_rfl
theorem c240 : compF Tryz.prog tt Tryz.f240 = some a240 := by kernel_rfl
theorem c241 : compF Tryz.prog tt Tryz.f241 = some a241 := by kernel_rfl
theorem c242 : compF Tryz.prog tt Tryz.f242 = some a242 := by kernel_rfl
theorem c294 : compF Tryz.prog tt Tryz.f294 = some a294 := by kernel_rfl
theorem c295 : compF Tryz.prog tt Tryz.f295 = some a295 := by kernel_rfl
end Go.Sx

/- The table of what journal.Open reaches. -/
set_option maxRecDepth 100000
namespace Go.Sx
open Go.Proofs
def TBO : Tab := .node .no (.node .no (.node .no (.node .no (.node .no (.node .no (.node .no (.leaf) (.node (.fn a191) (.leaf) (.leaf))) (.leaf)) (.leaf)) (.node .no (.node .no (.node .no (.node (.fn a135) (.leaf) (.leaf)) (.leaf)) (.node .no (.node .no (.node (.fn a295) (.leaf) (.leaf)) (.leaf)) (.leaf))) (.leaf))) (.node .no (.leaf) (.node .no (.leaf) (.node (.fn a59) (.leaf) (.leaf))))) (.node .no (.node .no (.node .no (.node .no (.node .no (.leaf) (.node (.fn a193) (.leaf) (.leaf))) (.leaf)) (.node .no (.leaf) (.node .no (.leaf) (.node (.fn a241) (.leaf) (.leaf))))) (.node .no (.node .no (.node .no (.node (.fn a137) (.leaf) (.leaf)) (.leaf)) (.leaf)) (.leaf))) (.node .no (.node .no (.node .no (.node .no (.node (.fn a133) (.leaf) (.leaf)) (.leaf)) (.leaf)) (.leaf)) (.leaf)))) (.node .no (.node .no (.node .no (.node .no (.node .no (.node .no (.leaf) (.node (.fn a192) (.leaf) (.leaf))) (.leaf)) (.node .no (.leaf) (.node .no (.leaf) (.node (.fn a240) (.leaf) (.leaf))))) (.node .no (.node .no (.leaf) (.node .no (.node (.sp spMapClone) (.leaf) (.leaf)) (.leaf))) (.leaf))) (.node .no (.node .no (.node .no (.node .no (.node (.fn a132) (.leaf) (.leaf)) (.leaf)) (.leaf)) (.leaf)) (.leaf))) (.node .no (.node .no (.node .no (.node .no (.node .no (.leaf) (.node (.fn a194) (.leaf) (.leaf))) (.leaf)) (.node .no (.leaf) (.node .no (.leaf) (.node (.fn a242) (.leaf) (.leaf))))) (.leaf)) (.node .no (.node .no (.node .no (.node (.fn a70) (.node (.fn a134) (.leaf) (.leaf)) (.leaf)) (.node .no (.node .no (.node (.fn a294) (.leaf) (.leaf)) (.leaf)) (.leaf))) (.leaf)) (.node .no (.leaf) (.node .no (.leaf) (.node .no (.node (.fn a190) (.leaf) (.leaf)) (.leaf)))))))
theorem tabOkO {B : Base} : TabOk Tryz.prog B tt fr0 TBO := TabOk.of ⟨trivial, ⟨trivial, ⟨trivial, ⟨trivial, ⟨trivial, ⟨trivial, ⟨trivial, trivial, ⟨(FnOk.of Tryz.func191 c191), trivial, trivial⟩⟩, trivial⟩, trivial⟩, ⟨trivial, ⟨trivial, ⟨trivial, ⟨(FnOk.of Tryz.func135 c135), trivial, trivial⟩, trivial⟩, ⟨trivial, ⟨trivial, ⟨(FnOk.of Tryz.func295 c295), trivial, trivial⟩, trivial⟩, trivial⟩⟩, trivial⟩⟩, ⟨trivial, trivial, ⟨trivial, trivial, ⟨(FnOk.of Tryz.func59 c59), trivial, trivial⟩⟩⟩⟩, ⟨trivial, ⟨trivial, ⟨trivial, ⟨trivial, ⟨trivial, trivial, ⟨(FnOk.of Tryz.func193 c193), trivial, trivial⟩⟩, trivial⟩, ⟨trivial, trivial, ⟨trivial, trivial, ⟨(FnOk.of Tryz.func241 c241), trivial, trivial⟩⟩⟩⟩, ⟨trivial, ⟨trivial, ⟨trivial, ⟨(FnOk.of Tryz.func137 c137), trivial, trivial⟩, trivial⟩, trivial⟩, trivial⟩⟩, ⟨trivial, ⟨trivial, ⟨trivial, ⟨trivial, ⟨(FnOk.of Tryz.func133 c133), trivial, trivial⟩, trivial⟩, trivial⟩, trivial⟩, trivial⟩⟩⟩, ⟨trivial, ⟨trivial, ⟨trivial, ⟨trivial, ⟨trivial, ⟨trivial, trivial, ⟨(FnOk.of Tryz.func192 c192), trivial, trivial⟩⟩, trivial⟩, ⟨trivial, trivial, ⟨trivial, trivial, ⟨(FnOk.of Tryz.func240 c240), trivial, trivial⟩⟩⟩⟩, ⟨trivial, ⟨trivial, trivial, ⟨trivial, ⟨(fun E _ => ok_MapClone E), trivial, trivial⟩, trivial⟩⟩, trivial⟩⟩, ⟨trivial, ⟨trivial, ⟨trivial, ⟨trivial, ⟨(FnOk.of Tryz.func132 c132), trivial, trivial⟩, trivial⟩, trivial⟩, trivial⟩, trivial⟩⟩, ⟨trivial, ⟨trivial, ⟨trivial, ⟨trivial, ⟨trivial, trivial, ⟨(FnOk.of Tryz.func194 c194), trivial, trivial⟩⟩, trivial⟩, ⟨trivial, trivial, ⟨trivial, trivial, ⟨(FnOk.of Tryz.func242 c242), trivial, trivial⟩⟩⟩⟩, trivial⟩, ⟨trivial, ⟨trivial, ⟨trivial, ⟨(FnOk.of Tryz.func70 c70), ⟨(FnOk.of Tryz.func134 c134), trivial, trivial⟩, trivial⟩, ⟨trivial, ⟨trivial, ⟨(FnOk.of Tryz.func294 c294), trivial, trivial⟩, trivial⟩, trivial⟩⟩, trivial⟩, ⟨trivial, trivial, ⟨trivial, trivial, ⟨trivial, ⟨(FnOk.of Tryz.func190 c190), trivial, trivial⟩, trivial⟩⟩⟩⟩⟩⟩⟩
end Go.Sx
