/- CoreQueries: each terminal is asked what it counts when the switch begins, when its power is back, and at each so-manieth tick; true for every k and ticks. Part Gb2 of the proof. Condition: the listed package variables hold what the program's text lays. -/
import Derived.Test.YtncpkgjihijjhaaGreatDoorGd
set_option linter.unusedVariables false
set_option linter.unusedSimpArgs false
noncomputable section
/- CoreQueries: the switch on each bank: part 4. -/
set_option maxRecDepth 1000000
set_option linter.unusedVariables false
namespace Go.Sx
noncomputable section
theorem cqA64 : CqA 64 ca0 ca1 := CqA.of fun t R K => by kernel_rfl
theorem cqA65 : CqA 65 ca1 ca2 := CqA.of fun t R K => by kernel_rfl
theorem cqA66 : CqA 66 ca2 ca3 := CqA.of fun t R K => by kernel_rfl
theorem cqA67 : CqA 67 ca3 ca4 := CqA.of fun t R K => by kernel_rfl
theorem cqA68 : CqA 68 ca4 ca5 := CqA.of fun t R K => by kernel_rfl
theorem cqA69 : CqA 69 ca5 ca6 := CqA.of fun t R K => by kernel_rfl
theorem cqA70 : CqA 70 ca6 ca7 := CqA.of fun t R K => by kernel_rfl
theorem cqA71 : CqA 71 ca7 ca8 := CqA.of fun t R K => by kernel_rfl
theorem cqA72 : CqA 72 ca8 ca9 := CqA.of fun t R K => by kernel_rfl
theorem cqA73 : CqA 73 ca9 ca10 := CqA.of fun t R K => by kernel_rfl
theorem cqA74 : CqA 74 ca10 ca11 := CqA.of fun t R K => by kernel_rfl
theorem cqA75 : CqA 75 ca11 ca12 := CqA.of fun t R K => by kernel_rfl
theorem cqA76 : CqA 76 ca12 ca13 := CqA.of fun t R K => by kernel_rfl
theorem cqA77 : CqA 77 ca13 ca14 := CqA.of fun t R K => by kernel_rfl
theorem cqA78 : CqA 78 ca14 ca15 := CqA.of fun t R K => by kernel_rfl
theorem cqA79 : CqA 79 ca15 ca16 := CqA.of fun t R K => by kernel_rfl
end
end Go.Sx

/- CoreQueries: the switch on each bank: part 5. -/
set_option maxRecDepth 1000000
set_option linter.unusedVariables false
namespace Go.Sx
noncomputable section
theorem cqA80 : CqA 80 ca16 ca17 := CqA.of fun t R K => by kernel_rfl
theorem cqA81 : CqA 81 ca17 ca18 := CqA.of fun t R K => by kernel_rfl
theorem cqA82 : CqA 82 ca18 ca19 := CqA.of fun t R K => by kernel_rfl
theorem cqA83 : CqA 83 ca19 ca20 := CqA.of fun t R K => by kernel_rfl
theorem cqA84 : CqA 84 ca20 ca21 := CqA.of fun t R K => by kernel_rfl
theorem cqA85 : CqA 85 ca21 ca22 := CqA.of fun t R K => by kernel_rfl
theorem cqA86 : CqA 86 ca22 ca23 := CqA.of fun t R K => by kernel_rfl
theorem cqA87 : CqA 87 ca23 ca24 := CqA.of fun t R K => by kernel_rfl
theorem cqA88 : CqA 88 ca24 ca25 := CqA.of fun t R K => by kernel_rfl
theorem cqA89 : CqA 89 ca25 ca26 := CqA.of fun t R K => by kernel_rfl
theorem cqA90 : CqA 90 ca26 ca27 := CqA.of fun t R K => by kernel_rfl
theorem cqA91 : CqA 91 ca27 ca28 := CqA.of fun t R K => by kernel_rfl
theorem cqA92 : CqA 92 ca28 ca29 := CqA.of fun t R K => by kernel_rfl
theorem cqA93 : CqA 93 ca29 ca30 := CqA.of fun t R K => by kernel_rfl
theorem cqA94 : CqA 94 ca30 ca31 := CqA.of fun t R K => by kernel_rfl
theorem cqA95 : CqA 95 ca31 ca0 := CqA.of fun t R K => by kernel_rfl
end
end Go.Sx
