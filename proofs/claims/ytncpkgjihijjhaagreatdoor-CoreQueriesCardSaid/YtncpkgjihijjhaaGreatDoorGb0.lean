/- CoreQueries: each terminal is asked what it counts when the switch begins, when its power is back, and at each so-manieth tick; true for every k and ticks. Part Gb0 of the proof. Condition: the listed package variables hold what the program's text lays. -/
import Derived.Test.YtncpkgjihijjhaaGreatDoorGd
set_option linter.unusedVariables false
set_option linter.unusedSimpArgs false
noncomputable section
/- CoreQueries: the switch on each bank: part 0. -/
set_option maxRecDepth 1000000
set_option linter.unusedVariables false
namespace Go.Sx
noncomputable section
theorem cqA0 : CqA 0 ca0 ca1 := CqA.of fun t R K => by kernel_rfl
theorem cqA1 : CqA 1 ca1 ca2 := CqA.of fun t R K => by kernel_rfl
theorem cqA2 : CqA 2 ca2 ca3 := CqA.of fun t R K => by kernel_rfl
theorem cqA3 : CqA 3 ca3 ca4 := CqA.of fun t R K => by kernel_rfl
theorem cqA4 : CqA 4 ca4 ca5 := CqA.of fun t R K => by kernel_rfl
theorem cqA5 : CqA 5 ca5 ca6 := CqA.of fun t R K => by kernel_rfl
theorem cqA6 : CqA 6 ca6 ca7 := CqA.of fun t R K => by kernel_rfl
theorem cqA7 : CqA 7 ca7 ca8 := CqA.of fun t R K => by kernel_rfl
theorem cqA8 : CqA 8 ca8 ca9 := CqA.of fun t R K => by kernel_rfl
theorem cqA9 : CqA 9 ca9 ca10 := CqA.of fun t R K => by kernel_rfl
theorem cqA10 : CqA 10 ca10 ca11 := CqA.of fun t R K => by kernel_rfl
theorem cqA11 : CqA 11 ca11 ca12 := CqA.of fun t R K => by kernel_rfl
theorem cqA12 : CqA 12 ca12 ca13 := CqA.of fun t R K => by kernel_rfl
theorem cqA13 : CqA 13 ca13 ca14 := CqA.of fun t R K => by kernel_rfl
theorem cqA14 : CqA 14 ca14 ca15 := CqA.of fun t R K => by kernel_rfl
theorem cqA15 : CqA 15 ca15 ca16 := CqA.of fun t R K => by kernel_rfl
end
end Go.Sx

/- CoreQueries: the switch on each bank: part 1. -/
set_option maxRecDepth 1000000
set_option linter.unusedVariables false
namespace Go.Sx
noncomputable section
theorem cqA16 : CqA 16 ca16 ca17 := CqA.of fun t R K => by kernel_rfl
theorem cqA17 : CqA 17 ca17 ca18 := CqA.of fun t R K => by kernel_rfl
theorem cqA18 : CqA 18 ca18 ca19 := CqA.of fun t R K => by kernel_rfl
theorem cqA19 : CqA 19 ca19 ca20 := CqA.of fun t R K => by kernel_rfl
theorem cqA20 : CqA 20 ca20 ca21 := CqA.of fun t R K => by kernel_rfl
theorem cqA21 : CqA 21 ca21 ca22 := CqA.of fun t R K => by kernel_rfl
theorem cqA22 : CqA 22 ca22 ca23 := CqA.of fun t R K => by kernel_rfl
theorem cqA23 : CqA 23 ca23 ca24 := CqA.of fun t R K => by kernel_rfl
theorem cqA24 : CqA 24 ca24 ca25 := CqA.of fun t R K => by kernel_rfl
theorem cqA25 : CqA 25 ca25 ca26 := CqA.of fun t R K => by kernel_rfl
theorem cqA26 : CqA 26 ca26 ca27 := CqA.of fun t R K => by kernel_rfl
theorem cqA27 : CqA 27 ca27 ca28 := CqA.of fun t R K => by kernel_rfl
theorem cqA28 : CqA 28 ca28 ca29 := CqA.of fun t R K => by kernel_rfl
theorem cqA29 : CqA 29 ca29 ca30 := CqA.of fun t R K => by kernel_rfl
theorem cqA30 : CqA 30 ca30 ca31 := CqA.of fun t R K => by kernel_rfl
theorem cqA31 : CqA 31 ca31 ca0 := CqA.of fun t R K => by kernel_rfl
end
end Go.Sx
