/- CoreQueries: each terminal is asked what it counts when the switch begins, when its power is back, and at each so-manieth tick; true for every k and ticks. Part Gb1 of the proof. Condition: the listed package variables hold what the program's text lays. -/
import Derived.Test.YtncpkgjihijjhaaGreatDoorGd
set_option linter.unusedVariables false
set_option linter.unusedSimpArgs false
noncomputable section
/- CoreQueries: the switch on each bank: part 2. -/
set_option maxRecDepth 1000000
set_option linter.unusedVariables false
namespace Go.Sx
noncomputable section
theorem cqA32 : CqA 32 ca0 ca1 := CqA.of fun t R K => by kernel_rfl
theorem cqA33 : CqA 33 ca1 ca2 := CqA.of fun t R K => by kernel_rfl
theorem cqA34 : CqA 34 ca2 ca3 := CqA.of fun t R K => by kernel_rfl
theorem cqA35 : CqA 35 ca3 ca4 := CqA.of fun t R K => by kernel_rfl
theorem cqA36 : CqA 36 ca4 ca5 := CqA.of fun t R K => by kernel_rfl
theorem cqA37 : CqA 37 ca5 ca6 := CqA.of fun t R K => by kernel_rfl
theorem cqA38 : CqA 38 ca6 ca7 := CqA.of fun t R K => by kernel_rfl
theorem cqA39 : CqA 39 ca7 ca8 := CqA.of fun t R K => by kernel_rfl
theorem cqA40 : CqA 40 ca8 ca9 := CqA.of fun t R K => by kernel_rfl
theorem cqA41 : CqA 41 ca9 ca10 := CqA.of fun t R K => by kernel_rfl
theorem cqA42 : CqA 42 ca10 ca11 := CqA.of fun t R K => by kernel_rfl
theorem cqA43 : CqA 43 ca11 ca12 := CqA.of fun t R K => by kernel_rfl
theorem cqA44 : CqA 44 ca12 ca13 := CqA.of fun t R K => by kernel_rfl
theorem cqA45 : CqA 45 ca13 ca14 := CqA.of fun t R K => by kernel_rfl
theorem cqA46 : CqA 46 ca14 ca15 := CqA.of fun t R K => by kernel_rfl
theorem cqA47 : CqA 47 ca15 ca16 := CqA.of fun t R K => by kernel_rfl
end
end Go.Sx

/- CoreQueries: the switch on each bank: part 3. -/
set_option maxRecDepth 1000000
set_option linter.unusedVariables false
namespace Go.Sx
noncomputable section
theorem cqA48 : CqA 48 ca16 ca17 := CqA.of fun t R K => by kernel_rfl
theorem cqA49 : CqA 49 ca17 ca18 := CqA.of fun t R K => by kernel_rfl
theorem cqA50 : CqA 50 ca18 ca19 := CqA.of fun t R K => by kernel_rfl
theorem cqA51 : CqA 51 ca19 ca20 := CqA.of fun t R K => by kernel_rfl
theorem cqA52 : CqA 52 ca20 ca21 := CqA.of fun t R K => by kernel_rfl
theorem cqA53 : CqA 53 ca21 ca22 := CqA.of fun t R K => by kernel_rfl
theorem cqA54 : CqA 54 ca22 ca23 := CqA.of fun t R K => by kernel_rfl
theorem cqA55 : CqA 55 ca23 ca24 := CqA.of fun t R K => by kernel_rfl
theorem cqA56 : CqA 56 ca24 ca25 := CqA.of fun t R K => by kernel_rfl
theorem cqA57 : CqA 57 ca25 ca26 := CqA.of fun t R K => by kernel_rfl
theorem cqA58 : CqA 58 ca26 ca27 := CqA.of fun t R K => by kernel_rfl
theorem cqA59 : CqA 59 ca27 ca28 := CqA.of fun t R K => by kernel_rfl
theorem cqA60 : CqA 60 ca28 ca29 := CqA.of fun t R K => by kernel_rfl
theorem cqA61 : CqA 61 ca29 ca30 := CqA.of fun t R K => by kernel_rfl
theorem cqA62 : CqA 62 ca30 ca31 := CqA.of fun t R K => by kernel_rfl
theorem cqA63 : CqA 63 ca31 ca0 := CqA.of fun t R K => by kernel_rfl
end
end Go.Sx
