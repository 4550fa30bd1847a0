/- CoreQueries: each terminal is asked what it counts when the switch begins, when its power is back, and at each so-manieth tick; true for every k and ticks. Part Gb3 of the proof. Condition: the listed package variables hold what the program's text lays. -/
import Derived.Test.YtncpkgjihijjhaaGreatDoorGd
set_option linter.unusedVariables false
set_option linter.unusedSimpArgs false
noncomputable section
/- CoreQueries: the switch on each bank: part 6. -/
set_option maxRecDepth 1000000
set_option linter.unusedVariables false
namespace Go.Sx
noncomputable section
theorem cqA96 : CqA 96 ca0 ca1 := CqA.of fun t R K => by kernel_rfl
theorem cqA97 : CqA 97 ca1 ca2 := CqA.of fun t R K => by kernel_rfl
theorem cqA98 : CqA 98 ca2 ca3 := CqA.of fun t R K => by kernel_rfl
theorem cqA99 : CqA 99 ca3 ca4 := CqA.of fun t R K => by kernel_rfl
theorem cqA100 : CqA 100 ca4 ca5 := CqA.of fun t R K => by kernel_rfl
theorem cqA101 : CqA 101 ca5 ca6 := CqA.of fun t R K => by kernel_rfl
theorem cqA102 : CqA 102 ca6 ca7 := CqA.of fun t R K => by kernel_rfl
theorem cqA103 : CqA 103 ca7 ca8 := CqA.of fun t R K => by kernel_rfl
theorem cqA104 : CqA 104 ca8 ca9 := CqA.of fun t R K => by kernel_rfl
theorem cqA105 : CqA 105 ca9 ca10 := CqA.of fun t R K => by kernel_rfl
theorem cqA106 : CqA 106 ca10 ca11 := CqA.of fun t R K => by kernel_rfl
theorem cqA107 : CqA 107 ca11 ca12 := CqA.of fun t R K => by kernel_rfl
theorem cqA108 : CqA 108 ca12 ca13 := CqA.of fun t R K => by kernel_rfl
theorem cqA109 : CqA 109 ca13 ca14 := CqA.of fun t R K => by kernel_rfl
theorem cqA110 : CqA 110 ca14 ca15 := CqA.of fun t R K => by kernel_rfl
theorem cqA111 : CqA 111 ca15 ca16 := CqA.of fun t R K => by kernel_rfl
end
end Go.Sx

/- CoreQueries: the switch on each bank: part 7. -/
set_option maxRecDepth 1000000
set_option linter.unusedVariables false
namespace Go.Sx
noncomputable section
theorem cqA112 : CqA 112 ca16 ca17 := CqA.of fun t R K => by kernel_rfl
theorem cqA113 : CqA 113 ca17 ca18 := CqA.of fun t R K => by kernel_rfl
theorem cqA114 : CqA 114 ca18 ca19 := CqA.of fun t R K => by kernel_rfl
theorem cqA115 : CqA 115 ca19 ca20 := CqA.of fun t R K => by kernel_rfl
theorem cqA116 : CqA 116 ca20 ca21 := CqA.of fun t R K => by kernel_rfl
theorem cqA117 : CqA 117 ca21 ca22 := CqA.of fun t R K => by kernel_rfl
theorem cqA118 : CqA 118 ca22 ca23 := CqA.of fun t R K => by kernel_rfl
theorem cqA119 : CqA 119 ca23 ca24 := CqA.of fun t R K => by kernel_rfl
theorem cqA120 : CqA 120 ca24 ca25 := CqA.of fun t R K => by kernel_rfl
theorem cqA121 : CqA 121 ca25 ca26 := CqA.of fun t R K => by kernel_rfl
theorem cqA122 : CqA 122 ca26 ca27 := CqA.of fun t R K => by kernel_rfl
theorem cqA123 : CqA 123 ca27 ca28 := CqA.of fun t R K => by kernel_rfl
theorem cqA124 : CqA 124 ca28 ca29 := CqA.of fun t R K => by kernel_rfl
theorem cqA125 : CqA 125 ca29 ca30 := CqA.of fun t R K => by kernel_rfl
theorem cqA126 : CqA 126 ca30 ca31 := CqA.of fun t R K => by kernel_rfl
theorem cqA127 : CqA 127 ca31 ca0 := CqA.of fun t R K => by kernel_rfl
end
end Go.Sx
