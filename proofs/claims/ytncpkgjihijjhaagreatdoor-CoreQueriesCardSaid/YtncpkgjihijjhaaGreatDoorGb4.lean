/- CoreQueries: each terminal is asked what it counts when the switch begins, when its power is back, and at each so-manieth tick; true for every k and ticks. Part Gb4 of the proof. Condition: the listed package variables hold what the program's text lays. -/
import Derived.Test.YtncpkgjihijjhaaGreatDoorGd
set_option linter.unusedVariables false
set_option linter.unusedSimpArgs false
noncomputable section
/- CoreQueries: the switch on each bank: part 8. -/
set_option maxRecDepth 1000000
set_option linter.unusedVariables false
namespace Go.Sx
noncomputable section
theorem cqA128 : CqA 128 ca0 ca1 := CqA.of fun t R K => by kernel_rfl
theorem cqA129 : CqA 129 ca1 ca2 := CqA.of fun t R K => by kernel_rfl
theorem cqA130 : CqA 130 ca2 ca3 := CqA.of fun t R K => by kernel_rfl
theorem cqA131 : CqA 131 ca3 ca4 := CqA.of fun t R K => by kernel_rfl
theorem cqA132 : CqA 132 ca4 ca5 := CqA.of fun t R K => by kernel_rfl
theorem cqA133 : CqA 133 ca5 ca6 := CqA.of fun t R K => by kernel_rfl
theorem cqA134 : CqA 134 ca6 ca7 := CqA.of fun t R K => by kernel_rfl
theorem cqA135 : CqA 135 ca7 ca8 := CqA.of fun t R K => by kernel_rfl
theorem cqA136 : CqA 136 ca8 ca9 := CqA.of fun t R K => by kernel_rfl
theorem cqA137 : CqA 137 ca9 ca10 := CqA.of fun t R K => by kernel_rfl
theorem cqA138 : CqA 138 ca10 ca11 := CqA.of fun t R K => by kernel_rfl
theorem cqA139 : CqA 139 ca11 ca12 := CqA.of fun t R K => by kernel_rfl
theorem cqA140 : CqA 140 ca12 ca13 := CqA.of fun t R K => by kernel_rfl
theorem cqA141 : CqA 141 ca13 ca14 := CqA.of fun t R K => by kernel_rfl
theorem cqA142 : CqA 142 ca14 ca15 := CqA.of fun t R K => by kernel_rfl
theorem cqA143 : CqA 143 ca15 ca16 := CqA.of fun t R K => by kernel_rfl
end
end Go.Sx

/- CoreQueries: the switch on each bank: part 9. -/
set_option maxRecDepth 1000000
set_option linter.unusedVariables false
namespace Go.Sx
noncomputable section
theorem cqA144 : CqA 144 ca16 ca17 := CqA.of fun t R K => by kernel_rfl
theorem cqA145 : CqA 145 ca17 ca18 := CqA.of fun t R K => by kernel_rfl
theorem cqA146 : CqA 146 ca18 ca19 := CqA.of fun t R K => by kernel_rfl
theorem cqA147 : CqA 147 ca19 ca20 := CqA.of fun t R K => by kernel_rfl
theorem cqA148 : CqA 148 ca20 ca21 := CqA.of fun t R K => by kernel_rfl
theorem cqA149 : CqA 149 ca21 ca22 := CqA.of fun t R K => by kernel_rfl
theorem cqA150 : CqA 150 ca22 ca23 := CqA.of fun t R K => by kernel_rfl
theorem cqA151 : CqA 151 ca23 ca24 := CqA.of fun t R K => by kernel_rfl
theorem cqA152 : CqA 152 ca24 ca25 := CqA.of fun t R K => by kernel_rfl
theorem cqA153 : CqA 153 ca25 ca26 := CqA.of fun t R K => by kernel_rfl
theorem cqA154 : CqA 154 ca26 ca27 := CqA.of fun t R K => by kernel_rfl
theorem cqA155 : CqA 155 ca27 ca28 := CqA.of fun t R K => by kernel_rfl
theorem cqA156 : CqA 156 ca28 ca29 := CqA.of fun t R K => by kernel_rfl
theorem cqA157 : CqA 157 ca29 ca30 := CqA.of fun t R K => by kernel_rfl
theorem cqA158 : CqA 158 ca30 ca31 := CqA.of fun t R K => by kernel_rfl
theorem cqA159 : CqA 159 ca31 ca0 := CqA.of fun t R K => by kernel_rfl
end
end Go.Sx
