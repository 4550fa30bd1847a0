/- CoreQueries: each terminal is asked what it counts when the switch begins, when its power is back, and at each so-manieth tick; true for every k and ticks. Part Gb6 of the proof. Condition: the listed package variables hold what the program's text lays. -/
import Derived.Test.YtncpkgjihijjhaaGreatDoorGd
set_option linter.unusedVariables false
set_option linter.unusedSimpArgs false
noncomputable section
/- CoreQueries: the switch on each bank: part 12. -/
set_option maxRecDepth 1000000
set_option linter.unusedVariables false
namespace Go.Sx
noncomputable section
theorem cqA192 : CqA 192 ca0 ca1 := CqA.of fun t R K => by kernel_rfl
theorem cqA193 : CqA 193 ca1 ca2 := CqA.of fun t R K => by kernel_rfl
theorem cqA194 : CqA 194 ca2 ca3 := CqA.of fun t R K => by kernel_rfl
theorem cqA195 : CqA 195 ca3 ca4 := CqA.of fun t R K => by kernel_rfl
theorem cqA196 : CqA 196 ca4 ca5 := CqA.of fun t R K => by kernel_rfl
theorem cqA197 : CqA 197 ca5 ca6 := CqA.of fun t R K => by kernel_rfl
theorem cqA198 : CqA 198 ca6 ca7 := CqA.of fun t R K => by kernel_rfl
theorem cqA199 : CqA 199 ca7 ca8 := CqA.of fun t R K => by kernel_rfl
theorem cqA200 : CqA 200 ca8 ca9 := CqA.of fun t R K => by kernel_rfl
theorem cqA201 : CqA 201 ca9 ca10 := CqA.of fun t R K => by kernel_rfl
theorem cqA202 : CqA 202 ca10 ca11 := CqA.of fun t R K => by kernel_rfl
theorem cqA203 : CqA 203 ca11 ca12 := CqA.of fun t R K => by kernel_rfl
theorem cqA204 : CqA 204 ca12 ca13 := CqA.of fun t R K => by kernel_rfl
theorem cqA205 : CqA 205 ca13 ca14 := CqA.of fun t R K => by kernel_rfl
theorem cqA206 : CqA 206 ca14 ca15 := CqA.of fun t R K => by kernel_rfl
theorem cqA207 : CqA 207 ca15 ca16 := CqA.of fun t R K => by kernel_rfl
end
end Go.Sx

/- CoreQueries: the switch on each bank: part 13. -/
set_option maxRecDepth 1000000
set_option linter.unusedVariables false
namespace Go.Sx
noncomputable section
theorem cqA208 : CqA 208 ca16 ca17 := CqA.of fun t R K => by kernel_rfl
theorem cqA209 : CqA 209 ca17 ca18 := CqA.of fun t R K => by kernel_rfl
theorem cqA210 : CqA 210 ca18 ca19 := CqA.of fun t R K => by kernel_rfl
theorem cqA211 : CqA 211 ca19 ca20 := CqA.of fun t R K => by kernel_rfl
theorem cqA212 : CqA 212 ca20 ca21 := CqA.of fun t R K => by kernel_rfl
theorem cqA213 : CqA 213 ca21 ca22 := CqA.of fun t R K => by kernel_rfl
theorem cqA214 : CqA 214 ca22 ca23 := CqA.of fun t R K => by kernel_rfl
theorem cqA215 : CqA 215 ca23 ca24 := CqA.of fun t R K => by kernel_rfl
theorem cqA216 : CqA 216 ca24 ca25 := CqA.of fun t R K => by kernel_rfl
theorem cqA217 : CqA 217 ca25 ca26 := CqA.of fun t R K => by kernel_rfl
theorem cqA218 : CqA 218 ca26 ca27 := CqA.of fun t R K => by kernel_rfl
theorem cqA219 : CqA 219 ca27 ca28 := CqA.of fun t R K => by kernel_rfl
theorem cqA220 : CqA 220 ca28 ca29 := CqA.of fun t R K => by kernel_rfl
theorem cqA221 : CqA 221 ca29 ca30 := CqA.of fun t R K => by kernel_rfl
theorem cqA222 : CqA 222 ca30 ca31 := CqA.of fun t R K => by kernel_rfl
theorem cqA223 : CqA 223 ca31 ca0 := CqA.of fun t R K => by kernel_rfl
end
end Go.Sx
