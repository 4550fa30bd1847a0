/- CoreQueries: each terminal is asked what it counts when the switch begins, when its power is back, and at each so-manieth tick; true for every k and ticks. Part Gb7 of the proof. Condition: the listed package variables hold what the program's text lays. -/
import Derived.Test.YtncpkgjihijjhaaGreatDoorGd
set_option linter.unusedVariables false
set_option linter.unusedSimpArgs false
noncomputable section
/- CoreQueries: the switch on each bank: part 14. -/
set_option maxRecDepth 1000000
set_option linter.unusedVariables false
namespace Go.Sx
noncomputable section
theorem cqA224 : CqA 224 ca0 ca1 := CqA.of fun t R K => by kernel_rfl
theorem cqA225 : CqA 225 ca1 ca2 := CqA.of fun t R K => by kernel_rfl
theorem cqA226 : CqA 226 ca2 ca3 := CqA.of fun t R K => by kernel_rfl
theorem cqA227 : CqA 227 ca3 ca4 := CqA.of fun t R K => by kernel_rfl
theorem cqA228 : CqA 228 ca4 ca5 := CqA.of fun t R K => by kernel_rfl
theorem cqA229 : CqA 229 ca5 ca6 := CqA.of fun t R K => by kernel_rfl
theorem cqA230 : CqA 230 ca6 ca7 := CqA.of fun t R K => by kernel_rfl
theorem cqA231 : CqA 231 ca7 ca8 := CqA.of fun t R K => by kernel_rfl
theorem cqA232 : CqA 232 ca8 ca9 := CqA.of fun t R K => by kernel_rfl
theorem cqA233 : CqA 233 ca9 ca10 := CqA.of fun t R K => by kernel_rfl
theorem cqA234 : CqA 234 ca10 ca11 := CqA.of fun t R K => by kernel_rfl
theorem cqA235 : CqA 235 ca11 ca12 := CqA.of fun t R K => by kernel_rfl
theorem cqA236 : CqA 236 ca12 ca13 := CqA.of fun t R K => by kernel_rfl
theorem cqA237 : CqA 237 ca13 ca14 := CqA.of fun t R K => by kernel_rfl
theorem cqA238 : CqA 238 ca14 ca15 := CqA.of fun t R K => by kernel_rfl
theorem cqA239 : CqA 239 ca15 ca16 := CqA.of fun t R K => by kernel_rfl
end
end Go.Sx

/- CoreQueries: the switch on each bank: part 15. -/
set_option maxRecDepth 1000000
set_option linter.unusedVariables false
namespace Go.Sx
noncomputable section
theorem cqA240 : CqA 240 ca16 ca17 := CqA.of fun t R K => by kernel_rfl
theorem cqA241 : CqA 241 ca17 ca18 := CqA.of fun t R K => by kernel_rfl
theorem cqA242 : CqA 242 ca18 ca19 := CqA.of fun t R K => by kernel_rfl
theorem cqA243 : CqA 243 ca19 ca20 := CqA.of fun t R K => by kernel_rfl
theorem cqA244 : CqA 244 ca20 ca21 := CqA.of fun t R K => by kernel_rfl
theorem cqA245 : CqA 245 ca21 ca22 := CqA.of fun t R K => by kernel_rfl
theorem cqA246 : CqA 246 ca22 ca23 := CqA.of fun t R K => by kernel_rfl
theorem cqA247 : CqA 247 ca23 ca24 := CqA.of fun t R K => by kernel_rfl
theorem cqA248 : CqA 248 ca24 ca25 := CqA.of fun t R K => by kernel_rfl
theorem cqA249 : CqA 249 ca25 ca26 := CqA.of fun t R K => by kernel_rfl
theorem cqA250 : CqA 250 ca26 ca27 := CqA.of fun t R K => by kernel_rfl
theorem cqA251 : CqA 251 ca27 ca28 := CqA.of fun t R K => by kernel_rfl
theorem cqA252 : CqA 252 ca28 ca29 := CqA.of fun t R K => by kernel_rfl
theorem cqA253 : CqA 253 ca29 ca30 := CqA.of fun t R K => by kernel_rfl
theorem cqA254 : CqA 254 ca30 ca31 := CqA.of fun t R K => by kernel_rfl
theorem cqA255 : CqA 255 ca31 ca0 := CqA.of fun t R K => by kernel_rfl
end
end Go.Sx
