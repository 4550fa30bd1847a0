/- CoreQueries: each terminal is asked what it counts when the switch begins, when its power is back, and at each so-manieth tick; true for every k and ticks. Part Gb5 of the proof. Condition: the listed package variables hold what the program's text lays. -/
import Derived.Test.YtncpkgjihijjhaaGreatDoorGd
set_option linter.unusedVariables false
set_option linter.unusedSimpArgs false
noncomputable section
/- CoreQueries: the switch on each bank: part 10. -/
set_option maxRecDepth 1000000
set_option linter.unusedVariables false
namespace Go.Sx
noncomputable section
theorem cqA160 : CqA 160 ca0 ca1 := CqA.of fun t R K => by kernel_rfl
theorem cqA161 : CqA 161 ca1 ca2 := CqA.of fun t R K => by kernel_rfl
theorem cqA162 : CqA 162 ca2 ca3 := CqA.of fun t R K => by kernel_rfl
theorem cqA163 : CqA 163 ca3 ca4 := CqA.of fun t R K => by kernel_rfl
theorem cqA164 : CqA 164 ca4 ca5 := CqA.of fun t R K => by kernel_rfl
theorem cqA165 : CqA 165 ca5 ca6 := CqA.of fun t R K => by kernel_rfl
theorem cqA166 : CqA 166 ca6 ca7 := CqA.of fun t R K => by kernel_rfl
theorem cqA167 : CqA 167 ca7 ca8 := CqA.of fun t R K => by kernel_rfl
theorem cqA168 : CqA 168 ca8 ca9 := CqA.of fun t R K => by kernel_rfl
theorem cqA169 : CqA 169 ca9 ca10 := CqA.of fun t R K => by kernel_rfl
theorem cqA170 : CqA 170 ca10 ca11 := CqA.of fun t R K => by kernel_rfl
theorem cqA171 : CqA 171 ca11 ca12 := CqA.of fun t R K => by kernel_rfl
theorem cqA172 : CqA 172 ca12 ca13 := CqA.of fun t R K => by kernel_rfl
theorem cqA173 : CqA 173 ca13 ca14 := CqA.of fun t R K => by kernel_rfl
theorem cqA174 : CqA 174 ca14 ca15 := CqA.of fun t R K => by kernel_rfl
theorem cqA175 : CqA 175 ca15 ca16 := CqA.of fun t R K => by kernel_rfl
end
end Go.Sx

/- CoreQueries: the switch on each bank: part 11. -/
set_option maxRecDepth 1000000
set_option linter.unusedVariables false
namespace Go.Sx
noncomputable section
theorem cqA176 : CqA 176 ca16 ca17 := CqA.of fun t R K => by kernel_rfl
theorem cqA177 : CqA 177 ca17 ca18 := CqA.of fun t R K => by kernel_rfl
theorem cqA178 : CqA 178 ca18 ca19 := CqA.of fun t R K => by kernel_rfl
theorem cqA179 : CqA 179 ca19 ca20 := CqA.of fun t R K => by kernel_rfl
theorem cqA180 : CqA 180 ca20 ca21 := CqA.of fun t R K => by kernel_rfl
theorem cqA181 : CqA 181 ca21 ca22 := CqA.of fun t R K => by kernel_rfl
theorem cqA182 : CqA 182 ca22 ca23 := CqA.of fun t R K => by kernel_rfl
theorem cqA183 : CqA 183 ca23 ca24 := CqA.of fun t R K => by kernel_rfl
theorem cqA184 : CqA 184 ca24 ca25 := CqA.of fun t R K => by kernel_rfl
theorem cqA185 : CqA 185 ca25 ca26 := CqA.of fun t R K => by kernel_rfl
theorem cqA186 : CqA 186 ca26 ca27 := CqA.of fun t R K => by kernel_rfl
theorem cqA187 : CqA 187 ca27 ca28 := CqA.of fun t R K => by kernel_rfl
theorem cqA188 : CqA 188 ca28 ca29 := CqA.of fun t R K => by kernel_rfl
theorem cqA189 : CqA 189 ca29 ca30 := CqA.of fun t R K => by kernel_rfl
theorem cqA190 : CqA 190 ca30 ca31 := CqA.of fun t R K => by kernel_rfl
theorem cqA191 : CqA 191 ca31 ca0 := CqA.of fun t R K => by kernel_rfl
end
end Go.Sx
