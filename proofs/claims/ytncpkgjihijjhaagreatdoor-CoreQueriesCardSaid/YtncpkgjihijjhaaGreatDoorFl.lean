/- CoreQueries: each terminal is asked what it counts when the switch begins, when its power is back, and at each so-manieth tick; true for every k and ticks. Part Fl of the proof. Condition: the listed package variables hold what the program's text lays. -/
import Derived.Test.YtncpkgjihijjhaaGreatDoorFk
set_option linter.unusedVariables false
set_option linter.unusedSimpArgs false
noncomputable section
/- A run in parts: proofs. -/
set_option maxRecDepth 1000000
set_option linter.unusedVariables false
namespace Go.Sx
noncomputable section
theorem knw_p6  : Leads (EV TBK fr0 60) (.seq (partAt 6 b11.body) (.cut [0, 1, 3, 4])) (knw_s6 ) (knw_s7 ) := Leads.of fun R K => by kernel_rfl
end
end Go.Sx
