/- CoreQueries: each terminal is asked what it counts when the switch begins, when its power is back, and at each so-manieth tick; true for every k and ticks. Part Ge1 of the proof. Condition: the listed package variables hold what the program's text lays. -/
import Derived.Test.YtncpkgjihijjhaaGreatDoorGd
set_option linter.unusedVariables false
set_option linter.unusedSimpArgs false
noncomputable section
/- CoreQueries: the last ticks, and what was said: part 1. -/
set_option maxRecDepth 1000000
set_option linter.unusedVariables false
namespace Go.Sx
noncomputable section
theorem cqE1 : CqE 2 1 cq_L0 := CqE.of fun t0 t1 ps fl R m k => by kernel_rfl
theorem cqE5 : CqE 2 5 cq_L4 := CqE.of fun t0 t1 ps fl R m k => by kernel_rfl
theorem cqE9 : CqE 2 9 cq_L8 := CqE.of fun t0 t1 ps fl R m k => by kernel_rfl
theorem cqE13 : CqE 2 13 cq_L12 := CqE.of fun t0 t1 ps fl R m k => by kernel_rfl
theorem cqE17 : CqE 2 17 cq_L16 := CqE.of fun t0 t1 ps fl R m k => by kernel_rfl
theorem cqE21 : CqE 2 21 cq_L20 := CqE.of fun t0 t1 ps fl R m k => by kernel_rfl
theorem cqE25 : CqE 2 25 cq_L24 := CqE.of fun t0 t1 ps fl R m k => by kernel_rfl
theorem cqE29 : CqE 2 29 cq_L28 := CqE.of fun t0 t1 ps fl R m k => by kernel_rfl
theorem cqE33 : CqE 2 33 cq_L32 := CqE.of fun t0 t1 ps fl R m k => by kernel_rfl
theorem cqE37 : CqE 2 37 cq_L36 := CqE.of fun t0 t1 ps fl R m k => by kernel_rfl
end
end Go.Sx
