/- CoreQueries: each terminal is asked what it counts when the switch begins, when its power is back, and at each so-manieth tick; true for every k and ticks. Part Ge2 of the proof. Condition: the listed package variables hold what the program's text lays. -/
import Derived.Test.YtncpkgjihijjhaaGreatDoorGd
set_option linter.unusedVariables false
set_option linter.unusedSimpArgs false
noncomputable section
/- CoreQueries: the last ticks, and what was said: part 2. -/
set_option maxRecDepth 1000000
set_option linter.unusedVariables false
namespace Go.Sx
noncomputable section
theorem cqE2 : CqE 3 2 cq_L0 := CqE.of fun t0 t1 ps fl R m k => by kernel_rfl
theorem cqE6 : CqE 3 6 cq_L4 := CqE.of fun t0 t1 ps fl R m k => by kernel_rfl
theorem cqE10 : CqE 3 10 cq_L8 := CqE.of fun t0 t1 ps fl R m k => by kernel_rfl
theorem cqE14 : CqE 3 14 cq_L12 := CqE.of fun t0 t1 ps fl R m k => by kernel_rfl
theorem cqE18 : CqE 3 18 cq_L16 := CqE.of fun t0 t1 ps fl R m k => by kernel_rfl
theorem cqE22 : CqE 3 22 cq_L20 := CqE.of fun t0 t1 ps fl R m k => by kernel_rfl
theorem cqE26 : CqE 3 26 cq_L24 := CqE.of fun t0 t1 ps fl R m k => by kernel_rfl
theorem cqE30 : CqE 3 30 cq_L28 := CqE.of fun t0 t1 ps fl R m k => by kernel_rfl
theorem cqE34 : CqE 3 34 cq_L32 := CqE.of fun t0 t1 ps fl R m k => by kernel_rfl
theorem cqE38 : CqE 3 38 cq_L36 := CqE.of fun t0 t1 ps fl R m k => by kernel_rfl
end
end Go.Sx
