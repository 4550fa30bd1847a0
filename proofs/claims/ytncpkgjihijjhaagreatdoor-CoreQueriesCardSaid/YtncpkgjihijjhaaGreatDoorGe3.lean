/- CoreQueries: each terminal is asked what it counts when the switch begins, when its power is back, and at each so-manieth tick; true for every k and ticks. Part Ge3 of the proof. Condition: the listed package variables hold what the program's text lays. -/
import Derived.Test.YtncpkgjihijjhaaGreatDoorGd
set_option linter.unusedVariables false
set_option linter.unusedSimpArgs false
noncomputable section
/- CoreQueries: the last ticks, and what was said: part 3. -/
set_option maxRecDepth 1000000
set_option linter.unusedVariables false
namespace Go.Sx
noncomputable section
theorem cqE3 : CqE 4 3 cq_L0 := CqE.of fun t0 t1 ps fl R m k => by kernel_rfl
theorem cqE7 : CqE 4 7 cq_L4 := CqE.of fun t0 t1 ps fl R m k => by kernel_rfl
theorem cqE11 : CqE 4 11 cq_L8 := CqE.of fun t0 t1 ps fl R m k => by kernel_rfl
theorem cqE15 : CqE 4 15 cq_L12 := CqE.of fun t0 t1 ps fl R m k => by kernel_rfl
theorem cqE19 : CqE 4 19 cq_L16 := CqE.of fun t0 t1 ps fl R m k => by kernel_rfl
theorem cqE23 : CqE 4 23 cq_L20 := CqE.of fun t0 t1 ps fl R m k => by kernel_rfl
theorem cqE27 : CqE 4 27 cq_L24 := CqE.of fun t0 t1 ps fl R m k => by kernel_rfl
theorem cqE31 : CqE 4 31 cq_L28 := CqE.of fun t0 t1 ps fl R m k => by kernel_rfl
theorem cqE35 : CqE 4 35 cq_L32 := CqE.of fun t0 t1 ps fl R m k => by kernel_rfl
theorem cqE39 : CqE 4 39 cq_L36 := CqE.of fun t0 t1 ps fl R m k => by kernel_rfl
end
end Go.Sx
