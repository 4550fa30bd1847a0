/- CoreQueries: each terminal is asked what it counts when the switch begins, when its power is back, and at each so-manieth tick; true for every k and ticks. Part Ge0 of the proof. Condition: the listed package variables hold what the program's text lays. -/
import Derived.Test.YtncpkgjihijjhaaGreatDoorGd
set_option linter.unusedVariables false
set_option linter.unusedSimpArgs false
noncomputable section
/- CoreQueries: the last ticks, and what was said: part 0. -/
set_option maxRecDepth 1000000
set_option linter.unusedVariables false
namespace Go.Sx
noncomputable section
theorem cqE0 : CqE 1 0 cq_L0 := CqE.of fun t0 t1 ps fl R m k => by kernel_rfl
theorem cqE4 : CqE 1 4 cq_L4 := CqE.of fun t0 t1 ps fl R m k => by kernel_rfl
theorem cqE8 : CqE 1 8 cq_L8 := CqE.of fun t0 t1 ps fl R m k => by kernel_rfl
theorem cqE12 : CqE 1 12 cq_L12 := CqE.of fun t0 t1 ps fl R m k => by kernel_rfl
theorem cqE16 : CqE 1 16 cq_L16 := CqE.of fun t0 t1 ps fl R m k => by kernel_rfl
theorem cqE20 : CqE 1 20 cq_L20 := CqE.of fun t0 t1 ps fl R m k => by kernel_rfl
theorem cqE24 : CqE 1 24 cq_L24 := CqE.of fun t0 t1 ps fl R m k => by kernel_rfl
theorem cqE28 : CqE 1 28 cq_L28 := CqE.of fun t0 t1 ps fl R m k => by kernel_rfl
theorem cqE32 : CqE 1 32 cq_L32 := CqE.of fun t0 t1 ps fl R m k => by kernel_rfl
theorem cqE36 : CqE 1 36 cq_L36 := CqE.of fun t0 t1 ps fl R m k => by kernel_rfl
end
end Go.Sx
