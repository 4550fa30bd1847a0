/- CoreQueries: each terminal is asked what it counts when the switch begins, when its power is back, and at each so-manieth tick; true for every k and ticks. Part Gr of the proof. Condition: the listed package variables hold what the program's text lays. -/
import Derived.Test.YtncpkgjihijjhaaGreatDoorGd
set_option linter.unusedVariables false
set_option linter.unusedSimpArgs false
noncomputable section
/- CoreQueries: four ticks each. -/
set_option maxRecDepth 1000000
set_option linter.unusedVariables false
namespace Go.Sx
noncomputable section
theorem cqR0 : CqR 0 cq_L0 cq_L4 := CqR.of fun t0 t1 ps fl m R q K => by kernel_rfl
theorem cqR4 : CqR 4 cq_L4 cq_L8 := CqR.of fun t0 t1 ps fl m R q K => by kernel_rfl
theorem cqR8 : CqR 8 cq_L8 cq_L12 := CqR.of fun t0 t1 ps fl m R q K => by kernel_rfl
theorem cqR12 : CqR 12 cq_L12 cq_L16 := CqR.of fun t0 t1 ps fl m R q K => by kernel_rfl
theorem cqR16 : CqR 16 cq_L16 cq_L20 := CqR.of fun t0 t1 ps fl m R q K => by kernel_rfl
theorem cqR20 : CqR 20 cq_L20 cq_L24 := CqR.of fun t0 t1 ps fl m R q K => by kernel_rfl
theorem cqR24 : CqR 24 cq_L24 cq_L28 := CqR.of fun t0 t1 ps fl m R q K => by kernel_rfl
theorem cqR28 : CqR 28 cq_L28 cq_L32 := CqR.of fun t0 t1 ps fl m R q K => by kernel_rfl
theorem cqR32 : CqR 32 cq_L32 cq_L36 := CqR.of fun t0 t1 ps fl m R q K => by kernel_rfl
theorem cqPre (t0 t1 : C4) (ps : List (List Int)) (fl : List Int) (x : Int) : Leads (EV TBQ fr0 60) (preAt (partAt 8 b8.body)) (cq_s8 t0 t1 (.rows false .str ps) (.rows false (.int .i64) fl) x) (cq_L0 t0 t1 (.rows false .str ps) (.rows false (.int .i64) fl) x) := Leads.of fun R K => by kernel_rfl
end
end Go.Sx
