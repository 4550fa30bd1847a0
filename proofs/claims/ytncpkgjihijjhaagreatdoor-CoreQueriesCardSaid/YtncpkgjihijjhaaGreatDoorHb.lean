/- CoreQueries: each terminal is asked what it counts when the switch begins, when its power is back, and at each so-manieth tick; true for every k and ticks. Part Hb of the proof. Condition: the listed package variables hold what the program's text lays. -/
import Derived.Test.YtncpkgjihijjhaaGreatDoorRows
import Derived.Test.YtncpkgjihijjhaaGreatDoorTie
import Derived.Test.YtncpkgjihijjhaaGreatDoorCards
import Derived.ProofKit
import Derived.Stop.Joined
import Derived.SevenTiedAt
import Derived.KernelRfl
set_option linter.unusedVariables false
set_option linter.unusedSimpArgs false
set_option maxRecDepth 1000000
namespace Go.Proofs.YtncpkgjihijjhaaGreatDoor.coreQueries
theorem goes8 : false = Rows.coreQueriesRow.goesBy Tryz.prog := by kernel_rfl
theorem looks8 : true = Tryz.prog.looks [] := by kernel_rfl
theorem main8 : Tryz.prog.mainIs = some (true, "5b5e34ec174498402338a17ba591f67ae7b05fd02a0c5930ae9b4cd0a0ef4fd1".toList) := by kernel_rfl
theorem wf8 : Rows.coreQueriesRow.wfByText (OpenSpec.ofChange Rows.coreQueriesSpec) = true := by kernel_rfl
theorem stand8 : ([5, 5].all fun u => !Tryz.prog.wantsStandIn u) = true := by kernel_rfl
theorem named8 : Tryz.prog.funcNamed "guichet/guichetlaw27.CoreQueries" = some 8 := by kernel_rfl
theorem instance8 : Tryz.f8.isInstance Tryz.prog Rows.coreQueriesRow.origin Rows.coreQueriesRow.targs := of_decide_eq_true (by kernel_rfl)
theorem wrapper8 : Tryz.f8.isWrapper Tryz.prog Rows.coreQueriesRow.wrapper Rows.coreQueriesRow.mainSum := by unfold Func.isWrapper; first | (rw [if_pos (by decide +kernel)]; kernel_rfl) | (rw [if_neg (by decide +kernel)]; exact ⟨rfl, rfl⟩)
end Go.Proofs.YtncpkgjihijjhaaGreatDoor.coreQueries
