/- CoreQueries: each terminal is asked what it counts when the switch begins, when its power is back, and at each so-manieth tick; true for every k and ticks. Part Ha of the proof. Condition: the listed package variables hold what the program's text lays. -/
import Derived.Test.YtncpkgjihijjhaaGreatDoorRows
import Derived.Test.YtncpkgjihijjhaaGreatDoorTie
import Derived.Test.YtncpkgjihijjhaaGreatDoorCards
import Derived.ProofKit
import Derived.Stop.Joined
import Derived.SevenTiedAt
import Derived.KernelRfl
set_option linter.unusedVariables false
set_option linter.unusedSimpArgs false
set_option maxRecDepth 1000000
namespace Go.Proofs.YtncpkgjihijjhaaGreatDoor.coreQueries
theorem inPlace8 : Tryz.prog.inPlace 8 = Rows.coreQueriesRow.inPlace := by kernel_rfl
theorem unfollowed8 : Tryz.prog.unfollowed 8 = true := by kernel_rfl
theorem recurses8 : Tryz.prog.recurses 8 = true := by kernel_rfl
theorem varsNamed8 : Tryz.prog.varsNamed 8 = Rows.coreQueriesRow.named := by kernel_rfl
theorem closed8 : joinedFacts Tryz.prog 8 Tryz.f8 Rows.coreQueriesSpec Rows.coreQueriesRow = true := by
  unfold joinedFacts
  rw [inPlace8, unfollowed8, recurses8, varsNamed8]
  kernel_rfl
end Go.Proofs.YtncpkgjihijjhaaGreatDoor.coreQueries
