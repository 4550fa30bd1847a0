/-
  DERIVED. GIVEN WITH THE SEED: THE CARDS: each row of YtncpkgjihijjhaaGreatDoorRows.lean that lists a variable, with what it lists TIED to the program's text (the seventh form; the later family's looks); each row that meets fmt, with fmt's text TOLD by the authors' own Lean function (tested against real Go, not proved from fmt's source: count such statements apart). THE CARD IS WHAT COUNTS. Prove the row's statement (the work); the ties are given (YtncpkgjihijjhaaGreatDoorTie.lean); close each card by the builder's one call (the guide's Derived/Test/ToyasCard.lean, 'card_holds'). Laid BY PROGRAM, IN A SANDBOX (cutbox-door.mjs). By AI agents, Wed Nov 11 2026. No macro, syntax, notation, axiom, sorry.
-/
import Derived.Test.YtncpkgjihijjhaaGreatDoorRows
import GoSem.ClaimSeven
namespace Go.Proofs.YtncpkgjihijjhaaGreatDoor
namespace Rows

/-- THE TIED CARD OF 'guichetlaw27.CoreCounts'. -/
def coreCountsCard : Claim7 := { stood := { row := coreCountsRow, standIns := [], harness := (true, "5b5e34ec174498402338a17ba591f67ae7b05fd02a0c5930ae9b4cd0a0ef4fd1"), looks := true }, kinds := [], alts := [], laidByText := true, laidKinds := [.data, .data, .data, .data, .sentinel, .sentinel, .pinned], laidTests := true, laidLooks := .later }
def CoreCountsCardSaid : Prop := Claim7.holds Tryz.pinned (.plain (OpenSpec.ofChange coreCountsSpec)) coreCountsCard

/-- THE TIED CARD OF 'guichetlaw27.CoreJournal'. -/
def coreJournalCard : Claim7 := { stood := { row := coreJournalRow, standIns := [], harness := (true, "5b5e34ec174498402338a17ba591f67ae7b05fd02a0c5930ae9b4cd0a0ef4fd1"), looks := true }, kinds := [], alts := [], laidByText := true, laidKinds := [.data, .data, .data, .data, .sentinel, .sentinel, .pinned], laidTests := true, laidLooks := .later }
def CoreJournalCardSaid : Prop := Claim7.holds Tryz.pinned (.plain (OpenSpec.ofChange coreJournalSpec)) coreJournalCard

/-- THE TIED CARD OF 'guichetlaw27.CoreStale'. -/
def coreStaleCard : Claim7 := { stood := { row := coreStaleRow, standIns := [], harness := (true, "5b5e34ec174498402338a17ba591f67ae7b05fd02a0c5930ae9b4cd0a0ef4fd1"), looks := true }, kinds := [], alts := [], laidByText := true, laidKinds := [.data, .data, .data, .data, .sentinel, .sentinel, .pinned], laidTests := true, laidLooks := .later }
def CoreStaleCardSaid : Prop := Claim7.holds Tryz.pinned (.plain (OpenSpec.ofChange coreStaleSpec)) coreStaleCard

/-- THE TIED CARD OF 'guichetlaw27.CoreFences'. -/
def coreFencesCard : Claim7 := { stood := { row := coreFencesRow, standIns := [], harness := (true, "5b5e34ec174498402338a17ba591f67ae7b05fd02a0c5930ae9b4cd0a0ef4fd1"), looks := true }, kinds := [], alts := [], laidByText := true, laidKinds := [.data, .data, .data, .data, .sentinel, .sentinel, .pinned], laidTests := true, laidLooks := .later }
def CoreFencesCardSaid : Prop := Claim7.holds Tryz.pinned (.plain (OpenSpec.ofChange coreFencesSpec)) coreFencesCard

/-- THE TIED CARD OF 'guichetlaw27.CoreLate'. -/
def coreLateCard : Claim7 := { stood := { row := coreLateRow, standIns := [], harness := (true, "5b5e34ec174498402338a17ba591f67ae7b05fd02a0c5930ae9b4cd0a0ef4fd1"), looks := true }, kinds := [], alts := [], laidByText := true, laidKinds := [.data, .data, .data, .data, .sentinel, .sentinel, .pinned], laidTests := true, laidLooks := .later }
def CoreLateCardSaid : Prop := Claim7.holds Tryz.pinned (.plain (OpenSpec.ofChange coreLateSpec)) coreLateCard

/-- THE TIED CARD OF 'guichetlaw27.CoreQueries'. -/
def coreQueriesCard : Claim7 := { stood := { row := coreQueriesRow, standIns := [], harness := (true, "5b5e34ec174498402338a17ba591f67ae7b05fd02a0c5930ae9b4cd0a0ef4fd1"), looks := true }, kinds := [], alts := [], laidByText := true, laidKinds := [.data, .data, .data, .data, .sentinel, .sentinel, .pinned], laidTests := true, laidLooks := .later }
def CoreQueriesCardSaid : Prop := Claim7.holds Tryz.pinned (.plain (OpenSpec.ofChange coreQueriesSpec)) coreQueriesCard

/-- THE TIED CARD OF 'guichetlaw27.CoreAnswers'. -/
def coreAnswersCard : Claim7 := { stood := { row := coreAnswersRow, standIns := [], harness := (true, "5b5e34ec174498402338a17ba591f67ae7b05fd02a0c5930ae9b4cd0a0ef4fd1"), looks := true }, kinds := [], alts := [], laidByText := true, laidKinds := [.data, .data, .data, .data, .sentinel, .sentinel, .pinned], laidTests := true, laidLooks := .later }
def CoreAnswersCardSaid : Prop := Claim7.holds Tryz.pinned (.plain (OpenSpec.ofChange coreAnswersSpec)) coreAnswersCard

/-- THE TIED CARD OF 'guichetlaw27.CoreStatus'. -/
def coreStatusCard : Claim7 := { stood := { row := coreStatusRow, standIns := [], harness := (true, "5b5e34ec174498402338a17ba591f67ae7b05fd02a0c5930ae9b4cd0a0ef4fd1"), looks := true }, kinds := [], alts := [], laidByText := true, laidKinds := [.data, .data, .data, .data, .sentinel, .sentinel, .pinned], laidTests := true, laidLooks := .later }
def CoreStatusCardSaid : Prop := Claim7.holds Tryz.pinned (.plain (OpenSpec.ofChange coreStatusSpec)) coreStatusCard

/-- THE SECOND FORM's CARD OF 'guichetlaw27.CoreCounts'. -/
def coreCountsUptoCard : Claim7 := { stood := { row := coreCountsUptoRow, standIns := [], harness := (true, "5b5e34ec174498402338a17ba591f67ae7b05fd02a0c5930ae9b4cd0a0ef4fd1"), looks := true }, kinds := [], alts := [], laidByText := true, laidKinds := [.data, .data, .data, .data, .sentinel, .sentinel, .pinned], laidTests := true, laidLooks := .later }
def CoreCountsUptoCardSaid : Prop := Claim7.holds Tryz.pinned (.plain (OpenSpec.upto coreCountsSpec)) coreCountsUptoCard

/-- THE SECOND FORM's CARD OF 'guichetlaw27.CoreJournal'. -/
def coreJournalUptoCard : Claim7 := { stood := { row := coreJournalUptoRow, standIns := [], harness := (true, "5b5e34ec174498402338a17ba591f67ae7b05fd02a0c5930ae9b4cd0a0ef4fd1"), looks := true }, kinds := [], alts := [], laidByText := true, laidKinds := [.data, .data, .data, .data, .sentinel, .sentinel, .pinned], laidTests := true, laidLooks := .later }
def CoreJournalUptoCardSaid : Prop := Claim7.holds Tryz.pinned (.plain (OpenSpec.upto coreJournalSpec)) coreJournalUptoCard

/-- THE SECOND FORM's CARD OF 'guichetlaw27.CoreStale'. -/
def coreStaleUptoCard : Claim7 := { stood := { row := coreStaleUptoRow, standIns := [], harness := (true, "5b5e34ec174498402338a17ba591f67ae7b05fd02a0c5930ae9b4cd0a0ef4fd1"), looks := true }, kinds := [], alts := [], laidByText := true, laidKinds := [.data, .data, .data, .data, .sentinel, .sentinel, .pinned], laidTests := true, laidLooks := .later }
def CoreStaleUptoCardSaid : Prop := Claim7.holds Tryz.pinned (.plain (OpenSpec.upto coreStaleSpec)) coreStaleUptoCard

/-- THE SECOND FORM's CARD OF 'guichetlaw27.CoreFences'. -/
def coreFencesUptoCard : Claim7 := { stood := { row := coreFencesUptoRow, standIns := [], harness := (true, "5b5e34ec174498402338a17ba591f67ae7b05fd02a0c5930ae9b4cd0a0ef4fd1"), looks := true }, kinds := [], alts := [], laidByText := true, laidKinds := [.data, .data, .data, .data, .sentinel, .sentinel, .pinned], laidTests := true, laidLooks := .later }
def CoreFencesUptoCardSaid : Prop := Claim7.holds Tryz.pinned (.plain (OpenSpec.upto coreFencesSpec)) coreFencesUptoCard

/-- THE SECOND FORM's CARD OF 'guichetlaw27.CoreLate'. -/
def coreLateUptoCard : Claim7 := { stood := { row := coreLateUptoRow, standIns := [], harness := (true, "5b5e34ec174498402338a17ba591f67ae7b05fd02a0c5930ae9b4cd0a0ef4fd1"), looks := true }, kinds := [], alts := [], laidByText := true, laidKinds := [.data, .data, .data, .data, .sentinel, .sentinel, .pinned], laidTests := true, laidLooks := .later }
def CoreLateUptoCardSaid : Prop := Claim7.holds Tryz.pinned (.plain (OpenSpec.upto coreLateSpec)) coreLateUptoCard

/-- THE SECOND FORM's CARD OF 'guichetlaw27.CoreQueries'. -/
def coreQueriesUptoCard : Claim7 := { stood := { row := coreQueriesUptoRow, standIns := [], harness := (true, "5b5e34ec174498402338a17ba591f67ae7b05fd02a0c5930ae9b4cd0a0ef4fd1"), looks := true }, kinds := [], alts := [], laidByText := true, laidKinds := [.data, .data, .data, .data, .sentinel, .sentinel, .pinned], laidTests := true, laidLooks := .later }
def CoreQueriesUptoCardSaid : Prop := Claim7.holds Tryz.pinned (.plain (OpenSpec.upto coreQueriesSpec)) coreQueriesUptoCard

/-- THE SECOND FORM's CARD OF 'guichetlaw27.CoreAnswers'. -/
def coreAnswersUptoCard : Claim7 := { stood := { row := coreAnswersUptoRow, standIns := [], harness := (true, "5b5e34ec174498402338a17ba591f67ae7b05fd02a0c5930ae9b4cd0a0ef4fd1"), looks := true }, kinds := [], alts := [], laidByText := true, laidKinds := [.data, .data, .data, .data, .sentinel, .sentinel, .pinned], laidTests := true, laidLooks := .later }
def CoreAnswersUptoCardSaid : Prop := Claim7.holds Tryz.pinned (.plain (OpenSpec.upto coreAnswersSpec)) coreAnswersUptoCard

/-- THE SECOND FORM's CARD OF 'guichetlaw27.CoreStatus'. -/
def coreStatusUptoCard : Claim7 := { stood := { row := coreStatusUptoRow, standIns := [], harness := (true, "5b5e34ec174498402338a17ba591f67ae7b05fd02a0c5930ae9b4cd0a0ef4fd1"), looks := true }, kinds := [], alts := [], laidByText := true, laidKinds := [.data, .data, .data, .data, .sentinel, .sentinel, .pinned], laidTests := true, laidLooks := .later }
def CoreStatusUptoCardSaid : Prop := Claim7.holds Tryz.pinned (.plain (OpenSpec.upto coreStatusSpec)) coreStatusUptoCard
end Rows
end Go.Proofs.YtncpkgjihijjhaaGreatDoor
