/-
  DERIVED. GIVEN WITH THE SEED: THE CARDS: each row of YtafkenbfgmlkkaaGreatDoorRows.lean that lists a variable, with what it lists TIED to the program's text (the seventh form; the later family's looks); each row that meets fmt, with fmt's text TOLD by the authors' own Lean function (tested against real Go, not proved from fmt's source: count such statements apart). THE CARD IS WHAT COUNTS. Prove the row's statement (the work); the ties are given (YtafkenbfgmlkkaaGreatDoorTie.lean); close each card by the builder's one call (the guide's Derived/Test/ToyasCard.lean, 'card_holds'). Laid BY PROGRAM, IN A SANDBOX (cutbox-door.mjs). By AI agents, Wed Nov 11 2026. No macro, syntax, notation, axiom, sorry.
-/
import Derived.Test.YtafkenbfgmlkkaaGreatDoorRows
import GoSem.ClaimSeven
namespace Go.Proofs.YtafkenbfgmlkkaaGreatDoor
namespace Rows

/-- THE TIED CARD OF 'decklelaw14.NotationNests'. -/
def notationNestsCard : Claim7 := { stood := { row := notationNestsRow, standIns := [], harness := (true, "7b88449ac5c847e592580f86318c85c6a55763bb3299695948bd29fb59656934"), looks := true }, kinds := [], alts := [], laidByText := true, laidKinds := [.data, .data, .data, .data, .sentinel, .sentinel, .pinned], laidTests := true, laidLooks := .later }
def NotationNestsCardSaid : Prop := Claim7.holds Tryz.pinned (.plain (OpenSpec.ofChange notationNestsSpec)) notationNestsCard

/-- THE TIED CARD OF 'decklelaw14.NotationRows'. -/
def notationRowsCard : Claim7 := { stood := { row := notationRowsRow, standIns := [], harness := (true, "7b88449ac5c847e592580f86318c85c6a55763bb3299695948bd29fb59656934"), looks := true }, kinds := [], alts := [], laidByText := true, laidKinds := [.data, .data, .data, .data, .sentinel, .sentinel, .pinned], laidTests := true, laidLooks := .later }
def NotationRowsCardSaid : Prop := Claim7.holds Tryz.pinned (.plain (OpenSpec.ofChange notationRowsSpec)) notationRowsCard

/-- THE TIED CARD OF 'decklelaw14.NotationAlone'. -/
def notationAloneCard : Claim7 := { stood := { row := notationAloneRow, standIns := [], harness := (true, "7b88449ac5c847e592580f86318c85c6a55763bb3299695948bd29fb59656934"), looks := true }, kinds := [], alts := [], laidByText := true, laidKinds := [.data, .data, .data, .data, .sentinel, .sentinel, .pinned], laidTests := true, laidLooks := .later }
def NotationAloneCardSaid : Prop := Claim7.holds Tryz.pinned (.plain (OpenSpec.ofChange notationAloneSpec)) notationAloneCard

/-- THE SECOND FORM's CARD OF 'decklelaw14.NotationNests'. -/
def notationNestsUptoCard : Claim7 := { stood := { row := notationNestsUptoRow, standIns := [], harness := (true, "7b88449ac5c847e592580f86318c85c6a55763bb3299695948bd29fb59656934"), looks := true }, kinds := [], alts := [], laidByText := true, laidKinds := [.data, .data, .data, .data, .sentinel, .sentinel, .pinned], laidTests := true, laidLooks := .later }
def NotationNestsUptoCardSaid : Prop := Claim7.holds Tryz.pinned (.plain (OpenSpec.upto notationNestsSpec)) notationNestsUptoCard

/-- THE SECOND FORM's CARD OF 'decklelaw14.NotationRows'. -/
def notationRowsUptoCard : Claim7 := { stood := { row := notationRowsUptoRow, standIns := [], harness := (true, "7b88449ac5c847e592580f86318c85c6a55763bb3299695948bd29fb59656934"), looks := true }, kinds := [], alts := [], laidByText := true, laidKinds := [.data, .data, .data, .data, .sentinel, .sentinel, .pinned], laidTests := true, laidLooks := .later }
def NotationRowsUptoCardSaid : Prop := Claim7.holds Tryz.pinned (.plain (OpenSpec.upto notationRowsSpec)) notationRowsUptoCard

/-- THE SECOND FORM's CARD OF 'decklelaw14.NotationAlone'. -/
def notationAloneUptoCard : Claim7 := { stood := { row := notationAloneUptoRow, standIns := [], harness := (true, "7b88449ac5c847e592580f86318c85c6a55763bb3299695948bd29fb59656934"), looks := true }, kinds := [], alts := [], laidByText := true, laidKinds := [.data, .data, .data, .data, .sentinel, .sentinel, .pinned], laidTests := true, laidLooks := .later }
def NotationAloneUptoCardSaid : Prop := Claim7.holds Tryz.pinned (.plain (OpenSpec.upto notationAloneSpec)) notationAloneUptoCard
end Rows
end Go.Proofs.YtafkenbfgmlkkaaGreatDoor
