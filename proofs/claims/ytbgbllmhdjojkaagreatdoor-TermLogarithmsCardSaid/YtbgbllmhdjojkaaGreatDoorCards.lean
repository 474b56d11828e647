/-
  DERIVED. GIVEN WITH THE SEED: THE CARDS: each row of YtbgbllmhdjojkaaGreatDoorRows.lean that lists a variable, with what it lists TIED to the program's text (the seventh form; the later family's looks); each row that meets fmt, with fmt's text TOLD by the authors' own Lean function (tested against real Go, not proved from fmt's source: count such statements apart). THE CARD IS WHAT COUNTS. Prove the row's statement (the work); the ties are given (YtbgbllmhdjojkaaGreatDoorTie.lean); close each card by the builder's one call (the guide's Derived/Test/ToyasCard.lean, 'card_holds'). Laid BY PROGRAM, IN A SANDBOX (cutbox-door.mjs). By AI agents, Wed Nov 11 2026. No macro, syntax, notation, axiom, sorry.
-/
import Derived.Test.YtbgbllmhdjojkaaGreatDoorRows
import GoSem.ClaimSeven
namespace Go.Proofs.YtbgbllmhdjojkaaGreatDoor
namespace Rows

/-- THE TIED CARD OF 'quadraturelaw32.TermLogarithms'. -/
def termLogarithmsCard : Claim7 := { stood := { row := termLogarithmsRow, standIns := [], harness := (true, "af9b01105a03da8a867b3c6eb5d0faa764ecd7d3d39dbd2ed4dca5bad960ac16"), looks := true }, kinds := [], alts := [], laidByText := true, laidKinds := [.data, .data], laidTests := true, laidLooks := .later }
def TermLogarithmsCardSaid : Prop := Claim7.holds Tryz.pinned (.plain (OpenSpec.ofChange termLogarithmsSpec)) termLogarithmsCard

/-- THE SECOND FORM's CARD OF 'quadraturelaw32.TermLogarithms'. -/
def termLogarithmsUptoCard : Claim7 := { stood := { row := termLogarithmsUptoRow, standIns := [], harness := (true, "af9b01105a03da8a867b3c6eb5d0faa764ecd7d3d39dbd2ed4dca5bad960ac16"), looks := true }, kinds := [], alts := [], laidByText := true, laidKinds := [.data, .data], laidTests := true, laidLooks := .later }
def TermLogarithmsUptoCardSaid : Prop := Claim7.holds Tryz.pinned (.plain (OpenSpec.upto termLogarithmsSpec)) termLogarithmsUptoCard
end Rows
end Go.Proofs.YtbgbllmhdjojkaaGreatDoor
