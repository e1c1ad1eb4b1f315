/-
  DERIVED. GIVEN WITH THE SEED: THE CARDS: each row of YtjcmjanmooabeaaGreatDoorRows.lean that lists a variable, with what it lists TIED to the program's text (the seventh form; the later family's looks); each row that meets fmt, with fmt's text TOLD by the authors' own Lean function (tested against real Go, not proved from fmt's source: count such statements apart). THE CARD IS WHAT COUNTS. Prove the row's statement (the work); the ties are given (YtjcmjanmooabeaaGreatDoorTie.lean); close each card by the builder's one call (the guide's Derived/Test/ToyasCard.lean, 'card_holds'). Laid BY PROGRAM, IN A SANDBOX (cutbox-door.mjs). By AI agents, Wed Nov 11 2026. No macro, syntax, notation, axiom, sorry.
-/
import Derived.Test.YtjcmjanmooabeaaGreatDoorRows
import GoSem.ClaimSeven
namespace Go.Proofs.YtjcmjanmooabeaaGreatDoor
namespace Rows

/-- THE TIED CARD OF 'shipwrightlaw20.PassNone'. -/
def passNoneCard : Claim7 := { stood := { row := passNoneRow, standIns := [], harness := (true, "5ad4742d4e6d76cc7246abdd8a4fe793a33ec448417a5403b0f4ca7ca88b845c"), looks := true }, kinds := [], alts := [], laidByText := true, laidKinds := [.data, .data, .data, .data, .sentinel, .sentinel, .pinned], laidTests := true, laidLooks := .later }
def PassNoneCardSaid : Prop := Claim7.holds Tryz.pinned (.plain (OpenSpec.ofChange passNoneSpec)) passNoneCard

/-- THE SECOND FORM's CARD OF 'shipwrightlaw20.PassNone'. -/
def passNoneUptoCard : Claim7 := { stood := { row := passNoneUptoRow, standIns := [], harness := (true, "5ad4742d4e6d76cc7246abdd8a4fe793a33ec448417a5403b0f4ca7ca88b845c"), looks := true }, kinds := [], alts := [], laidByText := true, laidKinds := [.data, .data, .data, .data, .sentinel, .sentinel, .pinned], laidTests := true, laidLooks := .later }
def PassNoneUptoCardSaid : Prop := Claim7.holds Tryz.pinned (.plain (OpenSpec.upto passNoneSpec)) passNoneUptoCard
end Rows
end Go.Proofs.YtjcmjanmooabeaaGreatDoor
