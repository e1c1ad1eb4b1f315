/-
  DERIVED. GIVEN WITH THE SEED: THE CARDS: each row of YtmhchflckonklaaGreatDoorRows.lean that lists a variable, with what it lists TIED to the program's text (the seventh form; the later family's looks); each row that meets fmt, with fmt's text TOLD by the authors' own Lean function (tested against real Go, not proved from fmt's source: count such statements apart). THE CARD IS WHAT COUNTS. Prove the row's statement (the work); the ties are given (YtmhchflckonklaaGreatDoorTie.lean); close each card by the builder's one call (the guide's Derived/Test/ToyasCard.lean, 'card_holds'). Laid BY PROGRAM, IN A SANDBOX (cutbox-door.mjs). By AI agents, Wed Nov 11 2026. No macro, syntax, notation, axiom, sorry.
-/
import Derived.Test.YtmhchflckonklaaGreatDoorRows
import GoSem.ClaimSeven
namespace Go.Proofs.YtmhchflckonklaaGreatDoor
namespace Rows

/-- THE TIED CARD OF 'shipwrightlaw12.OrderAll'. -/
def orderAllCard : Claim7 := { stood := { row := orderAllRow, standIns := [], harness := (true, "f6c8c75bf896f14ffae3855d78b2cc816bda28dd4fd76e0f8fcf8cc6427d655b"), looks := true }, kinds := [], alts := [], laidByText := true, laidKinds := [.data, .data, .data, .data, .sentinel, .sentinel, .pinned], laidTests := true, laidLooks := .later }
def OrderAllCardSaid : Prop := Claim7.holds Tryz.pinned (.plain (OpenSpec.ofChange orderAllSpec)) orderAllCard

/-- THE TIED CARD OF 'shipwrightlaw12.SpanAll'. -/
def spanAllCard : Claim7 := { stood := { row := spanAllRow, standIns := [], harness := (true, "f6c8c75bf896f14ffae3855d78b2cc816bda28dd4fd76e0f8fcf8cc6427d655b"), looks := true }, kinds := [], alts := [], laidByText := true, laidKinds := [.data, .data, .data, .data, .sentinel, .sentinel, .pinned], laidTests := true, laidLooks := .later }
def SpanAllCardSaid : Prop := Claim7.holds Tryz.pinned (.plain (OpenSpec.ofChange spanAllSpec)) spanAllCard

/-- THE TIED CARD OF 'shipwrightlaw12.SpanKeeps'. -/
def spanKeepsCard : Claim7 := { stood := { row := spanKeepsRow, standIns := [], harness := (true, "f6c8c75bf896f14ffae3855d78b2cc816bda28dd4fd76e0f8fcf8cc6427d655b"), looks := true }, kinds := [], alts := [], laidByText := true, laidKinds := [.data, .data, .data, .data, .sentinel, .sentinel, .pinned], laidTests := true, laidLooks := .later }
def SpanKeepsCardSaid : Prop := Claim7.holds Tryz.pinned (.plain (OpenSpec.ofChange spanKeepsSpec)) spanKeepsCard

/-- THE TIED CARD OF 'shipwrightlaw12.TrailAll'. -/
def trailAllCard : Claim7 := { stood := { row := trailAllRow, standIns := [], harness := (true, "f6c8c75bf896f14ffae3855d78b2cc816bda28dd4fd76e0f8fcf8cc6427d655b"), looks := true }, kinds := [], alts := [], laidByText := true, laidKinds := [.data, .data, .data, .data, .sentinel, .sentinel, .pinned], laidTests := true, laidLooks := .later }
def TrailAllCardSaid : Prop := Claim7.holds Tryz.pinned (.plain (OpenSpec.ofChange trailAllSpec)) trailAllCard

/-- THE TIED CARD OF 'shipwrightlaw12.TrailRight'. -/
def trailRightCard : Claim7 := { stood := { row := trailRightRow, standIns := [], harness := (true, "f6c8c75bf896f14ffae3855d78b2cc816bda28dd4fd76e0f8fcf8cc6427d655b"), looks := true }, kinds := [], alts := [], laidByText := true, laidKinds := [.data, .data, .data, .data, .sentinel, .sentinel, .pinned], laidTests := true, laidLooks := .later }
def TrailRightCardSaid : Prop := Claim7.holds Tryz.pinned (.plain (OpenSpec.ofChange trailRightSpec)) trailRightCard

/-- THE TIED CARD OF 'shipwrightlaw12.TrailAllWays'. -/
def trailAllWaysCard : Claim7 := { stood := { row := trailAllWaysRow, standIns := [], harness := (true, "f6c8c75bf896f14ffae3855d78b2cc816bda28dd4fd76e0f8fcf8cc6427d655b"), looks := true }, kinds := [], alts := [], laidByText := true, laidKinds := [.data, .data, .data, .data, .sentinel, .sentinel, .pinned], laidTests := true, laidLooks := .later }
def TrailAllWaysCardSaid : Prop := Claim7.holds Tryz.pinned (.plain (OpenSpec.ofChange trailAllWaysSpec)) trailAllWaysCard

/-- THE TIED CARD OF 'shipwrightlaw12.TrailPaths'. -/
def trailPathsCard : Claim7 := { stood := { row := trailPathsRow, standIns := [], harness := (true, "f6c8c75bf896f14ffae3855d78b2cc816bda28dd4fd76e0f8fcf8cc6427d655b"), looks := true }, kinds := [], alts := [], laidByText := true, laidKinds := [.data, .data, .data, .data, .sentinel, .sentinel, .pinned], laidTests := true, laidLooks := .later }
def TrailPathsCardSaid : Prop := Claim7.holds Tryz.pinned (.plain (OpenSpec.ofChange trailPathsSpec)) trailPathsCard

/-- THE TIED CARD OF 'shipwrightlaw12.TrailCut'. -/
def trailCutCard : Claim7 := { stood := { row := trailCutRow, standIns := [], harness := (true, "f6c8c75bf896f14ffae3855d78b2cc816bda28dd4fd76e0f8fcf8cc6427d655b"), looks := true }, kinds := [], alts := [], laidByText := true, laidKinds := [.data, .data, .data, .data, .sentinel, .sentinel, .pinned], laidTests := true, laidLooks := .later }
def TrailCutCardSaid : Prop := Claim7.holds Tryz.pinned (.plain (OpenSpec.ofChange trailCutSpec)) trailCutCard

/-- THE SECOND FORM's CARD OF 'shipwrightlaw12.OrderAll'. -/
def orderAllUptoCard : Claim7 := { stood := { row := orderAllUptoRow, standIns := [], harness := (true, "f6c8c75bf896f14ffae3855d78b2cc816bda28dd4fd76e0f8fcf8cc6427d655b"), looks := true }, kinds := [], alts := [], laidByText := true, laidKinds := [.data, .data, .data, .data, .sentinel, .sentinel, .pinned], laidTests := true, laidLooks := .later }
def OrderAllUptoCardSaid : Prop := Claim7.holds Tryz.pinned (.plain (OpenSpec.upto orderAllSpec)) orderAllUptoCard

/-- THE SECOND FORM's CARD OF 'shipwrightlaw12.SpanAll'. -/
def spanAllUptoCard : Claim7 := { stood := { row := spanAllUptoRow, standIns := [], harness := (true, "f6c8c75bf896f14ffae3855d78b2cc816bda28dd4fd76e0f8fcf8cc6427d655b"), looks := true }, kinds := [], alts := [], laidByText := true, laidKinds := [.data, .data, .data, .data, .sentinel, .sentinel, .pinned], laidTests := true, laidLooks := .later }
def SpanAllUptoCardSaid : Prop := Claim7.holds Tryz.pinned (.plain (OpenSpec.upto spanAllSpec)) spanAllUptoCard

/-- THE SECOND FORM's CARD OF 'shipwrightlaw12.SpanKeeps'. -/
def spanKeepsUptoCard : Claim7 := { stood := { row := spanKeepsUptoRow, standIns := [], harness := (true, "f6c8c75bf896f14ffae3855d78b2cc816bda28dd4fd76e0f8fcf8cc6427d655b"), looks := true }, kinds := [], alts := [], laidByText := true, laidKinds := [.data, .data, .data, .data, .sentinel, .sentinel, .pinned], laidTests := true, laidLooks := .later }
def SpanKeepsUptoCardSaid : Prop := Claim7.holds Tryz.pinned (.plain (OpenSpec.upto spanKeepsSpec)) spanKeepsUptoCard

/-- THE SECOND FORM's CARD OF 'shipwrightlaw12.TrailAll'. -/
def trailAllUptoCard : Claim7 := { stood := { row := trailAllUptoRow, standIns := [], harness := (true, "f6c8c75bf896f14ffae3855d78b2cc816bda28dd4fd76e0f8fcf8cc6427d655b"), looks := true }, kinds := [], alts := [], laidByText := true, laidKinds := [.data, .data, .data, .data, .sentinel, .sentinel, .pinned], laidTests := true, laidLooks := .later }
def TrailAllUptoCardSaid : Prop := Claim7.holds Tryz.pinned (.plain (OpenSpec.upto trailAllSpec)) trailAllUptoCard

/-- THE SECOND FORM's CARD OF 'shipwrightlaw12.TrailRight'. -/
def trailRightUptoCard : Claim7 := { stood := { row := trailRightUptoRow, standIns := [], harness := (true, "f6c8c75bf896f14ffae3855d78b2cc816bda28dd4fd76e0f8fcf8cc6427d655b"), looks := true }, kinds := [], alts := [], laidByText := true, laidKinds := [.data, .data, .data, .data, .sentinel, .sentinel, .pinned], laidTests := true, laidLooks := .later }
def TrailRightUptoCardSaid : Prop := Claim7.holds Tryz.pinned (.plain (OpenSpec.upto trailRightSpec)) trailRightUptoCard

/-- THE SECOND FORM's CARD OF 'shipwrightlaw12.TrailAllWays'. -/
def trailAllWaysUptoCard : Claim7 := { stood := { row := trailAllWaysUptoRow, standIns := [], harness := (true, "f6c8c75bf896f14ffae3855d78b2cc816bda28dd4fd76e0f8fcf8cc6427d655b"), looks := true }, kinds := [], alts := [], laidByText := true, laidKinds := [.data, .data, .data, .data, .sentinel, .sentinel, .pinned], laidTests := true, laidLooks := .later }
def TrailAllWaysUptoCardSaid : Prop := Claim7.holds Tryz.pinned (.plain (OpenSpec.upto trailAllWaysSpec)) trailAllWaysUptoCard

/-- THE SECOND FORM's CARD OF 'shipwrightlaw12.TrailPaths'. -/
def trailPathsUptoCard : Claim7 := { stood := { row := trailPathsUptoRow, standIns := [], harness := (true, "f6c8c75bf896f14ffae3855d78b2cc816bda28dd4fd76e0f8fcf8cc6427d655b"), looks := true }, kinds := [], alts := [], laidByText := true, laidKinds := [.data, .data, .data, .data, .sentinel, .sentinel, .pinned], laidTests := true, laidLooks := .later }
def TrailPathsUptoCardSaid : Prop := Claim7.holds Tryz.pinned (.plain (OpenSpec.upto trailPathsSpec)) trailPathsUptoCard

/-- THE SECOND FORM's CARD OF 'shipwrightlaw12.TrailCut'. -/
def trailCutUptoCard : Claim7 := { stood := { row := trailCutUptoRow, standIns := [], harness := (true, "f6c8c75bf896f14ffae3855d78b2cc816bda28dd4fd76e0f8fcf8cc6427d655b"), looks := true }, kinds := [], alts := [], laidByText := true, laidKinds := [.data, .data, .data, .data, .sentinel, .sentinel, .pinned], laidTests := true, laidLooks := .later }
def TrailCutUptoCardSaid : Prop := Claim7.holds Tryz.pinned (.plain (OpenSpec.upto trailCutSpec)) trailCutUptoCard
end Rows
end Go.Proofs.YtmhchflckonklaaGreatDoor
