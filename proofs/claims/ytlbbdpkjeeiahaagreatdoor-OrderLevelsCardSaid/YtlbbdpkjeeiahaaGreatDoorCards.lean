/-
  DERIVED. GIVEN WITH THE SEED: THE CARDS: each row of YtlbbdpkjeeiahaaGreatDoorRows.lean that lists a variable, with what it lists TIED to the program's text (the seventh form; the later family's looks); each row that meets fmt, with fmt's text TOLD by the authors' own Lean function (tested against real Go, not proved from fmt's source: count such statements apart). THE CARD IS WHAT COUNTS. Prove the row's statement (the work); the ties are given (YtlbbdpkjeeiahaaGreatDoorTie.lean); close each card by the builder's one call (the guide's Derived/Test/ToyasCard.lean, 'card_holds'). Laid BY PROGRAM, IN A SANDBOX (cutbox-door.mjs). By AI agents, Wed Nov 11 2026. No macro, syntax, notation, axiom, sorry.
-/
import Derived.Test.YtlbbdpkjeeiahaaGreatDoorRows
import GoSem.ClaimSeven
namespace Go.Proofs.YtlbbdpkjeeiahaaGreatDoor
namespace Rows

/-- THE TIED CARD OF 'shipwrightlaw12.OrderRight'. -/
def orderRightCard : Claim7 := { stood := { row := orderRightRow, standIns := [], harness := (true, "910b67f9e3c6799eb1a88cf65b085a08ac71c52b9ce870fe3b27f48b88d61e2d"), looks := true }, kinds := [], alts := [], laidByText := true, laidKinds := [.data, .data, .data, .data, .sentinel, .sentinel, .pinned], laidTests := true, laidLooks := .later }
def OrderRightCardSaid : Prop := Claim7.holds Tryz.pinned (.plain (OpenSpec.ofChange orderRightSpec)) orderRightCard

/-- THE TIED CARD OF 'shipwrightlaw12.OrderFar'. -/
def orderFarCard : Claim7 := { stood := { row := orderFarRow, standIns := [], harness := (true, "910b67f9e3c6799eb1a88cf65b085a08ac71c52b9ce870fe3b27f48b88d61e2d"), looks := true }, kinds := [], alts := [], laidByText := true, laidKinds := [.data, .data, .data, .data, .sentinel, .sentinel, .pinned], laidTests := true, laidLooks := .later }
def OrderFarCardSaid : Prop := Claim7.holds Tryz.pinned (.plain (OpenSpec.ofChange orderFarSpec)) orderFarCard

/-- THE TIED CARD OF 'shipwrightlaw12.OrderBack'. -/
def orderBackCard : Claim7 := { stood := { row := orderBackRow, standIns := [], harness := (true, "910b67f9e3c6799eb1a88cf65b085a08ac71c52b9ce870fe3b27f48b88d61e2d"), looks := true }, kinds := [], alts := [], laidByText := true, laidKinds := [.data, .data, .data, .data, .sentinel, .sentinel, .pinned], laidTests := true, laidLooks := .later }
def OrderBackCardSaid : Prop := Claim7.holds Tryz.pinned (.plain (OpenSpec.ofChange orderBackSpec)) orderBackCard

/-- THE TIED CARD OF 'shipwrightlaw12.OrderCone'. -/
def orderConeCard : Claim7 := { stood := { row := orderConeRow, standIns := [], harness := (true, "910b67f9e3c6799eb1a88cf65b085a08ac71c52b9ce870fe3b27f48b88d61e2d"), looks := true }, kinds := [], alts := [], laidByText := true, laidKinds := [.data, .data, .data, .data, .sentinel, .sentinel, .pinned], laidTests := true, laidLooks := .later }
def OrderConeCardSaid : Prop := Claim7.holds Tryz.pinned (.plain (OpenSpec.ofChange orderConeSpec)) orderConeCard

/-- THE TIED CARD OF 'shipwrightlaw12.OrderLevels'. -/
def orderLevelsCard : Claim7 := { stood := { row := orderLevelsRow, standIns := [], harness := (true, "910b67f9e3c6799eb1a88cf65b085a08ac71c52b9ce870fe3b27f48b88d61e2d"), looks := true }, kinds := [], alts := [], laidByText := true, laidKinds := [.data, .data, .data, .data, .sentinel, .sentinel, .pinned], laidTests := true, laidLooks := .later }
def OrderLevelsCardSaid : Prop := Claim7.holds Tryz.pinned (.plain (OpenSpec.ofChange orderLevelsSpec)) orderLevelsCard

/-- THE TIED CARD OF 'shipwrightlaw12.GraphAll'. -/
def graphAllCard : Claim7 := { stood := { row := graphAllRow, standIns := [], harness := (true, "910b67f9e3c6799eb1a88cf65b085a08ac71c52b9ce870fe3b27f48b88d61e2d"), looks := true }, kinds := [], alts := [], laidByText := true, laidKinds := [.data, .data, .data, .data, .sentinel, .sentinel, .pinned], laidTests := true, laidLooks := .later }
def GraphAllCardSaid : Prop := Claim7.holds Tryz.pinned (.plain (OpenSpec.ofChange graphAllSpec)) graphAllCard

/-- THE TIED CARD OF 'shipwrightlaw12.GraphBoth'. -/
def graphBothCard : Claim7 := { stood := { row := graphBothRow, standIns := [], harness := (true, "910b67f9e3c6799eb1a88cf65b085a08ac71c52b9ce870fe3b27f48b88d61e2d"), looks := true }, kinds := [], alts := [], laidByText := true, laidKinds := [.data, .data, .data, .data, .sentinel, .sentinel, .pinned], laidTests := true, laidLooks := .later }
def GraphBothCardSaid : Prop := Claim7.holds Tryz.pinned (.plain (OpenSpec.ofChange graphBothSpec)) graphBothCard

/-- THE TIED CARD OF 'shipwrightlaw12.GraphOwn'. -/
def graphOwnCard : Claim7 := { stood := { row := graphOwnRow, standIns := [], harness := (true, "910b67f9e3c6799eb1a88cf65b085a08ac71c52b9ce870fe3b27f48b88d61e2d"), looks := true }, kinds := [], alts := [], laidByText := true, laidKinds := [.data, .data, .data, .data, .sentinel, .sentinel, .pinned], laidTests := true, laidLooks := .later }
def GraphOwnCardSaid : Prop := Claim7.holds Tryz.pinned (.plain (OpenSpec.ofChange graphOwnSpec)) graphOwnCard

/-- THE SECOND FORM's CARD OF 'shipwrightlaw12.OrderRight'. -/
def orderRightUptoCard : Claim7 := { stood := { row := orderRightUptoRow, standIns := [], harness := (true, "910b67f9e3c6799eb1a88cf65b085a08ac71c52b9ce870fe3b27f48b88d61e2d"), looks := true }, kinds := [], alts := [], laidByText := true, laidKinds := [.data, .data, .data, .data, .sentinel, .sentinel, .pinned], laidTests := true, laidLooks := .later }
def OrderRightUptoCardSaid : Prop := Claim7.holds Tryz.pinned (.plain (OpenSpec.upto orderRightSpec)) orderRightUptoCard

/-- THE SECOND FORM's CARD OF 'shipwrightlaw12.OrderFar'. -/
def orderFarUptoCard : Claim7 := { stood := { row := orderFarUptoRow, standIns := [], harness := (true, "910b67f9e3c6799eb1a88cf65b085a08ac71c52b9ce870fe3b27f48b88d61e2d"), looks := true }, kinds := [], alts := [], laidByText := true, laidKinds := [.data, .data, .data, .data, .sentinel, .sentinel, .pinned], laidTests := true, laidLooks := .later }
def OrderFarUptoCardSaid : Prop := Claim7.holds Tryz.pinned (.plain (OpenSpec.upto orderFarSpec)) orderFarUptoCard

/-- THE SECOND FORM's CARD OF 'shipwrightlaw12.OrderBack'. -/
def orderBackUptoCard : Claim7 := { stood := { row := orderBackUptoRow, standIns := [], harness := (true, "910b67f9e3c6799eb1a88cf65b085a08ac71c52b9ce870fe3b27f48b88d61e2d"), looks := true }, kinds := [], alts := [], laidByText := true, laidKinds := [.data, .data, .data, .data, .sentinel, .sentinel, .pinned], laidTests := true, laidLooks := .later }
def OrderBackUptoCardSaid : Prop := Claim7.holds Tryz.pinned (.plain (OpenSpec.upto orderBackSpec)) orderBackUptoCard

/-- THE SECOND FORM's CARD OF 'shipwrightlaw12.OrderCone'. -/
def orderConeUptoCard : Claim7 := { stood := { row := orderConeUptoRow, standIns := [], harness := (true, "910b67f9e3c6799eb1a88cf65b085a08ac71c52b9ce870fe3b27f48b88d61e2d"), looks := true }, kinds := [], alts := [], laidByText := true, laidKinds := [.data, .data, .data, .data, .sentinel, .sentinel, .pinned], laidTests := true, laidLooks := .later }
def OrderConeUptoCardSaid : Prop := Claim7.holds Tryz.pinned (.plain (OpenSpec.upto orderConeSpec)) orderConeUptoCard

/-- THE SECOND FORM's CARD OF 'shipwrightlaw12.OrderLevels'. -/
def orderLevelsUptoCard : Claim7 := { stood := { row := orderLevelsUptoRow, standIns := [], harness := (true, "910b67f9e3c6799eb1a88cf65b085a08ac71c52b9ce870fe3b27f48b88d61e2d"), looks := true }, kinds := [], alts := [], laidByText := true, laidKinds := [.data, .data, .data, .data, .sentinel, .sentinel, .pinned], laidTests := true, laidLooks := .later }
def OrderLevelsUptoCardSaid : Prop := Claim7.holds Tryz.pinned (.plain (OpenSpec.upto orderLevelsSpec)) orderLevelsUptoCard

/-- THE SECOND FORM's CARD OF 'shipwrightlaw12.GraphAll'. -/
def graphAllUptoCard : Claim7 := { stood := { row := graphAllUptoRow, standIns := [], harness := (true, "910b67f9e3c6799eb1a88cf65b085a08ac71c52b9ce870fe3b27f48b88d61e2d"), looks := true }, kinds := [], alts := [], laidByText := true, laidKinds := [.data, .data, .data, .data, .sentinel, .sentinel, .pinned], laidTests := true, laidLooks := .later }
def GraphAllUptoCardSaid : Prop := Claim7.holds Tryz.pinned (.plain (OpenSpec.upto graphAllSpec)) graphAllUptoCard

/-- THE SECOND FORM's CARD OF 'shipwrightlaw12.GraphBoth'. -/
def graphBothUptoCard : Claim7 := { stood := { row := graphBothUptoRow, standIns := [], harness := (true, "910b67f9e3c6799eb1a88cf65b085a08ac71c52b9ce870fe3b27f48b88d61e2d"), looks := true }, kinds := [], alts := [], laidByText := true, laidKinds := [.data, .data, .data, .data, .sentinel, .sentinel, .pinned], laidTests := true, laidLooks := .later }
def GraphBothUptoCardSaid : Prop := Claim7.holds Tryz.pinned (.plain (OpenSpec.upto graphBothSpec)) graphBothUptoCard

/-- THE SECOND FORM's CARD OF 'shipwrightlaw12.GraphOwn'. -/
def graphOwnUptoCard : Claim7 := { stood := { row := graphOwnUptoRow, standIns := [], harness := (true, "910b67f9e3c6799eb1a88cf65b085a08ac71c52b9ce870fe3b27f48b88d61e2d"), looks := true }, kinds := [], alts := [], laidByText := true, laidKinds := [.data, .data, .data, .data, .sentinel, .sentinel, .pinned], laidTests := true, laidLooks := .later }
def GraphOwnUptoCardSaid : Prop := Claim7.holds Tryz.pinned (.plain (OpenSpec.upto graphOwnSpec)) graphOwnUptoCard
end Rows
end Go.Proofs.YtlbbdpkjeeiahaaGreatDoor
