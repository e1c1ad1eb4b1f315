/-
  DERIVED. GIVEN WITH THE SEED: THE CARDS: each row of YtmbhjdkbcgngiaaGreatDoorRows.lean that lists a variable, with what it lists TIED to the program's text (the seventh form; the later family's looks); each row that meets fmt, with fmt's text TOLD by the authors' own Lean function (tested against real Go, not proved from fmt's source: count such statements apart). THE CARD IS WHAT COUNTS. Prove the row's statement (the work); the ties are given (YtmbhjdkbcgngiaaGreatDoorTie.lean); close each card by the builder's one call (the guide's Derived/Test/ToyasCard.lean, 'card_holds'). Laid BY PROGRAM, IN A SANDBOX (cutbox-door.mjs). By AI agents, Wed Nov 11 2026. No macro, syntax, notation, axiom, sorry.
-/
import Derived.Test.YtmbhjdkbcgngiaaGreatDoorRows
import GoSem.ClaimSeven
namespace Go.Proofs.YtmbhjdkbcgngiaaGreatDoor
namespace Rows

/-- THE TIED CARD OF 'shipwrightlaw12.LabelsOwn'. -/
def labelsOwnCard : Claim7 := { stood := { row := labelsOwnRow, standIns := [], harness := (true, "34124671ad90cbbeddae1254912cdd02ac62a28b5317a839547e5c85ff211276"), looks := true }, kinds := [], alts := [], laidByText := true, laidKinds := [.data, .data, .data, .data, .sentinel, .sentinel, .pinned], laidTests := true, laidLooks := .later }
def LabelsOwnCardSaid : Prop := Claim7.holds Tryz.pinned (.plain (OpenSpec.ofChange labelsOwnSpec)) labelsOwnCard

/-- THE TIED CARD OF 'shipwrightlaw12.LabelsOrder'. -/
def labelsOrderCard : Claim7 := { stood := { row := labelsOrderRow, standIns := [], harness := (true, "34124671ad90cbbeddae1254912cdd02ac62a28b5317a839547e5c85ff211276"), looks := true }, kinds := [], alts := [], laidByText := true, laidKinds := [.data, .data, .data, .data, .sentinel, .sentinel, .pinned], laidTests := true, laidLooks := .later }
def LabelsOrderCardSaid : Prop := Claim7.holds Tryz.pinned (.plain (OpenSpec.ofChange labelsOrderSpec)) labelsOrderCard

/-- THE TIED CARD OF 'shipwrightlaw12.SpanChain'. -/
def spanChainCard : Claim7 := { stood := { row := spanChainRow, standIns := [], harness := (true, "34124671ad90cbbeddae1254912cdd02ac62a28b5317a839547e5c85ff211276"), looks := true }, kinds := [], alts := [], laidByText := true, laidKinds := [.data, .data, .data, .data, .sentinel, .sentinel, .pinned], laidTests := true, laidLooks := .later }
def SpanChainCardSaid : Prop := Claim7.holds Tryz.pinned (.plain (OpenSpec.ofChange spanChainSpec)) spanChainCard

/-- THE TIED CARD OF 'shipwrightlaw12.LabelsAll'. -/
def labelsAllCard : Claim7 := { stood := { row := labelsAllRow, standIns := [], harness := (true, "34124671ad90cbbeddae1254912cdd02ac62a28b5317a839547e5c85ff211276"), looks := true }, kinds := [], alts := [], laidByText := true, laidKinds := [.data, .data, .data, .data, .sentinel, .sentinel, .pinned], laidTests := true, laidLooks := .later }
def LabelsAllCardSaid : Prop := Claim7.holds Tryz.pinned (.plain (OpenSpec.ofChange labelsAllSpec)) labelsAllCard

/-- THE TIED CARD OF 'shipwrightlaw12.LabelsLaws'. -/
def labelsLawsCard : Claim7 := { stood := { row := labelsLawsRow, standIns := [], harness := (true, "34124671ad90cbbeddae1254912cdd02ac62a28b5317a839547e5c85ff211276"), looks := true }, kinds := [], alts := [], laidByText := true, laidKinds := [.data, .data, .data, .data, .sentinel, .sentinel, .pinned], laidTests := true, laidLooks := .later }
def LabelsLawsCardSaid : Prop := Claim7.holds Tryz.pinned (.plain (OpenSpec.ofChange labelsLawsSpec)) labelsLawsCard

/-- THE TIED CARD OF 'shipwrightlaw12.TrailNone'. -/
def trailNoneCard : Claim7 := { stood := { row := trailNoneRow, standIns := [], harness := (true, "34124671ad90cbbeddae1254912cdd02ac62a28b5317a839547e5c85ff211276"), looks := true }, kinds := [], alts := [], laidByText := true, laidKinds := [.data, .data, .data, .data, .sentinel, .sentinel, .pinned], laidTests := true, laidLooks := .later }
def TrailNoneCardSaid : Prop := Claim7.holds Tryz.pinned (.plain (OpenSpec.ofChange trailNoneSpec)) trailNoneCard

/-- THE SECOND FORM's CARD OF 'shipwrightlaw12.LabelsOwn'. -/
def labelsOwnUptoCard : Claim7 := { stood := { row := labelsOwnUptoRow, standIns := [], harness := (true, "34124671ad90cbbeddae1254912cdd02ac62a28b5317a839547e5c85ff211276"), looks := true }, kinds := [], alts := [], laidByText := true, laidKinds := [.data, .data, .data, .data, .sentinel, .sentinel, .pinned], laidTests := true, laidLooks := .later }
def LabelsOwnUptoCardSaid : Prop := Claim7.holds Tryz.pinned (.plain (OpenSpec.upto labelsOwnSpec)) labelsOwnUptoCard

/-- THE SECOND FORM's CARD OF 'shipwrightlaw12.LabelsOrder'. -/
def labelsOrderUptoCard : Claim7 := { stood := { row := labelsOrderUptoRow, standIns := [], harness := (true, "34124671ad90cbbeddae1254912cdd02ac62a28b5317a839547e5c85ff211276"), looks := true }, kinds := [], alts := [], laidByText := true, laidKinds := [.data, .data, .data, .data, .sentinel, .sentinel, .pinned], laidTests := true, laidLooks := .later }
def LabelsOrderUptoCardSaid : Prop := Claim7.holds Tryz.pinned (.plain (OpenSpec.upto labelsOrderSpec)) labelsOrderUptoCard

/-- THE SECOND FORM's CARD OF 'shipwrightlaw12.SpanChain'. -/
def spanChainUptoCard : Claim7 := { stood := { row := spanChainUptoRow, standIns := [], harness := (true, "34124671ad90cbbeddae1254912cdd02ac62a28b5317a839547e5c85ff211276"), looks := true }, kinds := [], alts := [], laidByText := true, laidKinds := [.data, .data, .data, .data, .sentinel, .sentinel, .pinned], laidTests := true, laidLooks := .later }
def SpanChainUptoCardSaid : Prop := Claim7.holds Tryz.pinned (.plain (OpenSpec.upto spanChainSpec)) spanChainUptoCard

/-- THE SECOND FORM's CARD OF 'shipwrightlaw12.LabelsAll'. -/
def labelsAllUptoCard : Claim7 := { stood := { row := labelsAllUptoRow, standIns := [], harness := (true, "34124671ad90cbbeddae1254912cdd02ac62a28b5317a839547e5c85ff211276"), looks := true }, kinds := [], alts := [], laidByText := true, laidKinds := [.data, .data, .data, .data, .sentinel, .sentinel, .pinned], laidTests := true, laidLooks := .later }
def LabelsAllUptoCardSaid : Prop := Claim7.holds Tryz.pinned (.plain (OpenSpec.upto labelsAllSpec)) labelsAllUptoCard

/-- THE SECOND FORM's CARD OF 'shipwrightlaw12.LabelsLaws'. -/
def labelsLawsUptoCard : Claim7 := { stood := { row := labelsLawsUptoRow, standIns := [], harness := (true, "34124671ad90cbbeddae1254912cdd02ac62a28b5317a839547e5c85ff211276"), looks := true }, kinds := [], alts := [], laidByText := true, laidKinds := [.data, .data, .data, .data, .sentinel, .sentinel, .pinned], laidTests := true, laidLooks := .later }
def LabelsLawsUptoCardSaid : Prop := Claim7.holds Tryz.pinned (.plain (OpenSpec.upto labelsLawsSpec)) labelsLawsUptoCard

/-- THE SECOND FORM's CARD OF 'shipwrightlaw12.TrailNone'. -/
def trailNoneUptoCard : Claim7 := { stood := { row := trailNoneUptoRow, standIns := [], harness := (true, "34124671ad90cbbeddae1254912cdd02ac62a28b5317a839547e5c85ff211276"), looks := true }, kinds := [], alts := [], laidByText := true, laidKinds := [.data, .data, .data, .data, .sentinel, .sentinel, .pinned], laidTests := true, laidLooks := .later }
def TrailNoneUptoCardSaid : Prop := Claim7.holds Tryz.pinned (.plain (OpenSpec.upto trailNoneSpec)) trailNoneUptoCard
end Rows
end Go.Proofs.YtmbhjdkbcgngiaaGreatDoor
