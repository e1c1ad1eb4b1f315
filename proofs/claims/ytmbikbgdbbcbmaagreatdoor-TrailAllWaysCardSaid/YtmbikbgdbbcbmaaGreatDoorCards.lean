/-
  DERIVED. GIVEN WITH THE SEED: THE CARDS: each row of YtmbikbgdbbcbmaaGreatDoorRows.lean that lists a variable, with what it lists TIED to the program's text (the seventh form; the later family's looks); each row that meets fmt, with fmt's text TOLD by the authors' own Lean function (tested against real Go, not proved from fmt's source: count such statements apart). THE CARD IS WHAT COUNTS. Prove the row's statement (the work); the ties are given (YtmbikbgdbbcbmaaGreatDoorTie.lean); close each card by the builder's one call (the guide's Derived/Test/ToyasCard.lean, 'card_holds'). Laid BY PROGRAM, IN A SANDBOX (cutbox-door.mjs). By AI agents, Wed Nov 11 2026. No macro, syntax, notation, axiom, sorry.
-/
import Derived.Test.YtmbikbgdbbcbmaaGreatDoorRows
import GoSem.ClaimSeven
namespace Go.Proofs.YtmbikbgdbbcbmaaGreatDoor
namespace Rows

/-- THE TIED CARD OF 'shipwrightlaw12.OrderAll'. -/
def orderAllCard : Claim7 := { stood := { row := orderAllRow, standIns := [], harness := (true, "69704d52889d1d7ce71f62cc073ee1195abca1933bcaed0647b47e3490af82e4"), looks := true }, kinds := [], alts := [], laidByText := true, laidKinds := [.data, .data, .data, .data, .sentinel, .sentinel, .pinned], laidTests := true, laidLooks := .later }
def OrderAllCardSaid : Prop := Claim7.holds Tryz.pinned (.plain (OpenSpec.ofChange orderAllSpec)) orderAllCard

/-- THE TIED CARD OF 'shipwrightlaw12.SpanAll'. -/
def spanAllCard : Claim7 := { stood := { row := spanAllRow, standIns := [], harness := (true, "69704d52889d1d7ce71f62cc073ee1195abca1933bcaed0647b47e3490af82e4"), looks := true }, kinds := [], alts := [], laidByText := true, laidKinds := [.data, .data, .data, .data, .sentinel, .sentinel, .pinned], laidTests := true, laidLooks := .later }
def SpanAllCardSaid : Prop := Claim7.holds Tryz.pinned (.plain (OpenSpec.ofChange spanAllSpec)) spanAllCard

/-- THE TIED CARD OF 'shipwrightlaw12.SpanKeeps'. -/
def spanKeepsCard : Claim7 := { stood := { row := spanKeepsRow, standIns := [], harness := (true, "69704d52889d1d7ce71f62cc073ee1195abca1933bcaed0647b47e3490af82e4"), looks := true }, kinds := [], alts := [], laidByText := true, laidKinds := [.data, .data, .data, .data, .sentinel, .sentinel, .pinned], laidTests := true, laidLooks := .later }
def SpanKeepsCardSaid : Prop := Claim7.holds Tryz.pinned (.plain (OpenSpec.ofChange spanKeepsSpec)) spanKeepsCard

/-- THE TIED CARD OF 'shipwrightlaw12.TrailAll'. -/
def trailAllCard : Claim7 := { stood := { row := trailAllRow, standIns := [], harness := (true, "69704d52889d1d7ce71f62cc073ee1195abca1933bcaed0647b47e3490af82e4"), looks := true }, kinds := [], alts := [], laidByText := true, laidKinds := [.data, .data, .data, .data, .sentinel, .sentinel, .pinned], laidTests := true, laidLooks := .later }
def TrailAllCardSaid : Prop := Claim7.holds Tryz.pinned (.plain (OpenSpec.ofChange trailAllSpec)) trailAllCard

/-- THE TIED CARD OF 'shipwrightlaw12.TrailAllWays'. -/
def trailAllWaysCard : Claim7 := { stood := { row := trailAllWaysRow, standIns := [], harness := (true, "69704d52889d1d7ce71f62cc073ee1195abca1933bcaed0647b47e3490af82e4"), looks := true }, kinds := [], alts := [], laidByText := true, laidKinds := [.data, .data, .data, .data, .sentinel, .sentinel, .pinned], laidTests := true, laidLooks := .later }
def TrailAllWaysCardSaid : Prop := Claim7.holds Tryz.pinned (.plain (OpenSpec.ofChange trailAllWaysSpec)) trailAllWaysCard

/-- THE TIED CARD OF 'shipwrightlaw12.TrailPaths'. -/
def trailPathsCard : Claim7 := { stood := { row := trailPathsRow, standIns := [], harness := (true, "69704d52889d1d7ce71f62cc073ee1195abca1933bcaed0647b47e3490af82e4"), looks := true }, kinds := [], alts := [], laidByText := true, laidKinds := [.data, .data, .data, .data, .sentinel, .sentinel, .pinned], laidTests := true, laidLooks := .later }
def TrailPathsCardSaid : Prop := Claim7.holds Tryz.pinned (.plain (OpenSpec.ofChange trailPathsSpec)) trailPathsCard

/-- THE TIED CARD OF 'shipwrightlaw12.GraphAll'. -/
def graphAllCard : Claim7 := { stood := { row := graphAllRow, standIns := [], harness := (true, "69704d52889d1d7ce71f62cc073ee1195abca1933bcaed0647b47e3490af82e4"), looks := true }, kinds := [], alts := [], laidByText := true, laidKinds := [.data, .data, .data, .data, .sentinel, .sentinel, .pinned], laidTests := true, laidLooks := .later }
def GraphAllCardSaid : Prop := Claim7.holds Tryz.pinned (.plain (OpenSpec.ofChange graphAllSpec)) graphAllCard

/-- THE TIED CARD OF 'shipwrightlaw12.GraphOwn'. -/
def graphOwnCard : Claim7 := { stood := { row := graphOwnRow, standIns := [], harness := (true, "69704d52889d1d7ce71f62cc073ee1195abca1933bcaed0647b47e3490af82e4"), looks := true }, kinds := [], alts := [], laidByText := true, laidKinds := [.data, .data, .data, .data, .sentinel, .sentinel, .pinned], laidTests := true, laidLooks := .later }
def GraphOwnCardSaid : Prop := Claim7.holds Tryz.pinned (.plain (OpenSpec.ofChange graphOwnSpec)) graphOwnCard

/-- THE SECOND FORM's CARD OF 'shipwrightlaw12.OrderAll'. -/
def orderAllUptoCard : Claim7 := { stood := { row := orderAllUptoRow, standIns := [], harness := (true, "69704d52889d1d7ce71f62cc073ee1195abca1933bcaed0647b47e3490af82e4"), looks := true }, kinds := [], alts := [], laidByText := true, laidKinds := [.data, .data, .data, .data, .sentinel, .sentinel, .pinned], laidTests := true, laidLooks := .later }
def OrderAllUptoCardSaid : Prop := Claim7.holds Tryz.pinned (.plain (OpenSpec.upto orderAllSpec)) orderAllUptoCard

/-- THE SECOND FORM's CARD OF 'shipwrightlaw12.SpanAll'. -/
def spanAllUptoCard : Claim7 := { stood := { row := spanAllUptoRow, standIns := [], harness := (true, "69704d52889d1d7ce71f62cc073ee1195abca1933bcaed0647b47e3490af82e4"), looks := true }, kinds := [], alts := [], laidByText := true, laidKinds := [.data, .data, .data, .data, .sentinel, .sentinel, .pinned], laidTests := true, laidLooks := .later }
def SpanAllUptoCardSaid : Prop := Claim7.holds Tryz.pinned (.plain (OpenSpec.upto spanAllSpec)) spanAllUptoCard

/-- THE SECOND FORM's CARD OF 'shipwrightlaw12.SpanKeeps'. -/
def spanKeepsUptoCard : Claim7 := { stood := { row := spanKeepsUptoRow, standIns := [], harness := (true, "69704d52889d1d7ce71f62cc073ee1195abca1933bcaed0647b47e3490af82e4"), looks := true }, kinds := [], alts := [], laidByText := true, laidKinds := [.data, .data, .data, .data, .sentinel, .sentinel, .pinned], laidTests := true, laidLooks := .later }
def SpanKeepsUptoCardSaid : Prop := Claim7.holds Tryz.pinned (.plain (OpenSpec.upto spanKeepsSpec)) spanKeepsUptoCard

/-- THE SECOND FORM's CARD OF 'shipwrightlaw12.TrailAll'. -/
def trailAllUptoCard : Claim7 := { stood := { row := trailAllUptoRow, standIns := [], harness := (true, "69704d52889d1d7ce71f62cc073ee1195abca1933bcaed0647b47e3490af82e4"), looks := true }, kinds := [], alts := [], laidByText := true, laidKinds := [.data, .data, .data, .data, .sentinel, .sentinel, .pinned], laidTests := true, laidLooks := .later }
def TrailAllUptoCardSaid : Prop := Claim7.holds Tryz.pinned (.plain (OpenSpec.upto trailAllSpec)) trailAllUptoCard

/-- THE SECOND FORM's CARD OF 'shipwrightlaw12.TrailAllWays'. -/
def trailAllWaysUptoCard : Claim7 := { stood := { row := trailAllWaysUptoRow, standIns := [], harness := (true, "69704d52889d1d7ce71f62cc073ee1195abca1933bcaed0647b47e3490af82e4"), looks := true }, kinds := [], alts := [], laidByText := true, laidKinds := [.data, .data, .data, .data, .sentinel, .sentinel, .pinned], laidTests := true, laidLooks := .later }
def TrailAllWaysUptoCardSaid : Prop := Claim7.holds Tryz.pinned (.plain (OpenSpec.upto trailAllWaysSpec)) trailAllWaysUptoCard

/-- THE SECOND FORM's CARD OF 'shipwrightlaw12.TrailPaths'. -/
def trailPathsUptoCard : Claim7 := { stood := { row := trailPathsUptoRow, standIns := [], harness := (true, "69704d52889d1d7ce71f62cc073ee1195abca1933bcaed0647b47e3490af82e4"), looks := true }, kinds := [], alts := [], laidByText := true, laidKinds := [.data, .data, .data, .data, .sentinel, .sentinel, .pinned], laidTests := true, laidLooks := .later }
def TrailPathsUptoCardSaid : Prop := Claim7.holds Tryz.pinned (.plain (OpenSpec.upto trailPathsSpec)) trailPathsUptoCard

/-- THE SECOND FORM's CARD OF 'shipwrightlaw12.GraphAll'. -/
def graphAllUptoCard : Claim7 := { stood := { row := graphAllUptoRow, standIns := [], harness := (true, "69704d52889d1d7ce71f62cc073ee1195abca1933bcaed0647b47e3490af82e4"), looks := true }, kinds := [], alts := [], laidByText := true, laidKinds := [.data, .data, .data, .data, .sentinel, .sentinel, .pinned], laidTests := true, laidLooks := .later }
def GraphAllUptoCardSaid : Prop := Claim7.holds Tryz.pinned (.plain (OpenSpec.upto graphAllSpec)) graphAllUptoCard

/-- THE SECOND FORM's CARD OF 'shipwrightlaw12.GraphOwn'. -/
def graphOwnUptoCard : Claim7 := { stood := { row := graphOwnUptoRow, standIns := [], harness := (true, "69704d52889d1d7ce71f62cc073ee1195abca1933bcaed0647b47e3490af82e4"), looks := true }, kinds := [], alts := [], laidByText := true, laidKinds := [.data, .data, .data, .data, .sentinel, .sentinel, .pinned], laidTests := true, laidLooks := .later }
def GraphOwnUptoCardSaid : Prop := Claim7.holds Tryz.pinned (.plain (OpenSpec.upto graphOwnSpec)) graphOwnUptoCard
end Rows
end Go.Proofs.YtmbikbgdbbcbmaaGreatDoor
