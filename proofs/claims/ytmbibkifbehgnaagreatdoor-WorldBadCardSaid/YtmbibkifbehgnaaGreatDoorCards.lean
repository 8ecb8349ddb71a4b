/-
  DERIVED. GIVEN WITH THE SEED: THE CARDS: each row of YtmbibkifbehgnaaGreatDoorRows.lean that lists a variable, with what it lists TIED to the program's text (the seventh form; the later family's looks); each row that meets fmt, with fmt's text TOLD by the authors' own Lean function (tested against real Go, not proved from fmt's source: count such statements apart). THE CARD IS WHAT COUNTS. Prove the row's statement (the work); the ties are given (YtmbibkifbehgnaaGreatDoorTie.lean); close each card by the builder's one call (the guide's Derived/Test/ToyasCard.lean, 'card_holds'). Laid BY PROGRAM, IN A SANDBOX (cutbox-door.mjs). By AI agents, Wed Nov 11 2026. No macro, syntax, notation, axiom, sorry.
-/
import Derived.Test.YtmbibkifbehgnaaGreatDoorRows
import GoSem.ClaimSeven
namespace Go.Proofs.YtmbibkifbehgnaaGreatDoor
namespace Rows

/-- THE TIED CARD OF 'skeplaw18.RobotRuns'. -/
def robotRunsCard : Claim7 := { stood := { row := robotRunsRow, standIns := [], harness := (true, "945a9372eb6062a7c0ad54044477438b604fb5e841eea4e5b48e3c95564060f6"), looks := false }, kinds := [], alts := [], laidByText := true, laidKinds := [.data], laidTests := true, laidLooks := .later }
def RobotRunsCardSaid : Prop := Claim7.holds Tryz.pinned (.plain (OpenSpec.ofChange robotRunsSpec)) robotRunsCard

/-- THE TIED CARD OF 'skeplaw19.WorldSees'. -/
def worldSeesCard : Claim7 := { stood := { row := worldSeesRow, standIns := [], harness := (true, "945a9372eb6062a7c0ad54044477438b604fb5e841eea4e5b48e3c95564060f6"), looks := false }, kinds := [], alts := [], laidByText := true, laidKinds := [.data], laidTests := true, laidLooks := .later }
def WorldSeesCardSaid : Prop := Claim7.holds Tryz.pinned (.plain (OpenSpec.ofChange worldSeesSpec)) worldSeesCard

/-- THE TIED CARD OF 'skeplaw19.WorldDelays'. -/
def worldDelaysCard : Claim7 := { stood := { row := worldDelaysRow, standIns := [], harness := (true, "945a9372eb6062a7c0ad54044477438b604fb5e841eea4e5b48e3c95564060f6"), looks := false }, kinds := [], alts := [], laidByText := true, laidKinds := [.data], laidTests := true, laidLooks := .later }
def WorldDelaysCardSaid : Prop := Claim7.holds Tryz.pinned (.plain (OpenSpec.ofChange worldDelaysSpec)) worldDelaysCard

/-- THE TIED CARD OF 'skeplaw19.WorldBad'. -/
def worldBadCard : Claim7 := { stood := { row := worldBadRow, standIns := [], harness := (true, "945a9372eb6062a7c0ad54044477438b604fb5e841eea4e5b48e3c95564060f6"), looks := false }, kinds := [], alts := [], laidByText := true, laidKinds := [.data], laidTests := true, laidLooks := .later }
def WorldBadCardSaid : Prop := Claim7.holds Tryz.pinned (.plain (OpenSpec.ofChange worldBadSpec)) worldBadCard

/-- THE TIED CARD OF 'skeplaw19.WorldBins'. -/
def worldBinsCard : Claim7 := { stood := { row := worldBinsRow, standIns := [], harness := (true, "945a9372eb6062a7c0ad54044477438b604fb5e841eea4e5b48e3c95564060f6"), looks := false }, kinds := [], alts := [], laidByText := true, laidKinds := [.data], laidTests := true, laidLooks := .later }
def WorldBinsCardSaid : Prop := Claim7.holds Tryz.pinned (.plain (OpenSpec.ofChange worldBinsSpec)) worldBinsCard

/-- THE TIED CARD OF 'skeplaw19.WorldTwice'. -/
def worldTwiceCard : Claim7 := { stood := { row := worldTwiceRow, standIns := [], harness := (true, "945a9372eb6062a7c0ad54044477438b604fb5e841eea4e5b48e3c95564060f6"), looks := false }, kinds := [], alts := [], laidByText := true, laidKinds := [.data], laidTests := true, laidLooks := .later }
def WorldTwiceCardSaid : Prop := Claim7.holds Tryz.pinned (.plain (OpenSpec.ofChange worldTwiceSpec)) worldTwiceCard

/-- THE SECOND FORM's CARD OF 'skeplaw18.RobotRuns'. -/
def robotRunsUptoCard : Claim7 := { stood := { row := robotRunsUptoRow, standIns := [], harness := (true, "945a9372eb6062a7c0ad54044477438b604fb5e841eea4e5b48e3c95564060f6"), looks := false }, kinds := [], alts := [], laidByText := true, laidKinds := [.data], laidTests := true, laidLooks := .later }
def RobotRunsUptoCardSaid : Prop := Claim7.holds Tryz.pinned (.plain (OpenSpec.upto robotRunsSpec)) robotRunsUptoCard

/-- THE SECOND FORM's CARD OF 'skeplaw19.WorldSees'. -/
def worldSeesUptoCard : Claim7 := { stood := { row := worldSeesUptoRow, standIns := [], harness := (true, "945a9372eb6062a7c0ad54044477438b604fb5e841eea4e5b48e3c95564060f6"), looks := false }, kinds := [], alts := [], laidByText := true, laidKinds := [.data], laidTests := true, laidLooks := .later }
def WorldSeesUptoCardSaid : Prop := Claim7.holds Tryz.pinned (.plain (OpenSpec.upto worldSeesSpec)) worldSeesUptoCard

/-- THE SECOND FORM's CARD OF 'skeplaw19.WorldDelays'. -/
def worldDelaysUptoCard : Claim7 := { stood := { row := worldDelaysUptoRow, standIns := [], harness := (true, "945a9372eb6062a7c0ad54044477438b604fb5e841eea4e5b48e3c95564060f6"), looks := false }, kinds := [], alts := [], laidByText := true, laidKinds := [.data], laidTests := true, laidLooks := .later }
def WorldDelaysUptoCardSaid : Prop := Claim7.holds Tryz.pinned (.plain (OpenSpec.upto worldDelaysSpec)) worldDelaysUptoCard

/-- THE SECOND FORM's CARD OF 'skeplaw19.WorldBad'. -/
def worldBadUptoCard : Claim7 := { stood := { row := worldBadUptoRow, standIns := [], harness := (true, "945a9372eb6062a7c0ad54044477438b604fb5e841eea4e5b48e3c95564060f6"), looks := false }, kinds := [], alts := [], laidByText := true, laidKinds := [.data], laidTests := true, laidLooks := .later }
def WorldBadUptoCardSaid : Prop := Claim7.holds Tryz.pinned (.plain (OpenSpec.upto worldBadSpec)) worldBadUptoCard

/-- THE SECOND FORM's CARD OF 'skeplaw19.WorldBins'. -/
def worldBinsUptoCard : Claim7 := { stood := { row := worldBinsUptoRow, standIns := [], harness := (true, "945a9372eb6062a7c0ad54044477438b604fb5e841eea4e5b48e3c95564060f6"), looks := false }, kinds := [], alts := [], laidByText := true, laidKinds := [.data], laidTests := true, laidLooks := .later }
def WorldBinsUptoCardSaid : Prop := Claim7.holds Tryz.pinned (.plain (OpenSpec.upto worldBinsSpec)) worldBinsUptoCard

/-- THE SECOND FORM's CARD OF 'skeplaw19.WorldTwice'. -/
def worldTwiceUptoCard : Claim7 := { stood := { row := worldTwiceUptoRow, standIns := [], harness := (true, "945a9372eb6062a7c0ad54044477438b604fb5e841eea4e5b48e3c95564060f6"), looks := false }, kinds := [], alts := [], laidByText := true, laidKinds := [.data], laidTests := true, laidLooks := .later }
def WorldTwiceUptoCardSaid : Prop := Claim7.holds Tryz.pinned (.plain (OpenSpec.upto worldTwiceSpec)) worldTwiceUptoCard
end Rows
end Go.Proofs.YtmbibkifbehgnaaGreatDoor
