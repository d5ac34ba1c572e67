/-
  DERIVED. GIVEN WITH THE SEED: THE CARDS: each row of YtfnjchgidpljbaaDoorRows.lean that lists a variable, with what it lists TIED to the program's text (the seventh form; the later family's looks); each row that meets fmt, with fmt's text TOLD by the authors' own Lean function (tested against real Go, not proved from fmt's source: count such statements apart). THE CARD IS WHAT COUNTS. Prove the row's statement (the work); the ties are given (YtfnjchgidpljbaaDoorTie.lean); close each card by the builder's one call (the guide's Derived/Test/ToyasCard.lean, 'card_holds'). Laid BY PROGRAM, IN A SANDBOX (cutbox-door.mjs). By AI agents, Wed Nov 11 2026. No macro, syntax, notation, axiom, sorry.
-/
import Derived.Test.YtfnjchgidpljbaaDoorRows
import GoSem.ClaimSeven
namespace Go.Proofs.YtfnjchgidpljbaaDoor
namespace Rows

/-- THE TIED CARD OF 'chancellaw05.SegmentParts'. -/
def segmentPartsCard : Claim7 := { stood := { row := segmentPartsRow, standIns := [], harness := (true, "7b16ab9bee9d81ab422ceb264da433db8f0f76dc30c40220cb0093e6a2decde2"), looks := false }, kinds := [], alts := [], laidByText := true, laidKinds := [.data, .pinned], laidTests := true, laidLooks := .later }
def SegmentPartsCardSaid : Prop := Claim7.holds Tryd.pinned (.plain (OpenSpec.ofChange segmentPartsSpec)) segmentPartsCard

/-- THE TIED CARD OF 'chancellaw05.SegmentTakenBack'. -/
def segmentTakenBackCard : Claim7 := { stood := { row := segmentTakenBackRow, standIns := [], harness := (true, "7b16ab9bee9d81ab422ceb264da433db8f0f76dc30c40220cb0093e6a2decde2"), looks := false }, kinds := [], alts := [], laidByText := true, laidKinds := [.data, .pinned], laidTests := true, laidLooks := .later }
def SegmentTakenBackCardSaid : Prop := Claim7.holds Tryd.pinned (.plain (OpenSpec.ofChange segmentTakenBackSpec)) segmentTakenBackCard

/-- THE SECOND FORM's CARD OF 'chancellaw05.SegmentParts'. -/
def segmentPartsUptoCard : Claim7 := { stood := { row := segmentPartsUptoRow, standIns := [], harness := (true, "7b16ab9bee9d81ab422ceb264da433db8f0f76dc30c40220cb0093e6a2decde2"), looks := false }, kinds := [], alts := [], laidByText := true, laidKinds := [.data, .pinned], laidTests := true, laidLooks := .later }
def SegmentPartsUptoCardSaid : Prop := Claim7.holds Tryd.pinned (.plain (OpenSpec.upto segmentPartsSpec)) segmentPartsUptoCard

/-- THE SECOND FORM's CARD OF 'chancellaw05.SegmentTakenBack'. -/
def segmentTakenBackUptoCard : Claim7 := { stood := { row := segmentTakenBackUptoRow, standIns := [], harness := (true, "7b16ab9bee9d81ab422ceb264da433db8f0f76dc30c40220cb0093e6a2decde2"), looks := false }, kinds := [], alts := [], laidByText := true, laidKinds := [.data, .pinned], laidTests := true, laidLooks := .later }
def SegmentTakenBackUptoCardSaid : Prop := Claim7.holds Tryd.pinned (.plain (OpenSpec.upto segmentTakenBackSpec)) segmentTakenBackUptoCard
end Rows
end Go.Proofs.YtfnjchgidpljbaaDoor
