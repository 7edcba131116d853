/-
  DERIVED. GIVEN WITH THE SEED: THE CARDS: each row of YtjchghbmniifgaaGreatDoorRows.lean that lists a variable, with what it lists TIED to the program's text (the seventh form; the later family's looks); each row that meets fmt, with fmt's text TOLD by the authors' own Lean function (tested against real Go, not proved from fmt's source: count such statements apart). THE CARD IS WHAT COUNTS. Prove the row's statement (the work); the ties are given (YtjchghbmniifgaaGreatDoorTie.lean); close each card by the builder's one call (the guide's Derived/Test/ToyasCard.lean, 'card_holds'). Laid BY PROGRAM, IN A SANDBOX (cutbox-door.mjs). By AI agents, Wed Nov 11 2026. No macro, syntax, notation, axiom, sorry.
-/
import Derived.Test.YtjchghbmniifgaaGreatDoorRows
import GoSem.ClaimSeven
namespace Go.Proofs.YtjchghbmniifgaaGreatDoor
namespace Rows

/-- THE TIED CARD OF 'dowellaw14.ClearanceNorms'. -/
def clearanceNormsCard : Claim7 := { stood := { row := clearanceNormsRow, standIns := [], harness := (true, "062b658aabb290443ba23c78a64e7e77b16ab7ecb00fe0a681fc19af9b971ec8"), looks := true }, kinds := [], alts := [], laidByText := true, laidKinds := [.data, .data, .data, .data, .sentinel, .sentinel, .pinned], laidTests := true, laidLooks := .later }
def ClearanceNormsCardSaid : Prop := Claim7.holds Tryz.pinned (.plain (OpenSpec.ofChange clearanceNormsSpec)) clearanceNormsCard

/-- THE TIED CARD OF 'dowellaw14.ClearanceGaps'. -/
def clearanceGapsCard : Claim7 := { stood := { row := clearanceGapsRow, standIns := [], harness := (true, "062b658aabb290443ba23c78a64e7e77b16ab7ecb00fe0a681fc19af9b971ec8"), looks := true }, kinds := [], alts := [], laidByText := true, laidKinds := [.data, .data, .data, .data, .sentinel, .sentinel, .pinned], laidTests := true, laidLooks := .later }
def ClearanceGapsCardSaid : Prop := Claim7.holds Tryz.pinned (.plain (OpenSpec.ofChange clearanceGapsSpec)) clearanceGapsCard

/-- THE TIED CARD OF 'dowellaw14.ClearanceSolids'. -/
def clearanceSolidsCard : Claim7 := { stood := { row := clearanceSolidsRow, standIns := [], harness := (true, "062b658aabb290443ba23c78a64e7e77b16ab7ecb00fe0a681fc19af9b971ec8"), looks := true }, kinds := [], alts := [], laidByText := true, laidKinds := [.data, .data, .data, .data, .sentinel, .sentinel, .pinned], laidTests := true, laidLooks := .later }
def ClearanceSolidsCardSaid : Prop := Claim7.holds Tryz.pinned (.plain (OpenSpec.ofChange clearanceSolidsSpec)) clearanceSolidsCard

/-- THE TIED CARD OF 'dowellaw14.ClearanceVerifies'. -/
def clearanceVerifiesCard : Claim7 := { stood := { row := clearanceVerifiesRow, standIns := [], harness := (true, "062b658aabb290443ba23c78a64e7e77b16ab7ecb00fe0a681fc19af9b971ec8"), looks := true }, kinds := [], alts := [], laidByText := true, laidKinds := [.data, .data, .data, .data, .sentinel, .sentinel, .pinned], laidTests := true, laidLooks := .later }
def ClearanceVerifiesCardSaid : Prop := Claim7.holds Tryz.pinned (.plain (OpenSpec.ofChange clearanceVerifiesSpec)) clearanceVerifiesCard

/-- THE TIED CARD OF 'dowellaw14.ClearanceSpoiled'. -/
def clearanceSpoiledCard : Claim7 := { stood := { row := clearanceSpoiledRow, standIns := [], harness := (true, "062b658aabb290443ba23c78a64e7e77b16ab7ecb00fe0a681fc19af9b971ec8"), looks := true }, kinds := [], alts := [], laidByText := true, laidKinds := [.data, .data, .data, .data, .sentinel, .sentinel, .pinned], laidTests := true, laidLooks := .later }
def ClearanceSpoiledCardSaid : Prop := Claim7.holds Tryz.pinned (.plain (OpenSpec.ofChange clearanceSpoiledSpec)) clearanceSpoiledCard

/-- THE TIED CARD OF 'dowellaw14.ClearanceCells'. -/
def clearanceCellsCard : Claim7 := { stood := { row := clearanceCellsRow, standIns := [], harness := (true, "062b658aabb290443ba23c78a64e7e77b16ab7ecb00fe0a681fc19af9b971ec8"), looks := true }, kinds := [], alts := [], laidByText := true, laidKinds := [.data, .data, .data, .data, .sentinel, .sentinel, .pinned], laidTests := true, laidLooks := .later }
def ClearanceCellsCardSaid : Prop := Claim7.holds Tryz.pinned (.plain (OpenSpec.ofChange clearanceCellsSpec)) clearanceCellsCard

/-- THE TIED CARD OF 'dowellaw14.ClearanceMoves'. -/
def clearanceMovesCard : Claim7 := { stood := { row := clearanceMovesRow, standIns := [], harness := (true, "062b658aabb290443ba23c78a64e7e77b16ab7ecb00fe0a681fc19af9b971ec8"), looks := true }, kinds := [], alts := [], laidByText := true, laidKinds := [.data, .data, .data, .data, .sentinel, .sentinel, .pinned], laidTests := true, laidLooks := .later }
def ClearanceMovesCardSaid : Prop := Claim7.holds Tryz.pinned (.plain (OpenSpec.ofChange clearanceMovesSpec)) clearanceMovesCard

/-- THE TIED CARD OF 'dowellaw14.ClearanceWithin'. -/
def clearanceWithinCard : Claim7 := { stood := { row := clearanceWithinRow, standIns := [], harness := (true, "062b658aabb290443ba23c78a64e7e77b16ab7ecb00fe0a681fc19af9b971ec8"), looks := true }, kinds := [], alts := [], laidByText := true, laidKinds := [.data, .data, .data, .data, .sentinel, .sentinel, .pinned], laidTests := true, laidLooks := .later }
def ClearanceWithinCardSaid : Prop := Claim7.holds Tryz.pinned (.plain (OpenSpec.ofChange clearanceWithinSpec)) clearanceWithinCard

/-- THE TIED CARD OF 'dowellaw14.ClearanceParts'. -/
def clearancePartsCard : Claim7 := { stood := { row := clearancePartsRow, standIns := [], harness := (true, "062b658aabb290443ba23c78a64e7e77b16ab7ecb00fe0a681fc19af9b971ec8"), looks := true }, kinds := [], alts := [], laidByText := true, laidKinds := [.data, .data, .data, .data, .sentinel, .sentinel, .pinned], laidTests := true, laidLooks := .later }
def ClearancePartsCardSaid : Prop := Claim7.holds Tryz.pinned (.plain (OpenSpec.ofChange clearancePartsSpec)) clearancePartsCard

/-- THE TIED CARD OF 'dowellaw14.ClearanceTables'. -/
def clearanceTablesCard : Claim7 := { stood := { row := clearanceTablesRow, standIns := [], harness := (true, "062b658aabb290443ba23c78a64e7e77b16ab7ecb00fe0a681fc19af9b971ec8"), looks := true }, kinds := [], alts := [], laidByText := true, laidKinds := [.data, .data, .data, .data, .sentinel, .sentinel, .pinned], laidTests := true, laidLooks := .later }
def ClearanceTablesCardSaid : Prop := Claim7.holds Tryz.pinned (.plain (OpenSpec.ofChange clearanceTablesSpec)) clearanceTablesCard

/-- THE TIED CARD OF 'dowellaw14.ClearanceNearest'. -/
def clearanceNearestCard : Claim7 := { stood := { row := clearanceNearestRow, standIns := [], harness := (true, "062b658aabb290443ba23c78a64e7e77b16ab7ecb00fe0a681fc19af9b971ec8"), looks := true }, kinds := [], alts := [], laidByText := true, laidKinds := [.data, .data, .data, .data, .sentinel, .sentinel, .pinned], laidTests := true, laidLooks := .later }
def ClearanceNearestCardSaid : Prop := Claim7.holds Tryz.pinned (.plain (OpenSpec.ofChange clearanceNearestSpec)) clearanceNearestCard

/-- THE SECOND FORM's CARD OF 'dowellaw14.ClearanceNorms'. -/
def clearanceNormsUptoCard : Claim7 := { stood := { row := clearanceNormsUptoRow, standIns := [], harness := (true, "062b658aabb290443ba23c78a64e7e77b16ab7ecb00fe0a681fc19af9b971ec8"), looks := true }, kinds := [], alts := [], laidByText := true, laidKinds := [.data, .data, .data, .data, .sentinel, .sentinel, .pinned], laidTests := true, laidLooks := .later }
def ClearanceNormsUptoCardSaid : Prop := Claim7.holds Tryz.pinned (.plain (OpenSpec.upto clearanceNormsSpec)) clearanceNormsUptoCard

/-- THE SECOND FORM's CARD OF 'dowellaw14.ClearanceGaps'. -/
def clearanceGapsUptoCard : Claim7 := { stood := { row := clearanceGapsUptoRow, standIns := [], harness := (true, "062b658aabb290443ba23c78a64e7e77b16ab7ecb00fe0a681fc19af9b971ec8"), looks := true }, kinds := [], alts := [], laidByText := true, laidKinds := [.data, .data, .data, .data, .sentinel, .sentinel, .pinned], laidTests := true, laidLooks := .later }
def ClearanceGapsUptoCardSaid : Prop := Claim7.holds Tryz.pinned (.plain (OpenSpec.upto clearanceGapsSpec)) clearanceGapsUptoCard

/-- THE SECOND FORM's CARD OF 'dowellaw14.ClearanceSolids'. -/
def clearanceSolidsUptoCard : Claim7 := { stood := { row := clearanceSolidsUptoRow, standIns := [], harness := (true, "062b658aabb290443ba23c78a64e7e77b16ab7ecb00fe0a681fc19af9b971ec8"), looks := true }, kinds := [], alts := [], laidByText := true, laidKinds := [.data, .data, .data, .data, .sentinel, .sentinel, .pinned], laidTests := true, laidLooks := .later }
def ClearanceSolidsUptoCardSaid : Prop := Claim7.holds Tryz.pinned (.plain (OpenSpec.upto clearanceSolidsSpec)) clearanceSolidsUptoCard

/-- THE SECOND FORM's CARD OF 'dowellaw14.ClearanceVerifies'. -/
def clearanceVerifiesUptoCard : Claim7 := { stood := { row := clearanceVerifiesUptoRow, standIns := [], harness := (true, "062b658aabb290443ba23c78a64e7e77b16ab7ecb00fe0a681fc19af9b971ec8"), looks := true }, kinds := [], alts := [], laidByText := true, laidKinds := [.data, .data, .data, .data, .sentinel, .sentinel, .pinned], laidTests := true, laidLooks := .later }
def ClearanceVerifiesUptoCardSaid : Prop := Claim7.holds Tryz.pinned (.plain (OpenSpec.upto clearanceVerifiesSpec)) clearanceVerifiesUptoCard

/-- THE SECOND FORM's CARD OF 'dowellaw14.ClearanceSpoiled'. -/
def clearanceSpoiledUptoCard : Claim7 := { stood := { row := clearanceSpoiledUptoRow, standIns := [], harness := (true, "062b658aabb290443ba23c78a64e7e77b16ab7ecb00fe0a681fc19af9b971ec8"), looks := true }, kinds := [], alts := [], laidByText := true, laidKinds := [.data, .data, .data, .data, .sentinel, .sentinel, .pinned], laidTests := true, laidLooks := .later }
def ClearanceSpoiledUptoCardSaid : Prop := Claim7.holds Tryz.pinned (.plain (OpenSpec.upto clearanceSpoiledSpec)) clearanceSpoiledUptoCard

/-- THE SECOND FORM's CARD OF 'dowellaw14.ClearanceCells'. -/
def clearanceCellsUptoCard : Claim7 := { stood := { row := clearanceCellsUptoRow, standIns := [], harness := (true, "062b658aabb290443ba23c78a64e7e77b16ab7ecb00fe0a681fc19af9b971ec8"), looks := true }, kinds := [], alts := [], laidByText := true, laidKinds := [.data, .data, .data, .data, .sentinel, .sentinel, .pinned], laidTests := true, laidLooks := .later }
def ClearanceCellsUptoCardSaid : Prop := Claim7.holds Tryz.pinned (.plain (OpenSpec.upto clearanceCellsSpec)) clearanceCellsUptoCard

/-- THE SECOND FORM's CARD OF 'dowellaw14.ClearanceMoves'. -/
def clearanceMovesUptoCard : Claim7 := { stood := { row := clearanceMovesUptoRow, standIns := [], harness := (true, "062b658aabb290443ba23c78a64e7e77b16ab7ecb00fe0a681fc19af9b971ec8"), looks := true }, kinds := [], alts := [], laidByText := true, laidKinds := [.data, .data, .data, .data, .sentinel, .sentinel, .pinned], laidTests := true, laidLooks := .later }
def ClearanceMovesUptoCardSaid : Prop := Claim7.holds Tryz.pinned (.plain (OpenSpec.upto clearanceMovesSpec)) clearanceMovesUptoCard

/-- THE SECOND FORM's CARD OF 'dowellaw14.ClearanceWithin'. -/
def clearanceWithinUptoCard : Claim7 := { stood := { row := clearanceWithinUptoRow, standIns := [], harness := (true, "062b658aabb290443ba23c78a64e7e77b16ab7ecb00fe0a681fc19af9b971ec8"), looks := true }, kinds := [], alts := [], laidByText := true, laidKinds := [.data, .data, .data, .data, .sentinel, .sentinel, .pinned], laidTests := true, laidLooks := .later }
def ClearanceWithinUptoCardSaid : Prop := Claim7.holds Tryz.pinned (.plain (OpenSpec.upto clearanceWithinSpec)) clearanceWithinUptoCard

/-- THE SECOND FORM's CARD OF 'dowellaw14.ClearanceParts'. -/
def clearancePartsUptoCard : Claim7 := { stood := { row := clearancePartsUptoRow, standIns := [], harness := (true, "062b658aabb290443ba23c78a64e7e77b16ab7ecb00fe0a681fc19af9b971ec8"), looks := true }, kinds := [], alts := [], laidByText := true, laidKinds := [.data, .data, .data, .data, .sentinel, .sentinel, .pinned], laidTests := true, laidLooks := .later }
def ClearancePartsUptoCardSaid : Prop := Claim7.holds Tryz.pinned (.plain (OpenSpec.upto clearancePartsSpec)) clearancePartsUptoCard

/-- THE SECOND FORM's CARD OF 'dowellaw14.ClearanceTables'. -/
def clearanceTablesUptoCard : Claim7 := { stood := { row := clearanceTablesUptoRow, standIns := [], harness := (true, "062b658aabb290443ba23c78a64e7e77b16ab7ecb00fe0a681fc19af9b971ec8"), looks := true }, kinds := [], alts := [], laidByText := true, laidKinds := [.data, .data, .data, .data, .sentinel, .sentinel, .pinned], laidTests := true, laidLooks := .later }
def ClearanceTablesUptoCardSaid : Prop := Claim7.holds Tryz.pinned (.plain (OpenSpec.upto clearanceTablesSpec)) clearanceTablesUptoCard

/-- THE SECOND FORM's CARD OF 'dowellaw14.ClearanceNearest'. -/
def clearanceNearestUptoCard : Claim7 := { stood := { row := clearanceNearestUptoRow, standIns := [], harness := (true, "062b658aabb290443ba23c78a64e7e77b16ab7ecb00fe0a681fc19af9b971ec8"), looks := true }, kinds := [], alts := [], laidByText := true, laidKinds := [.data, .data, .data, .data, .sentinel, .sentinel, .pinned], laidTests := true, laidLooks := .later }
def ClearanceNearestUptoCardSaid : Prop := Claim7.holds Tryz.pinned (.plain (OpenSpec.upto clearanceNearestSpec)) clearanceNearestUptoCard
end Rows
end Go.Proofs.YtjchghbmniifgaaGreatDoor
