/-
  DERIVED. GIVEN WITH THE SEED: THE CARDS: each row of YtcjcbgeogaighaaGreatDoorRows.lean that lists a variable, with what it lists TIED to the program's text (the seventh form; the later family's looks); each row that meets fmt, with fmt's text TOLD by the authors' own Lean function (tested against real Go, not proved from fmt's source: count such statements apart). THE CARD IS WHAT COUNTS. Prove the row's statement (the work); the ties are given (YtcjcbgeogaighaaGreatDoorTie.lean); close each card by the builder's one call (the guide's Derived/Test/ToyasCard.lean, 'card_holds'). Laid BY PROGRAM, IN A SANDBOX (cutbox-door.mjs). By AI agents, Wed Nov 11 2026. No macro, syntax, notation, axiom, sorry.
-/
import Derived.Test.YtcjcbgeogaighaaGreatDoorRows
import GoSem.ClaimSeven
namespace Go.Proofs.YtcjcbgeogaighaaGreatDoor
namespace Rows

/-- THE TIED CARD OF 'cloisterlaw8.MMUAlone'. -/
def mMUAloneCard : Claim7 := { stood := { row := mMUAloneRow, standIns := [], harness := (true, "2ae7f5ba69d7af0ac23d063683252b747e504e15586f03ab1afc37b5da91b370"), looks := false }, kinds := [], alts := [], laidByText := true, laidKinds := [.data, .data], laidTests := true, laidLooks := .later }
def MMUAloneCardSaid : Prop := Claim7.holds Tryz.pinned (.plain (OpenSpec.ofChange mMUAloneSpec)) mMUAloneCard

/-- THE TIED CARD OF 'cloisterlaw8.MMUSees'. -/
def mMUSeesCard : Claim7 := { stood := { row := mMUSeesRow, standIns := [], harness := (true, "2ae7f5ba69d7af0ac23d063683252b747e504e15586f03ab1afc37b5da91b370"), looks := false }, kinds := [], alts := [], laidByText := true, laidKinds := [.data, .data], laidTests := true, laidLooks := .later }
def MMUSeesCardSaid : Prop := Claim7.holds Tryz.pinned (.plain (OpenSpec.ofChange mMUSeesSpec)) mMUSeesCard

/-- THE TIED CARD OF 'cloisterlaw8.MMUApart'. -/
def mMUApartCard : Claim7 := { stood := { row := mMUApartRow, standIns := [], harness := (true, "2ae7f5ba69d7af0ac23d063683252b747e504e15586f03ab1afc37b5da91b370"), looks := false }, kinds := [], alts := [], laidByText := true, laidKinds := [.data, .data], laidTests := true, laidLooks := .later }
def MMUApartCardSaid : Prop := Claim7.holds Tryz.pinned (.plain (OpenSpec.ofChange mMUApartSpec)) mMUApartCard

/-- THE SECOND FORM's CARD OF 'cloisterlaw8.MMUAlone'. -/
def mMUAloneUptoCard : Claim7 := { stood := { row := mMUAloneUptoRow, standIns := [], harness := (true, "2ae7f5ba69d7af0ac23d063683252b747e504e15586f03ab1afc37b5da91b370"), looks := false }, kinds := [], alts := [], laidByText := true, laidKinds := [.data, .data], laidTests := true, laidLooks := .later }
def MMUAloneUptoCardSaid : Prop := Claim7.holds Tryz.pinned (.plain (OpenSpec.upto mMUAloneSpec)) mMUAloneUptoCard

/-- THE SECOND FORM's CARD OF 'cloisterlaw8.MMUSees'. -/
def mMUSeesUptoCard : Claim7 := { stood := { row := mMUSeesUptoRow, standIns := [], harness := (true, "2ae7f5ba69d7af0ac23d063683252b747e504e15586f03ab1afc37b5da91b370"), looks := false }, kinds := [], alts := [], laidByText := true, laidKinds := [.data, .data], laidTests := true, laidLooks := .later }
def MMUSeesUptoCardSaid : Prop := Claim7.holds Tryz.pinned (.plain (OpenSpec.upto mMUSeesSpec)) mMUSeesUptoCard

/-- THE SECOND FORM's CARD OF 'cloisterlaw8.MMUApart'. -/
def mMUApartUptoCard : Claim7 := { stood := { row := mMUApartUptoRow, standIns := [], harness := (true, "2ae7f5ba69d7af0ac23d063683252b747e504e15586f03ab1afc37b5da91b370"), looks := false }, kinds := [], alts := [], laidByText := true, laidKinds := [.data, .data], laidTests := true, laidLooks := .later }
def MMUApartUptoCardSaid : Prop := Claim7.holds Tryz.pinned (.plain (OpenSpec.upto mMUApartSpec)) mMUApartUptoCard
end Rows
end Go.Proofs.YtcjcbgeogaighaaGreatDoor
