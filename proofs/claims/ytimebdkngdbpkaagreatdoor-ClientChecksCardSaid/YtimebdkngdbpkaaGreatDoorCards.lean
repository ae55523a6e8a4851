/-
  DERIVED. GIVEN WITH THE SEED: THE CARDS: each row of YtimebdkngdbpkaaGreatDoorRows.lean that lists a variable, with what it lists TIED to the program's text (the seventh form; the later family's looks); each row that meets fmt, with fmt's text TOLD by the authors' own Lean function (tested against real Go, not proved from fmt's source: count such statements apart). THE CARD IS WHAT COUNTS. Prove the row's statement (the work); the ties are given (YtimebdkngdbpkaaGreatDoorTie.lean); close each card by the builder's one call (the guide's Derived/Test/ToyasCard.lean, 'card_holds'). Laid BY PROGRAM, IN A SANDBOX (cutbox-door.mjs). By AI agents, Wed Nov 11 2026. No macro, syntax, notation, axiom, sorry.
-/
import Derived.Test.YtimebdkngdbpkaaGreatDoorRows
import GoSem.ClaimSeven
namespace Go.Proofs.YtimebdkngdbpkaaGreatDoor
namespace Rows

/-- THE TIED CARD OF 'rubricklaw20.ClientChecks'. -/
def clientChecksCard : Claim7 := { stood := { row := clientChecksRow, standIns := [], harness := (true, "379eee9b1cd77ba0b7cbe546e7d35a894539d96110e2c98ee1048b4d1fc0c0ec"), looks := false }, kinds := [], alts := [], laidByText := true, laidKinds := [.data, .data, .data, .data], laidTests := true, laidLooks := .later }
def ClientChecksCardSaid : Prop := Claim7.holds Tryz.pinned (.plain (OpenSpec.ofChange clientChecksSpec)) clientChecksCard

/-- THE TIED CARD OF 'rubricklaw20.ClientMerges'. -/
def clientMergesCard : Claim7 := { stood := { row := clientMergesRow, standIns := [], harness := (true, "379eee9b1cd77ba0b7cbe546e7d35a894539d96110e2c98ee1048b4d1fc0c0ec"), looks := false }, kinds := [], alts := [], laidByText := true, laidKinds := [.data, .data, .data, .data], laidTests := true, laidLooks := .later }
def ClientMergesCardSaid : Prop := Claim7.holds Tryz.pinned (.plain (OpenSpec.ofChange clientMergesSpec)) clientMergesCard

/-- THE TIED CARD OF 'rubricklaw20.ClientOther'. -/
def clientOtherCard : Claim7 := { stood := { row := clientOtherRow, standIns := [], harness := (true, "379eee9b1cd77ba0b7cbe546e7d35a894539d96110e2c98ee1048b4d1fc0c0ec"), looks := false }, kinds := [], alts := [], laidByText := true, laidKinds := [.data, .data, .data, .data], laidTests := true, laidLooks := .later }
def ClientOtherCardSaid : Prop := Claim7.holds Tryz.pinned (.plain (OpenSpec.ofChange clientOtherSpec)) clientOtherCard

/-- THE TIED CARD OF 'rubricklaw20.ClientAccepts'. -/
def clientAcceptsCard : Claim7 := { stood := { row := clientAcceptsRow, standIns := [], harness := (true, "379eee9b1cd77ba0b7cbe546e7d35a894539d96110e2c98ee1048b4d1fc0c0ec"), looks := false }, kinds := [], alts := [], laidByText := true, laidKinds := [.data, .data, .data, .data], laidTests := true, laidLooks := .later }
def ClientAcceptsCardSaid : Prop := Claim7.holds Tryz.pinned (.plain (OpenSpec.ofChange clientAcceptsSpec)) clientAcceptsCard

/-- THE TIED CARD OF 'rubricklaw20.ClientFetches'. -/
def clientFetchesCard : Claim7 := { stood := { row := clientFetchesRow, standIns := [], harness := (true, "379eee9b1cd77ba0b7cbe546e7d35a894539d96110e2c98ee1048b4d1fc0c0ec"), looks := false }, kinds := [], alts := [], laidByText := true, laidKinds := [.data, .data, .data, .data], laidTests := true, laidLooks := .later }
def ClientFetchesCardSaid : Prop := Claim7.holds Tryz.pinned (.plain (OpenSpec.ofChange clientFetchesSpec)) clientFetchesCard

/-- THE TIED CARD OF 'rubricklaw20.ClientRefuses'. -/
def clientRefusesCard : Claim7 := { stood := { row := clientRefusesRow, standIns := [], harness := (true, "379eee9b1cd77ba0b7cbe546e7d35a894539d96110e2c98ee1048b4d1fc0c0ec"), looks := false }, kinds := [], alts := [], laidByText := true, laidKinds := [.data, .data, .data, .data], laidTests := true, laidLooks := .later }
def ClientRefusesCardSaid : Prop := Claim7.holds Tryz.pinned (.plain (OpenSpec.ofChange clientRefusesSpec)) clientRefusesCard

/-- THE TIED CARD OF 'rubricklaw20.ClientFollows'. -/
def clientFollowsCard : Claim7 := { stood := { row := clientFollowsRow, standIns := [], harness := (true, "379eee9b1cd77ba0b7cbe546e7d35a894539d96110e2c98ee1048b4d1fc0c0ec"), looks := false }, kinds := [], alts := [], laidByText := true, laidKinds := [.data, .data, .data, .data], laidTests := true, laidLooks := .later }
def ClientFollowsCardSaid : Prop := Claim7.holds Tryz.pinned (.plain (OpenSpec.ofChange clientFollowsSpec)) clientFollowsCard

/-- THE SECOND FORM's CARD OF 'rubricklaw20.ClientChecks'. -/
def clientChecksUptoCard : Claim7 := { stood := { row := clientChecksUptoRow, standIns := [], harness := (true, "379eee9b1cd77ba0b7cbe546e7d35a894539d96110e2c98ee1048b4d1fc0c0ec"), looks := false }, kinds := [], alts := [], laidByText := true, laidKinds := [.data, .data, .data, .data], laidTests := true, laidLooks := .later }
def ClientChecksUptoCardSaid : Prop := Claim7.holds Tryz.pinned (.plain (OpenSpec.upto clientChecksSpec)) clientChecksUptoCard

/-- THE SECOND FORM's CARD OF 'rubricklaw20.ClientMerges'. -/
def clientMergesUptoCard : Claim7 := { stood := { row := clientMergesUptoRow, standIns := [], harness := (true, "379eee9b1cd77ba0b7cbe546e7d35a894539d96110e2c98ee1048b4d1fc0c0ec"), looks := false }, kinds := [], alts := [], laidByText := true, laidKinds := [.data, .data, .data, .data], laidTests := true, laidLooks := .later }
def ClientMergesUptoCardSaid : Prop := Claim7.holds Tryz.pinned (.plain (OpenSpec.upto clientMergesSpec)) clientMergesUptoCard

/-- THE SECOND FORM's CARD OF 'rubricklaw20.ClientOther'. -/
def clientOtherUptoCard : Claim7 := { stood := { row := clientOtherUptoRow, standIns := [], harness := (true, "379eee9b1cd77ba0b7cbe546e7d35a894539d96110e2c98ee1048b4d1fc0c0ec"), looks := false }, kinds := [], alts := [], laidByText := true, laidKinds := [.data, .data, .data, .data], laidTests := true, laidLooks := .later }
def ClientOtherUptoCardSaid : Prop := Claim7.holds Tryz.pinned (.plain (OpenSpec.upto clientOtherSpec)) clientOtherUptoCard

/-- THE SECOND FORM's CARD OF 'rubricklaw20.ClientAccepts'. -/
def clientAcceptsUptoCard : Claim7 := { stood := { row := clientAcceptsUptoRow, standIns := [], harness := (true, "379eee9b1cd77ba0b7cbe546e7d35a894539d96110e2c98ee1048b4d1fc0c0ec"), looks := false }, kinds := [], alts := [], laidByText := true, laidKinds := [.data, .data, .data, .data], laidTests := true, laidLooks := .later }
def ClientAcceptsUptoCardSaid : Prop := Claim7.holds Tryz.pinned (.plain (OpenSpec.upto clientAcceptsSpec)) clientAcceptsUptoCard

/-- THE SECOND FORM's CARD OF 'rubricklaw20.ClientFetches'. -/
def clientFetchesUptoCard : Claim7 := { stood := { row := clientFetchesUptoRow, standIns := [], harness := (true, "379eee9b1cd77ba0b7cbe546e7d35a894539d96110e2c98ee1048b4d1fc0c0ec"), looks := false }, kinds := [], alts := [], laidByText := true, laidKinds := [.data, .data, .data, .data], laidTests := true, laidLooks := .later }
def ClientFetchesUptoCardSaid : Prop := Claim7.holds Tryz.pinned (.plain (OpenSpec.upto clientFetchesSpec)) clientFetchesUptoCard

/-- THE SECOND FORM's CARD OF 'rubricklaw20.ClientRefuses'. -/
def clientRefusesUptoCard : Claim7 := { stood := { row := clientRefusesUptoRow, standIns := [], harness := (true, "379eee9b1cd77ba0b7cbe546e7d35a894539d96110e2c98ee1048b4d1fc0c0ec"), looks := false }, kinds := [], alts := [], laidByText := true, laidKinds := [.data, .data, .data, .data], laidTests := true, laidLooks := .later }
def ClientRefusesUptoCardSaid : Prop := Claim7.holds Tryz.pinned (.plain (OpenSpec.upto clientRefusesSpec)) clientRefusesUptoCard

/-- THE SECOND FORM's CARD OF 'rubricklaw20.ClientFollows'. -/
def clientFollowsUptoCard : Claim7 := { stood := { row := clientFollowsUptoRow, standIns := [], harness := (true, "379eee9b1cd77ba0b7cbe546e7d35a894539d96110e2c98ee1048b4d1fc0c0ec"), looks := false }, kinds := [], alts := [], laidByText := true, laidKinds := [.data, .data, .data, .data], laidTests := true, laidLooks := .later }
def ClientFollowsUptoCardSaid : Prop := Claim7.holds Tryz.pinned (.plain (OpenSpec.upto clientFollowsSpec)) clientFollowsUptoCard
end Rows
end Go.Proofs.YtimebdkngdbpkaaGreatDoor
