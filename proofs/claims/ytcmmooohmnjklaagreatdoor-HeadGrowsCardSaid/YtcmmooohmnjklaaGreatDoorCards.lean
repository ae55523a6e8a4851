/-
  DERIVED. GIVEN WITH THE SEED: THE CARDS: each row of YtcmmooohmnjklaaGreatDoorRows.lean that lists a variable, with what it lists TIED to the program's text (the seventh form; the later family's looks); each row that meets fmt, with fmt's text TOLD by the authors' own Lean function (tested against real Go, not proved from fmt's source: count such statements apart). THE CARD IS WHAT COUNTS. Prove the row's statement (the work); the ties are given (YtcmmooohmnjklaaGreatDoorTie.lean); close each card by the builder's one call (the guide's Derived/Test/ToyasCard.lean, 'card_holds'). Laid BY PROGRAM, IN A SANDBOX (cutbox-door.mjs). By AI agents, Wed Nov 11 2026. No macro, syntax, notation, axiom, sorry.
-/
import Derived.Test.YtcmmooohmnjklaaGreatDoorRows
import GoSem.ClaimSeven
namespace Go.Proofs.YtcmmooohmnjklaaGreatDoor
namespace Rows

/-- THE TIED CARD OF 'rubricklaw14.PlanRights'. -/
def planRightsCard : Claim7 := { stood := { row := planRightsRow, standIns := [], harness := (true, "6f3e704525b95314a42a22597d8dbd2cc0eb7773d587da2d79d1e3db5ae0eda1"), looks := false }, kinds := [], alts := [], laidByText := true, laidKinds := [.data, .data, .data, .data], laidTests := true, laidLooks := .later }
def PlanRightsCardSaid : Prop := Claim7.holds Tryz.pinned (.plain (OpenSpec.ofChange planRightsSpec)) planRightsCard

/-- THE TIED CARD OF 'rubricklaw14.PlanPlays'. -/
def planPlaysCard : Claim7 := { stood := { row := planPlaysRow, standIns := [], harness := (true, "6f3e704525b95314a42a22597d8dbd2cc0eb7773d587da2d79d1e3db5ae0eda1"), looks := false }, kinds := [], alts := [], laidByText := true, laidKinds := [.data, .data, .data, .data], laidTests := true, laidLooks := .later }
def PlanPlaysCardSaid : Prop := Claim7.holds Tryz.pinned (.plain (OpenSpec.ofChange planPlaysSpec)) planPlaysCard

/-- THE TIED CARD OF 'rubricklaw14.PlanStays'. -/
def planStaysCard : Claim7 := { stood := { row := planStaysRow, standIns := [], harness := (true, "6f3e704525b95314a42a22597d8dbd2cc0eb7773d587da2d79d1e3db5ae0eda1"), looks := false }, kinds := [], alts := [], laidByText := true, laidKinds := [.data, .data, .data, .data], laidTests := true, laidLooks := .later }
def PlanStaysCardSaid : Prop := Claim7.holds Tryz.pinned (.plain (OpenSpec.ofChange planStaysSpec)) planStaysCard

/-- THE TIED CARD OF 'rubricklaw14.PlanKeeps'. -/
def planKeepsCard : Claim7 := { stood := { row := planKeepsRow, standIns := [], harness := (true, "6f3e704525b95314a42a22597d8dbd2cc0eb7773d587da2d79d1e3db5ae0eda1"), looks := false }, kinds := [], alts := [], laidByText := true, laidKinds := [.data, .data, .data, .data], laidTests := true, laidLooks := .later }
def PlanKeepsCardSaid : Prop := Claim7.holds Tryz.pinned (.plain (OpenSpec.ofChange planKeepsSpec)) planKeepsCard

/-- THE TIED CARD OF 'rubricklaw15.HeadTells'. -/
def headTellsCard : Claim7 := { stood := { row := headTellsRow, standIns := [], harness := (true, "6f3e704525b95314a42a22597d8dbd2cc0eb7773d587da2d79d1e3db5ae0eda1"), looks := false }, kinds := [], alts := [], laidByText := true, laidKinds := [.data, .data, .data, .data], laidTests := true, laidLooks := .later }
def HeadTellsCardSaid : Prop := Claim7.holds Tryz.pinned (.plain (OpenSpec.ofChange headTellsSpec)) headTellsCard

/-- THE TIED CARD OF 'rubricklaw15.HeadBack'. -/
def headBackCard : Claim7 := { stood := { row := headBackRow, standIns := [], harness := (true, "6f3e704525b95314a42a22597d8dbd2cc0eb7773d587da2d79d1e3db5ae0eda1"), looks := false }, kinds := [], alts := [], laidByText := true, laidKinds := [.data, .data, .data, .data], laidTests := true, laidLooks := .later }
def HeadBackCardSaid : Prop := Claim7.holds Tryz.pinned (.plain (OpenSpec.ofChange headBackSpec)) headBackCard

/-- THE TIED CARD OF 'rubricklaw15.HeadApart'. -/
def headApartCard : Claim7 := { stood := { row := headApartRow, standIns := [], harness := (true, "6f3e704525b95314a42a22597d8dbd2cc0eb7773d587da2d79d1e3db5ae0eda1"), looks := false }, kinds := [], alts := [], laidByText := true, laidKinds := [.data, .data, .data, .data], laidTests := true, laidLooks := .later }
def HeadApartCardSaid : Prop := Claim7.holds Tryz.pinned (.plain (OpenSpec.ofChange headApartSpec)) headApartCard

/-- THE TIED CARD OF 'rubricklaw14.PlanRow'. -/
def planRowCard : Claim7 := { stood := { row := planRowRow, standIns := [], harness := (true, "6f3e704525b95314a42a22597d8dbd2cc0eb7773d587da2d79d1e3db5ae0eda1"), looks := false }, kinds := [], alts := [], laidByText := true, laidKinds := [.data, .data, .data, .data], laidTests := true, laidLooks := .later }
def PlanRowCardSaid : Prop := Claim7.holds Tryz.pinned (.plain (OpenSpec.ofChange planRowSpec)) planRowCard

/-- THE TIED CARD OF 'rubricklaw14.PlanHas'. -/
def planHasCard : Claim7 := { stood := { row := planHasRow, standIns := [], harness := (true, "6f3e704525b95314a42a22597d8dbd2cc0eb7773d587da2d79d1e3db5ae0eda1"), looks := false }, kinds := [], alts := [], laidByText := true, laidKinds := [.data, .data, .data, .data], laidTests := true, laidLooks := .later }
def PlanHasCardSaid : Prop := Claim7.holds Tryz.pinned (.plain (OpenSpec.ofChange planHasSpec)) planHasCard

/-- THE TIED CARD OF 'rubricklaw15.HeadLog'. -/
def headLogCard : Claim7 := { stood := { row := headLogRow, standIns := [], harness := (true, "6f3e704525b95314a42a22597d8dbd2cc0eb7773d587da2d79d1e3db5ae0eda1"), looks := false }, kinds := [], alts := [], laidByText := true, laidKinds := [.data, .data, .data, .data], laidTests := true, laidLooks := .later }
def HeadLogCardSaid : Prop := Claim7.holds Tryz.pinned (.plain (OpenSpec.ofChange headLogSpec)) headLogCard

/-- THE TIED CARD OF 'rubricklaw15.HeadGrows'. -/
def headGrowsCard : Claim7 := { stood := { row := headGrowsRow, standIns := [], harness := (true, "6f3e704525b95314a42a22597d8dbd2cc0eb7773d587da2d79d1e3db5ae0eda1"), looks := false }, kinds := [], alts := [], laidByText := true, laidKinds := [.data, .data, .data, .data], laidTests := true, laidLooks := .later }
def HeadGrowsCardSaid : Prop := Claim7.holds Tryz.pinned (.plain (OpenSpec.ofChange headGrowsSpec)) headGrowsCard

/-- THE SECOND FORM's CARD OF 'rubricklaw14.PlanRights'. -/
def planRightsUptoCard : Claim7 := { stood := { row := planRightsUptoRow, standIns := [], harness := (true, "6f3e704525b95314a42a22597d8dbd2cc0eb7773d587da2d79d1e3db5ae0eda1"), looks := false }, kinds := [], alts := [], laidByText := true, laidKinds := [.data, .data, .data, .data], laidTests := true, laidLooks := .later }
def PlanRightsUptoCardSaid : Prop := Claim7.holds Tryz.pinned (.plain (OpenSpec.upto planRightsSpec)) planRightsUptoCard

/-- THE SECOND FORM's CARD OF 'rubricklaw14.PlanPlays'. -/
def planPlaysUptoCard : Claim7 := { stood := { row := planPlaysUptoRow, standIns := [], harness := (true, "6f3e704525b95314a42a22597d8dbd2cc0eb7773d587da2d79d1e3db5ae0eda1"), looks := false }, kinds := [], alts := [], laidByText := true, laidKinds := [.data, .data, .data, .data], laidTests := true, laidLooks := .later }
def PlanPlaysUptoCardSaid : Prop := Claim7.holds Tryz.pinned (.plain (OpenSpec.upto planPlaysSpec)) planPlaysUptoCard

/-- THE SECOND FORM's CARD OF 'rubricklaw14.PlanStays'. -/
def planStaysUptoCard : Claim7 := { stood := { row := planStaysUptoRow, standIns := [], harness := (true, "6f3e704525b95314a42a22597d8dbd2cc0eb7773d587da2d79d1e3db5ae0eda1"), looks := false }, kinds := [], alts := [], laidByText := true, laidKinds := [.data, .data, .data, .data], laidTests := true, laidLooks := .later }
def PlanStaysUptoCardSaid : Prop := Claim7.holds Tryz.pinned (.plain (OpenSpec.upto planStaysSpec)) planStaysUptoCard

/-- THE SECOND FORM's CARD OF 'rubricklaw14.PlanKeeps'. -/
def planKeepsUptoCard : Claim7 := { stood := { row := planKeepsUptoRow, standIns := [], harness := (true, "6f3e704525b95314a42a22597d8dbd2cc0eb7773d587da2d79d1e3db5ae0eda1"), looks := false }, kinds := [], alts := [], laidByText := true, laidKinds := [.data, .data, .data, .data], laidTests := true, laidLooks := .later }
def PlanKeepsUptoCardSaid : Prop := Claim7.holds Tryz.pinned (.plain (OpenSpec.upto planKeepsSpec)) planKeepsUptoCard

/-- THE SECOND FORM's CARD OF 'rubricklaw15.HeadTells'. -/
def headTellsUptoCard : Claim7 := { stood := { row := headTellsUptoRow, standIns := [], harness := (true, "6f3e704525b95314a42a22597d8dbd2cc0eb7773d587da2d79d1e3db5ae0eda1"), looks := false }, kinds := [], alts := [], laidByText := true, laidKinds := [.data, .data, .data, .data], laidTests := true, laidLooks := .later }
def HeadTellsUptoCardSaid : Prop := Claim7.holds Tryz.pinned (.plain (OpenSpec.upto headTellsSpec)) headTellsUptoCard

/-- THE SECOND FORM's CARD OF 'rubricklaw15.HeadBack'. -/
def headBackUptoCard : Claim7 := { stood := { row := headBackUptoRow, standIns := [], harness := (true, "6f3e704525b95314a42a22597d8dbd2cc0eb7773d587da2d79d1e3db5ae0eda1"), looks := false }, kinds := [], alts := [], laidByText := true, laidKinds := [.data, .data, .data, .data], laidTests := true, laidLooks := .later }
def HeadBackUptoCardSaid : Prop := Claim7.holds Tryz.pinned (.plain (OpenSpec.upto headBackSpec)) headBackUptoCard

/-- THE SECOND FORM's CARD OF 'rubricklaw15.HeadApart'. -/
def headApartUptoCard : Claim7 := { stood := { row := headApartUptoRow, standIns := [], harness := (true, "6f3e704525b95314a42a22597d8dbd2cc0eb7773d587da2d79d1e3db5ae0eda1"), looks := false }, kinds := [], alts := [], laidByText := true, laidKinds := [.data, .data, .data, .data], laidTests := true, laidLooks := .later }
def HeadApartUptoCardSaid : Prop := Claim7.holds Tryz.pinned (.plain (OpenSpec.upto headApartSpec)) headApartUptoCard

/-- THE SECOND FORM's CARD OF 'rubricklaw14.PlanRow'. -/
def planRowUptoCard : Claim7 := { stood := { row := planRowUptoRow, standIns := [], harness := (true, "6f3e704525b95314a42a22597d8dbd2cc0eb7773d587da2d79d1e3db5ae0eda1"), looks := false }, kinds := [], alts := [], laidByText := true, laidKinds := [.data, .data, .data, .data], laidTests := true, laidLooks := .later }
def PlanRowUptoCardSaid : Prop := Claim7.holds Tryz.pinned (.plain (OpenSpec.upto planRowSpec)) planRowUptoCard

/-- THE SECOND FORM's CARD OF 'rubricklaw14.PlanHas'. -/
def planHasUptoCard : Claim7 := { stood := { row := planHasUptoRow, standIns := [], harness := (true, "6f3e704525b95314a42a22597d8dbd2cc0eb7773d587da2d79d1e3db5ae0eda1"), looks := false }, kinds := [], alts := [], laidByText := true, laidKinds := [.data, .data, .data, .data], laidTests := true, laidLooks := .later }
def PlanHasUptoCardSaid : Prop := Claim7.holds Tryz.pinned (.plain (OpenSpec.upto planHasSpec)) planHasUptoCard

/-- THE SECOND FORM's CARD OF 'rubricklaw15.HeadLog'. -/
def headLogUptoCard : Claim7 := { stood := { row := headLogUptoRow, standIns := [], harness := (true, "6f3e704525b95314a42a22597d8dbd2cc0eb7773d587da2d79d1e3db5ae0eda1"), looks := false }, kinds := [], alts := [], laidByText := true, laidKinds := [.data, .data, .data, .data], laidTests := true, laidLooks := .later }
def HeadLogUptoCardSaid : Prop := Claim7.holds Tryz.pinned (.plain (OpenSpec.upto headLogSpec)) headLogUptoCard

/-- THE SECOND FORM's CARD OF 'rubricklaw15.HeadGrows'. -/
def headGrowsUptoCard : Claim7 := { stood := { row := headGrowsUptoRow, standIns := [], harness := (true, "6f3e704525b95314a42a22597d8dbd2cc0eb7773d587da2d79d1e3db5ae0eda1"), looks := false }, kinds := [], alts := [], laidByText := true, laidKinds := [.data, .data, .data, .data], laidTests := true, laidLooks := .later }
def HeadGrowsUptoCardSaid : Prop := Claim7.holds Tryz.pinned (.plain (OpenSpec.upto headGrowsSpec)) headGrowsUptoCard
end Rows
end Go.Proofs.YtcmmooohmnjklaaGreatDoor
