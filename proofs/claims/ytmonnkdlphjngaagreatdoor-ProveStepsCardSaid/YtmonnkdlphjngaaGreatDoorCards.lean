/-
  DERIVED. GIVEN WITH THE SEED: THE CARDS: each row of YtmonnkdlphjngaaGreatDoorRows.lean that lists a variable, with what it lists TIED to the program's text (the seventh form; the later family's looks); each row that meets fmt, with fmt's text TOLD by the authors' own Lean function (tested against real Go, not proved from fmt's source: count such statements apart). THE CARD IS WHAT COUNTS. Prove the row's statement (the work); the ties are given (YtmonnkdlphjngaaGreatDoorTie.lean); close each card by the builder's one call (the guide's Derived/Test/ToyasCard.lean, 'card_holds'). Laid BY PROGRAM, IN A SANDBOX (cutbox-door.mjs). By AI agents, Wed Nov 11 2026. No macro, syntax, notation, axiom, sorry.
-/
import Derived.Test.YtmonnkdlphjngaaGreatDoorRows
import GoSem.ClaimSeven
namespace Go.Proofs.YtmonnkdlphjngaaGreatDoor
namespace Rows

/-- THE TIED CARD OF 'rubricklaw19.ProvePages'. -/
def provePagesCard : Claim7 := { stood := { row := provePagesRow, standIns := [], harness := (true, "16d0b0b14472781c76ec29d44546aac32f55129f24164e0b9b2b5c99970e18d4"), looks := false }, kinds := [], alts := [], laidByText := true, laidKinds := [.data, .data, .data, .data], laidTests := true, laidLooks := .later }
def ProvePagesCardSaid : Prop := Claim7.holds Tryz.pinned (.plain (OpenSpec.ofChange provePagesSpec)) provePagesCard

/-- THE TIED CARD OF 'rubricklaw19.ProveAnswers'. -/
def proveAnswersCard : Claim7 := { stood := { row := proveAnswersRow, standIns := [], harness := (true, "16d0b0b14472781c76ec29d44546aac32f55129f24164e0b9b2b5c99970e18d4"), looks := false }, kinds := [], alts := [], laidByText := true, laidKinds := [.data, .data, .data, .data], laidTests := true, laidLooks := .later }
def ProveAnswersCardSaid : Prop := Claim7.holds Tryz.pinned (.plain (OpenSpec.ofChange proveAnswersSpec)) proveAnswersCard

/-- THE TIED CARD OF 'rubricklaw19.ProveSteps'. -/
def proveStepsCard : Claim7 := { stood := { row := proveStepsRow, standIns := [], harness := (true, "16d0b0b14472781c76ec29d44546aac32f55129f24164e0b9b2b5c99970e18d4"), looks := false }, kinds := [], alts := [], laidByText := true, laidKinds := [.data, .data, .data, .data], laidTests := true, laidLooks := .later }
def ProveStepsCardSaid : Prop := Claim7.holds Tryz.pinned (.plain (OpenSpec.ofChange proveStepsSpec)) proveStepsCard

/-- THE TIED CARD OF 'rubricklaw19.ProveLogs'. -/
def proveLogsCard : Claim7 := { stood := { row := proveLogsRow, standIns := [], harness := (true, "16d0b0b14472781c76ec29d44546aac32f55129f24164e0b9b2b5c99970e18d4"), looks := false }, kinds := [], alts := [], laidByText := true, laidKinds := [.data, .data, .data, .data], laidTests := true, laidLooks := .later }
def ProveLogsCardSaid : Prop := Claim7.holds Tryz.pinned (.plain (OpenSpec.ofChange proveLogsSpec)) proveLogsCard

/-- THE TIED CARD OF 'rubricklaw19.ProveHeads'. -/
def proveHeadsCard : Claim7 := { stood := { row := proveHeadsRow, standIns := [], harness := (true, "16d0b0b14472781c76ec29d44546aac32f55129f24164e0b9b2b5c99970e18d4"), looks := false }, kinds := [], alts := [], laidByText := true, laidKinds := [.data, .data, .data, .data], laidTests := true, laidLooks := .later }
def ProveHeadsCardSaid : Prop := Claim7.holds Tryz.pinned (.plain (OpenSpec.ofChange proveHeadsSpec)) proveHeadsCard

/-- THE SECOND FORM's CARD OF 'rubricklaw19.ProvePages'. -/
def provePagesUptoCard : Claim7 := { stood := { row := provePagesUptoRow, standIns := [], harness := (true, "16d0b0b14472781c76ec29d44546aac32f55129f24164e0b9b2b5c99970e18d4"), looks := false }, kinds := [], alts := [], laidByText := true, laidKinds := [.data, .data, .data, .data], laidTests := true, laidLooks := .later }
def ProvePagesUptoCardSaid : Prop := Claim7.holds Tryz.pinned (.plain (OpenSpec.upto provePagesSpec)) provePagesUptoCard

/-- THE SECOND FORM's CARD OF 'rubricklaw19.ProveAnswers'. -/
def proveAnswersUptoCard : Claim7 := { stood := { row := proveAnswersUptoRow, standIns := [], harness := (true, "16d0b0b14472781c76ec29d44546aac32f55129f24164e0b9b2b5c99970e18d4"), looks := false }, kinds := [], alts := [], laidByText := true, laidKinds := [.data, .data, .data, .data], laidTests := true, laidLooks := .later }
def ProveAnswersUptoCardSaid : Prop := Claim7.holds Tryz.pinned (.plain (OpenSpec.upto proveAnswersSpec)) proveAnswersUptoCard

/-- THE SECOND FORM's CARD OF 'rubricklaw19.ProveSteps'. -/
def proveStepsUptoCard : Claim7 := { stood := { row := proveStepsUptoRow, standIns := [], harness := (true, "16d0b0b14472781c76ec29d44546aac32f55129f24164e0b9b2b5c99970e18d4"), looks := false }, kinds := [], alts := [], laidByText := true, laidKinds := [.data, .data, .data, .data], laidTests := true, laidLooks := .later }
def ProveStepsUptoCardSaid : Prop := Claim7.holds Tryz.pinned (.plain (OpenSpec.upto proveStepsSpec)) proveStepsUptoCard

/-- THE SECOND FORM's CARD OF 'rubricklaw19.ProveLogs'. -/
def proveLogsUptoCard : Claim7 := { stood := { row := proveLogsUptoRow, standIns := [], harness := (true, "16d0b0b14472781c76ec29d44546aac32f55129f24164e0b9b2b5c99970e18d4"), looks := false }, kinds := [], alts := [], laidByText := true, laidKinds := [.data, .data, .data, .data], laidTests := true, laidLooks := .later }
def ProveLogsUptoCardSaid : Prop := Claim7.holds Tryz.pinned (.plain (OpenSpec.upto proveLogsSpec)) proveLogsUptoCard

/-- THE SECOND FORM's CARD OF 'rubricklaw19.ProveHeads'. -/
def proveHeadsUptoCard : Claim7 := { stood := { row := proveHeadsUptoRow, standIns := [], harness := (true, "16d0b0b14472781c76ec29d44546aac32f55129f24164e0b9b2b5c99970e18d4"), looks := false }, kinds := [], alts := [], laidByText := true, laidKinds := [.data, .data, .data, .data], laidTests := true, laidLooks := .later }
def ProveHeadsUptoCardSaid : Prop := Claim7.holds Tryz.pinned (.plain (OpenSpec.upto proveHeadsSpec)) proveHeadsUptoCard
end Rows
end Go.Proofs.YtmonnkdlphjngaaGreatDoor
