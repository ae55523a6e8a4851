/-
  DERIVED. GIVEN WITH THE SEED: THE PROGRAM's TIES (one call each: nine closed facts by the kernel) AND EACH ROW's TIE, after the 31st guide's Derived/Test/Toyas{Tie, Card}.lean. No idea stands in it: it is a product of the set-up. Laid BY PROGRAM, IN A SANDBOX (cutbox-door.mjs). By AI agents, Wed Nov 11 2026. No macro, syntax, notation, axiom, sorry.
-/
import Derived.Test.YtmonnkdlphjngaaGreatDoorRows
import Derived.LaidByTextLater
import Derived.SevenTiedAt
import Derived.LaidSub
import Derived.LaidOnce
namespace Go.Proofs.YtmonnkdlphjngaaGreatDoor
open Go
set_option maxRecDepth 100000
theorem seatTie1 : Tryz.prog.laidByTextLater [("rubrick/sha.begin", Rows.laid_rubrick_sha_begin), ("rubrick/sha.rounds", Rows.laid_rubrick_sha_rounds), ("rubrick/utf.letters", Rows.laid_rubrick_utf_letters), ("rubrick/utf.shifts", Rows.laid_rubrick_utf_shifts)] [.data, .data, .data, .data] true :=
  Program.laidByTextLater_by_one 45 8 65 (by kernel_rfl) (by kernel_rfl) (by kernel_rfl) (by kernel_rfl) (by kernel_rfl) (by kernel_rfl) (fun _ _ => by kernel_rfl)
theorem noOwnUnsafe : Tryz.pinned.checked.prog.headLifts.contains "ownunsafe" = false := by kernel_rfl
theorem tie : Tryz.prog.laidByTextLater [("rubrick/sha.begin", Rows.laid_rubrick_sha_begin), ("rubrick/sha.rounds", Rows.laid_rubrick_sha_rounds), ("rubrick/utf.letters", Rows.laid_rubrick_utf_letters), ("rubrick/utf.shifts", Rows.laid_rubrick_utf_shifts)] [.data, .data, .data, .data] true :=
  Program.laidByTextLater.sub seatTie1 ["rubrick/sha.begin", "rubrick/sha.rounds", "rubrick/utf.letters", "rubrick/utf.shifts"] (by kernel_rfl) (by kernel_rfl)
theorem provePages_row_tie : Rows.provePagesRow.laidByTextAt .later Tryz.pinned [.data, .data, .data, .data] true :=
  OpenClaim.laidByTextAt_later rfl rfl tie noOwnUnsafe
theorem proveAnswers_row_tie : Rows.proveAnswersRow.laidByTextAt .later Tryz.pinned [.data, .data, .data, .data] true :=
  OpenClaim.laidByTextAt_later rfl rfl tie noOwnUnsafe
theorem proveSteps_row_tie : Rows.proveStepsRow.laidByTextAt .later Tryz.pinned [.data, .data, .data, .data] true :=
  OpenClaim.laidByTextAt_later rfl rfl tie noOwnUnsafe
theorem proveLogs_row_tie : Rows.proveLogsRow.laidByTextAt .later Tryz.pinned [.data, .data, .data, .data] true :=
  OpenClaim.laidByTextAt_later rfl rfl tie noOwnUnsafe
theorem proveHeads_row_tie : Rows.proveHeadsRow.laidByTextAt .later Tryz.pinned [.data, .data, .data, .data] true :=
  OpenClaim.laidByTextAt_later rfl rfl tie noOwnUnsafe
theorem provePagesUpto_row_tie : Rows.provePagesUptoRow.laidByTextAt .later Tryz.pinned [.data, .data, .data, .data] true :=
  OpenClaim.laidByTextAt_later rfl rfl tie noOwnUnsafe
theorem proveAnswersUpto_row_tie : Rows.proveAnswersUptoRow.laidByTextAt .later Tryz.pinned [.data, .data, .data, .data] true :=
  OpenClaim.laidByTextAt_later rfl rfl tie noOwnUnsafe
theorem proveStepsUpto_row_tie : Rows.proveStepsUptoRow.laidByTextAt .later Tryz.pinned [.data, .data, .data, .data] true :=
  OpenClaim.laidByTextAt_later rfl rfl tie noOwnUnsafe
theorem proveLogsUpto_row_tie : Rows.proveLogsUptoRow.laidByTextAt .later Tryz.pinned [.data, .data, .data, .data] true :=
  OpenClaim.laidByTextAt_later rfl rfl tie noOwnUnsafe
theorem proveHeadsUpto_row_tie : Rows.proveHeadsUptoRow.laidByTextAt .later Tryz.pinned [.data, .data, .data, .data] true :=
  OpenClaim.laidByTextAt_later rfl rfl tie noOwnUnsafe
end Go.Proofs.YtmonnkdlphjngaaGreatDoor
