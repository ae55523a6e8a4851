/-
  DERIVED. GIVEN WITH THE SEED: THE PROGRAM's TIES (one call each: nine closed facts by the kernel) AND EACH ROW's TIE, after the 31st guide's Derived/Test/Toyas{Tie, Card}.lean. No idea stands in it: it is a product of the set-up. Laid BY PROGRAM, IN A SANDBOX (cutbox-door.mjs). By AI agents, Wed Nov 11 2026. No macro, syntax, notation, axiom, sorry.
-/
import Derived.Test.YtimebdkngdbpkaaGreatDoorRows
import Derived.LaidByTextLater
import Derived.SevenTiedAt
import Derived.LaidSub
import Derived.LaidOnce
namespace Go.Proofs.YtimebdkngdbpkaaGreatDoor
open Go
set_option maxRecDepth 100000
theorem seatTie1 : Tryz.prog.laidByTextLater [("rubrick/sha.begin", Rows.laid_rubrick_sha_begin), ("rubrick/sha.rounds", Rows.laid_rubrick_sha_rounds), ("rubrick/utf.letters", Rows.laid_rubrick_utf_letters), ("rubrick/utf.shifts", Rows.laid_rubrick_utf_shifts)] [.data, .data, .data, .data] true :=
  Program.laidByTextLater_by_one 45 8 65 (by kernel_rfl) (by kernel_rfl) (by kernel_rfl) (by kernel_rfl) (by kernel_rfl) (by kernel_rfl) (fun _ _ => by kernel_rfl)
theorem noOwnUnsafe : Tryz.pinned.checked.prog.headLifts.contains "ownunsafe" = false := by kernel_rfl
theorem tie : Tryz.prog.laidByTextLater [("rubrick/sha.begin", Rows.laid_rubrick_sha_begin), ("rubrick/sha.rounds", Rows.laid_rubrick_sha_rounds), ("rubrick/utf.letters", Rows.laid_rubrick_utf_letters), ("rubrick/utf.shifts", Rows.laid_rubrick_utf_shifts)] [.data, .data, .data, .data] true :=
  Program.laidByTextLater.sub seatTie1 ["rubrick/sha.begin", "rubrick/sha.rounds", "rubrick/utf.letters", "rubrick/utf.shifts"] (by kernel_rfl) (by kernel_rfl)
theorem clientChecks_row_tie : Rows.clientChecksRow.laidByTextAt .later Tryz.pinned [.data, .data, .data, .data] true :=
  OpenClaim.laidByTextAt_later rfl rfl tie noOwnUnsafe
theorem clientMerges_row_tie : Rows.clientMergesRow.laidByTextAt .later Tryz.pinned [.data, .data, .data, .data] true :=
  OpenClaim.laidByTextAt_later rfl rfl tie noOwnUnsafe
theorem clientOther_row_tie : Rows.clientOtherRow.laidByTextAt .later Tryz.pinned [.data, .data, .data, .data] true :=
  OpenClaim.laidByTextAt_later rfl rfl tie noOwnUnsafe
theorem clientAccepts_row_tie : Rows.clientAcceptsRow.laidByTextAt .later Tryz.pinned [.data, .data, .data, .data] true :=
  OpenClaim.laidByTextAt_later rfl rfl tie noOwnUnsafe
theorem clientFetches_row_tie : Rows.clientFetchesRow.laidByTextAt .later Tryz.pinned [.data, .data, .data, .data] true :=
  OpenClaim.laidByTextAt_later rfl rfl tie noOwnUnsafe
theorem clientRefuses_row_tie : Rows.clientRefusesRow.laidByTextAt .later Tryz.pinned [.data, .data, .data, .data] true :=
  OpenClaim.laidByTextAt_later rfl rfl tie noOwnUnsafe
theorem clientFollows_row_tie : Rows.clientFollowsRow.laidByTextAt .later Tryz.pinned [.data, .data, .data, .data] true :=
  OpenClaim.laidByTextAt_later rfl rfl tie noOwnUnsafe
theorem clientChecksUpto_row_tie : Rows.clientChecksUptoRow.laidByTextAt .later Tryz.pinned [.data, .data, .data, .data] true :=
  OpenClaim.laidByTextAt_later rfl rfl tie noOwnUnsafe
theorem clientMergesUpto_row_tie : Rows.clientMergesUptoRow.laidByTextAt .later Tryz.pinned [.data, .data, .data, .data] true :=
  OpenClaim.laidByTextAt_later rfl rfl tie noOwnUnsafe
theorem clientOtherUpto_row_tie : Rows.clientOtherUptoRow.laidByTextAt .later Tryz.pinned [.data, .data, .data, .data] true :=
  OpenClaim.laidByTextAt_later rfl rfl tie noOwnUnsafe
theorem clientAcceptsUpto_row_tie : Rows.clientAcceptsUptoRow.laidByTextAt .later Tryz.pinned [.data, .data, .data, .data] true :=
  OpenClaim.laidByTextAt_later rfl rfl tie noOwnUnsafe
theorem clientFetchesUpto_row_tie : Rows.clientFetchesUptoRow.laidByTextAt .later Tryz.pinned [.data, .data, .data, .data] true :=
  OpenClaim.laidByTextAt_later rfl rfl tie noOwnUnsafe
theorem clientRefusesUpto_row_tie : Rows.clientRefusesUptoRow.laidByTextAt .later Tryz.pinned [.data, .data, .data, .data] true :=
  OpenClaim.laidByTextAt_later rfl rfl tie noOwnUnsafe
theorem clientFollowsUpto_row_tie : Rows.clientFollowsUptoRow.laidByTextAt .later Tryz.pinned [.data, .data, .data, .data] true :=
  OpenClaim.laidByTextAt_later rfl rfl tie noOwnUnsafe
end Go.Proofs.YtimebdkngdbpkaaGreatDoor
