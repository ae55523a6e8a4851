import Derived.Test.YtfbolhlbmbfhbaaGreatDoorPartK
import Derived.Test.YtfbolhlbmbfhbaaGreatDoorCards
import Derived.Test.YtfbolhlbmbfhbaaGreatDoorTie
import Derived.Deep.DeepHandedRow
import Derived.ProofKit
import Derived.OpenShut
set_option linter.all false
namespace Go.Proofs.YtfbolhlbmbfhbaaGreatDoor
open Go Go.Vg Go.ChangeShapes Go.WideShapes Go.ChangeAt Go.RowKit
def aZt:Tryz.f7.isInstance Tryz.pinned.checked.prog Rows.extractHonestRow.origin Rows.extractHonestRow.targs:=of_decide_eq_true y!
theorem aZu:Tryz.f7.isWrapper Tryz.pinned.checked.prog Rows.extractHonestRow.wrapper Rows.extractHonestRow.mainSum:=by unfold Func.isWrapper;first|(rw[if_pos (by decide+kernel)];kernel_rfl)|(rw[if_neg (by decide+kernel)];exact⟨rfl,rfl⟩)
def aYB:Rows.ExtractHonestSaid:=
 OpenClaim.holds_of_cond 7 Tryz.f7 rfl rfl rfl rfl rfl rfl rfl ⟨rfl,rfl,rfl,rfl,rfl⟩ rfl rfl rfl rfl rfl aZr Tryz.func7 aZs aZt aZu
  (λo s H e _ F=>by rw[OpenClaim.pre_eq_preRow];exact aWO o s H e F)
end Go.Proofs.YtfbolhlbmbfhbaaGreatDoor
