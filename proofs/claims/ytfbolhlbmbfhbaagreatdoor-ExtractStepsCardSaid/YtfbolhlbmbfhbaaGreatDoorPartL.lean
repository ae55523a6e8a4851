import Derived.Test.YtfbolhlbmbfhbaaGreatDoorPartK
import Derived.Test.YtfbolhlbmbfhbaaGreatDoorCards
import Derived.Test.YtfbolhlbmbfhbaaGreatDoorTie
import Derived.Deep.DeepHandedRow
import Derived.ProofKit
import Derived.OpenShut
set_option linter.unusedVariables false
set_option linter.unusedSimpArgs false
set_option linter.unusedSectionVars false
set_option linter.defProp false
namespace Go.Proofs.YtfbolhlbmbfhbaaGreatDoor
open Go Go.Vg Go.ChangeShapes Go.WideShapes Go.ChangeAt Go.RowKit
def aQA:Tryz.f6.isInstance Tryz.pinned.checked.prog Rows.extractStepsRow.origin Rows.extractStepsRow.targs:=of_decide_eq_true y!
theorem aQB:Tryz.f6.isWrapper Tryz.pinned.checked.prog Rows.extractStepsRow.wrapper Rows.extractStepsRow.mainSum:=by unfold Func.isWrapper;first|(rw[if_pos (by decide+kernel)];kernel_rfl)|(rw[if_neg (by decide+kernel)];exact⟨rfl,rfl⟩)
def aNU:Rows.ExtractStepsSaid:=
 OpenClaim.holds_of_cond 6 Tryz.f6 rfl rfl rfl rfl rfl rfl rfl ⟨rfl,rfl,rfl,rfl,rfl⟩ rfl rfl rfl rfl rfl aQy Tryz.func6 aQz aQA aQB
  (λo s H e _ F=>by rw[OpenClaim.pre_eq_preRow];exact aMr o s H e F)
end Go.Proofs.YtfbolhlbmbfhbaaGreatDoor
