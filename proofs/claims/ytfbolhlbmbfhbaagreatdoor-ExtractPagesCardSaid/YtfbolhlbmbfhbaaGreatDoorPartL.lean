import Derived.Test.YtfbolhlbmbfhbaaGreatDoorPartK
import Derived.Test.YtfbolhlbmbfhbaaGreatDoorCards
import Derived.Test.YtfbolhlbmbfhbaaGreatDoorTie
import Derived.Deep.DeepHandedRow
import Derived.ProofKit
import Derived.OpenShut
set_option linter.unusedVariables false
set_option linter.unusedSimpArgs false
set_option linter.unusedSectionVars false
set_option linter.defProp false
set_option linter.unusedVariables false
namespace Go.Proofs.YtfbolhlbmbfhbaaGreatDoor
open Go Go.Vg Go.ChangeShapes Go.WideShapes Go.ChangeAt Go.RowKit
theorem KK:Tryz.f4.isInstance Tryz.pinned.checked.prog Rows.extractPagesRow.origin Rows.extractPagesRow.targs:=of_decide_eq_true y!
theorem KL:Tryz.f4.isWrapper Tryz.pinned.checked.prog Rows.extractPagesRow.wrapper Rows.extractPagesRow.mainSum:=by unfold Func.isWrapper;first|(rw[if_pos (by decide+kernel)];kernel_rfl)|(rw[if_neg (by decide+kernel)];exact⟨rfl,rfl⟩)
theorem Gz:Rows.ExtractPagesSaid:=
 OpenClaim.holds_of_cond 4 Tryz.f4 rfl rfl rfl rfl rfl rfl rfl ⟨rfl,rfl,rfl,rfl,rfl⟩ rfl rfl rfl rfl rfl KI Tryz.func4 KJ KK KL
  (λos started H enc _ F=>by rw[OpenClaim.pre_eq_preRow];exact De os started H enc F)
end Go.Proofs.YtfbolhlbmbfhbaaGreatDoor
