import Derived.Test.YtfbolhlbmbfhbaaGreatDoorPartL
import Derived.Test.YtfbolhlbmbfhbaaGreatDoorCards
import Derived.Test.YtfbolhlbmbfhbaaGreatDoorTie
import Derived.Deep.DeepHandedRow
import Derived.ProofKit
import Derived.OpenShut
set_option linter.all false
namespace Go.Proofs.YtfbolhlbmbfhbaaGreatDoor
open Go Go.Vg Go.ChangeShapes Go.WideShapes Go.ChangeAt Go.RowKit
def aYp(f:FuncId)(F:Func)(h:Tryz.pinned.checked.prog.funcNamed "rubrick/rubricklaw21.ExtractHonest"=some f)(a:Tryz.pinned.checked.prog.funcs[f]? =some F):
  false=Tryz.pinned.checked.prog.looks []/\∀(j:Nat) t,F.params[j]? =some t->Tryz.pinned.checked.prog.wantsStandIn t=false:=by
 obtain rfl :f=7:=R? ((show Tryz.prog.funcNamed "rubrick/rubricklaw21.ExtractHonest"=some 7 by kernel_rfl).symm.trans h) |>.symm
 obtain rfl :F=Tryz.f7:=(R? (Tryz.func7.symm.trans a)).symm;refine⟨y!,λj t H=>?_⟩;have b:(Tryz.f7.params.toList.all λt=>!Tryz.prog.wantsStandIn t)=true:=by kernel_rfl
 have c:=V!.1 b t (by simpa using Array.mem_of_getElem? H);have d:Tryz.prog.wantsStandIn t=false:=by simpa using c
 exact d
def aYq:false=Rows.extractHonestRow.goesBy Tryz.pinned.checked.prog:=by kernel_rfl
def aYX:Rows.extractHonestRow.wfByText (OpenSpec.ofChange Rows.extractHonestSpec)=true:=by kernel_rfl
end Go.Proofs.YtfbolhlbmbfhbaaGreatDoor
