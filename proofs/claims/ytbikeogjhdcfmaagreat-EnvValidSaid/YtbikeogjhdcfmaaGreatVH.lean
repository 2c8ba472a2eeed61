import Derived.Test.YtbikeogjhdcfmaaGreatRows
import Derived.Test.YtbikeogjhdcfmaaGreatVF
import Derived.Test.YtbikeogjhdcfmaaGreatVI
set_option linter.all false
namespace Go.Proofs.YtbikeogjhdcfmaaGreat
open Go Go.Sx Go.ChangeShapes Go.WideShapes Go.ChangeAt Go.WideElems Go.RowKit
theorem own:ownKnob Tryz.prog.godebug=none:=by kernel_rfl
theorem Xqq:laidOutB Tryz.prog=true:=by kernel_rfl
def GG:Nat->Option (List D):=λ _=>none
theorem gw:GW GG:=trivial
end Go.Proofs.YtbikeogjhdcfmaaGreat
namespace Go.Sx
open Go.Proofs
theorem Xk8 (a0:W8) (a1 a2:List Int) (a3:WQ) {l:List D} (_:WfL Tryz.prog l) (t0:X0 a0):∃ N,Qd2 N a0 a1 a2 a3=some true:=⟨10000001,Xck (by unfold NB;omega) t0 a1 a2 a3⟩
end Go.Sx
