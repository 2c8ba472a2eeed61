import Derived.Test.YtggdbcmfjliibaaGreatRows
import Derived.Test.YtggdbcmfjliibaaGreatNF
set_option linter.all false
namespace Go.Proofs.YtggdbcmfjliibaaGreat
open Go Go.Sx Go.ChangeShapes Go.WideShapes Go.ChangeAt Go.WideElems Go.RowKit
theorem own:ownKnob Tryz.prog.godebug=none:=by kernel_rfl
theorem laidOut:laidOutB Tryz.prog=true:=by kernel_rfl
def GG:Nat->Option (List D):=fun _=>none
theorem gw:GW GG:=trivial
end Go.Proofs.YtggdbcmfjliibaaGreat
namespace Go.Sx
open Go.Proofs
theorem nmachStarts_plain (a0:TCode) (a1:List Int) (a2:TFrame) {l:List D} (_:WfL Tryz.prog l):∃ N,law23_NmachStarts N a0 a1 a2=some true:=⟨0+2000,nmachStarts_true 0 a0 a1 a2⟩
end Go.Sx
