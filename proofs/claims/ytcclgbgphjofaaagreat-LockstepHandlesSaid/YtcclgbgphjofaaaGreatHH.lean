import Derived.Test.YtcclgbgphjofaaaGreatRows
import Derived.Test.YtcclgbgphjofaaaGreatHF
set_option linter.all false
namespace Go.Proofs.YtcclgbgphjofaaaGreat
open Go Go.Sx Go.ChangeShapes Go.WideShapes Go.ChangeAt Go.WideElems Go.RowKit
def own:ownKnob Tryz.prog.godebug=none:=ac
def Xtz:laidOutB Tryz.prog=true:=ac
def GG:Nat->Option (List D):=λ_=>none
def gw:GW GG:=trivial
end Go.Proofs.YtcclgbgphjofaaaGreat
namespace Go.Sx
open Go.Proofs
def Xge(a0:List Int){l:List D}(_:WfL Tryz.prog l):∃N,QcO N a0=some true:=⟨10000001,Xal (by unfold NB;omega) a0⟩
end Go.Sx
