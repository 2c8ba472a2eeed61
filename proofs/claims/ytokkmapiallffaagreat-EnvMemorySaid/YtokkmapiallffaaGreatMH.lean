import Derived.Test.YtokkmapiallffaaGreatRows
import Derived.Test.YtokkmapiallffaaGreatMF
set_option linter.all false
namespace Go.Proofs.YtokkmapiallffaaGreat
open Go Go.Sx Go.ChangeShapes Go.WideShapes Go.ChangeAt Go.WideElems Go.RowKit
def own:ownKnob Tryz.prog.godebug=none:=ae
def Xvg:laidOutB Tryz.prog=true:=ae
def GG:Nat->Option (List D):=λg=>if g=roK 224 then some []else none
def gw:GW GG:=λf=>by
 unfold GG roK;by_cases h:f=224
 .rw[Wm h,Wm ab]
 rw[Wj h,Wj ab]
def gg0{P:Program}{M:Mem}{g:Nat}{cs:List D}(h:GG g=some cs):RepC P M cs g 0:=by
 unfold GG at h;split at h
 .cases h;trivial
 cases h
end Go.Proofs.YtokkmapiallffaaGreat
namespace Go.Sx
open Go.Proofs
def XmC(a0 a1:List Int){l:List D}(_:WfL Tryz.prog l):∃N,Qdl N a0 a1=some true:=⟨10000001,XeL (by unfold NB;omega) a0 a1⟩
end Go.Sx
