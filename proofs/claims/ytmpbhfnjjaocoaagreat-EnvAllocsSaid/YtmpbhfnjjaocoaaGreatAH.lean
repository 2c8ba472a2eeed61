import Derived.Test.YtmpbhfnjjaocoaaGreatRows
import Derived.Test.YtmpbhfnjjaocoaaGreatAF
set_option linter.all false
namespace Go.Proofs.YtmpbhfnjjaocoaaGreat
open Go Go.Sx Go.ChangeShapes Go.WideShapes Go.ChangeAt Go.WideElems Go.RowKit
def own:ownKnob Tryz.prog.godebug=none:=ac
def XsX:laidOutB Tryz.prog=true:=ac
def GG:Nat->Option (List D):=λg=>if g=roK 209 then some []else none
def gw:GW GG:=λf=>by
 unfold GG roK;by_cases h:f=209
 .rw[Wq h,Wq aa]
 rw[Wn h,Wn aa]
def gg0{P:Program}{M:Mem}{g:Nat}{cs:List D}(h:GG g=some cs):RepC P M cs g 0:=by
 unfold GG at h;split at h
 .cases h;trivial
 cases h
end Go.Proofs.YtmpbhfnjjaocoaaGreat
namespace Go.Sx
open Go.Proofs
def XjZ(a0:W9)(a1 a2:List Int)(a3:Wy){l:List D}(_:WfL Tryz.prog l)(t0:X7 a0)(t3:YD a3):∃N,Qe4 N a0 a1 a2 a3=some true:=⟨10000001,Xdf (by unfold NB;omega) t0 a1 a2 t3⟩
end Go.Sx
