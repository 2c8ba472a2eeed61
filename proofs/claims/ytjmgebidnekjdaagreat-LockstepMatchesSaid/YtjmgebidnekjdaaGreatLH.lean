import Derived.Test.YtjmgebidnekjdaaGreatRows
import Derived.Test.YtjmgebidnekjdaaGreatLF
set_option linter.all false
namespace Go.Proofs.YtjmgebidnekjdaaGreat
open Go Go.Sx Go.ChangeShapes Go.WideShapes Go.ChangeAt Go.WideElems Go.RowKit
def own:ownKnob Tryz.prog.godebug=none:=by kernel_rfl
def XsI:laidOutB Tryz.prog=true:=by kernel_rfl
def GG:Nat->Option (List D):=λ _=>none
def gw:GW GG:=trivial
end Go.Proofs.YtjmgebidnekjdaaGreat
namespace Go.Sx
open Go.Proofs
def XjE {a0:Ud} {a1:Wy} {l:List D} (h:WfL Tryz.prog (.agg (e38 a0)::.agg (e42 a1)::l)):a1.Things.length<=140737488355328:=by
 simp only[WfL,Wf,e42,W0,Xn] at h
 exact h.2.1.2.2.1.2.1
def XeJ (a0:Ud) (a1:Wy) (a2 a3:List Int) {l:List D} (h:WfL Tryz.prog (.agg (e38 a0)::.agg (e42 a1)::l)) (t0:X4 a0) (t1:Xz a1):∃ N,QcT N a0 a1 a2 a3=some true:=⟨10000001+a1.Things.length,Vi (by unfold NB;omega) t0 t1 (XjE h) (by omega) a2 a3⟩
end Go.Sx
