import Derived.Test.YtgdhlnfcogcicaaGreatDoorTF
import Derived.Test.YtgdhlnfcogcicaaGreatDoorTG1
import Derived.Test.YtgdhlnfcogcicaaGreatDoorTG4
import Derived.Test.YtgdhlnfcogcicaaGreatDoorTG6
import Derived.Test.YtgdhlnfcogcicaaGreatDoorTG28
import Derived.Test.YtgdhlnfcogcicaaGreatDoorTG36
set_option linter.all false
namespace Go.Sx
open Go.Proofs
set_option maxRecDepth 10000
set_option maxHeartbeats 100000000
theorem ty54:Xt Tryz.prog 54=some ⟨1,24,(.slice none 0 0),.slice 53 4⟩:=by kernel_rfl
theorem ty56:Xt Tryz.prog 56=some ⟨1,24,(.slice none 0 0),.slice 36 10⟩:=by kernel_rfl
attribute [go_sem] ty54 ty56
theorem g48:(∀ N (a0:Wm) (a1:List Int) (a2:List Int),OK (Qf0 N a0 a1 a2) 10 [.agg (e36 a0),.isl 3 1 (a1.map e3),.isl 3 1 (a2.map e3)] [] (λ r=>.isl 36 10 (r.map e36)) λ r=>[])/\(∀ N ,OK (QgR N) 16 [] [] (λ r=>.v (.bool r)) λ r=>[]):=by
 refine ⟨λ N _ _ _=>rn Tryz.f10 [.tmp 6] [] 26 (by kernel_rfl) ?_,λ N=>rn Tryz.f16 [.tmp 0] [] 36 (by kernel_rfl) ?_⟩<;>(rintro _ hw r hr C _ rfl hwf hf;simp only[Tryz.f10,Tryz.f16,Option.get!];(first|rw[Qf0] at hr|rw[QgR] at hr);repeat' first
 |(refine El.el hr ?_;intro hr)
 |(with_reducible intro h;refine Xz hr h ?_;intro hr)
 |with_reducible intro _
 |simp only[go_sem,simprocAttr,Y5]
 |(with_reducible first|apply Xg|apply Xf|apply Xs|apply Xx|apply Xy)
 |((first|with_reducible refine Ye hr (by assumption) ?_ ?_|(with_reducible refine Yd hr ?_ ?_;rotate_left;intro p;rotate_right));(·simp only[go_sem,simprocAttr]);intro hp hn hd hr;(try have Y5:=hd _ e77);(try simp only[go_sem,simprocAttr] at Y5))
 |(refine Xl ?_ ?_;·first|assumption|omega)
 |(with_reducible refine XhZ hr ?_ ?_;(·simp only[go_sem]);intro p hp hn hd hr;(try have Y5:=hd _ e77);(try simp only[go_sem,simprocAttr] at Y5))
 |(with_reducible first|refine CallX.c ?_ _|refine OK.c hr hw ?_ (λ y hr=>?_) _|refine Oy hr hw ?_ (λ y hr=>?_) _)
 |refine db 10 2 hf 12 [(0,62,[[],[1024]]),(0,29,[[],[1024]]),(0,3,[]),(4,3,[]),(12,3,[[1024],[]]),(30,1,[[1024],[]]),(63,0,[[1152],[]]),(127,0,[])] rfl rfl (by kernel_rfl) ?_ _
 |(refine Xq hr ?_;rintro rfl;with_reducible refine XG ?_)
 |exact Yo hr
 |fail)
@[reducible,instance] def QmN:=g48.1
@[reducible,instance] def QnD:=g48.2
end Go.Sx
