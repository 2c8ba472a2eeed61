import Derived.Test.YtbikeogjhdcfmaaGreatVF
import Derived.Test.YtbikeogjhdcfmaaGreatVG1
import Derived.Test.YtbikeogjhdcfmaaGreatVG2
import Derived.Test.YtbikeogjhdcfmaaGreatVG3
import Derived.Test.YtbikeogjhdcfmaaGreatVG4
import Derived.Test.YtbikeogjhdcfmaaGreatVG5
import Derived.Test.YtbikeogjhdcfmaaGreatVG6
import Derived.Test.YtbikeogjhdcfmaaGreatVG7
import Derived.Test.YtbikeogjhdcfmaaGreatVG8
import Derived.Test.YtbikeogjhdcfmaaGreatVG9
import Derived.Test.YtbikeogjhdcfmaaGreatVG10
set_option linter.all false
namespace Go.Sx
open Go.Proofs
set_option maxRecDepth 10000
set_option maxHeartbeats 100000000
theorem g18:(∀ N (a0:Wn) (a1:Int),OK (Qat N a0 a1) 100 [.agg (e27 a0),.v (.int .u64 a1)] [] (λ r=>.tup [.agg (e82 r.1),.v (.int .i64 r.2)]) λ r=>[])/\(∀ N (a0:Wn) (a1:Int) (a2:Int),OK (QeO N a0 a1 a2) 280 [.agg (e27 a0),.v (.int .i64 a1),.v (.int .i64 a2)] [] (λ r=>.v (.int .u64 r)) λ r=>[])/\(∀ N (a0:Wn) (a1:Int) (a2:Int),OK (QdU N a0 a1 a2) 301 [.agg (e27 a0),.v (.int .i64 a1),.v (.int .i64 a2)] [] (λ r=>.tup [.agg (e27 r.1),.v (.int .u64 r.2.1),.v (.bool r.2.2)]) λ r=>[])/\(∀ N (a0:Wn) (a1:Int) (a2:Wz),OK (QbG N a0 a1 a2) 302 [.agg (e27 a0),.v (.int .u64 a1),.agg (e82 a2)] [] (λ r=>.tup [.agg (e27 r.1),.v (.int .i64 r.2)]) λ r=>[])/\(∀ N (a0:WM) (a1:Int) (a2:Int) (a3:Int) (a4:Bool),OK (Qe7 N a0 a1 a2 a3 a4) 207 [.agg (e59 a0),.v (.int .i64 a1),.v (.int .u64 a2),.v (.int .u64 a3),.v (.bool a4)] [] (λ r=>.v (.int .i64 r)) λ r=>[])/\(∀ N (a0:WM) (a1:Int),OK (QaB N a0 a1) 132 [.agg (e59 a0),.v (.int .u64 a1)] [] (λ r=>.tup [.v (.int .u64 r.1),.v (.int .i64 r.2)]) λ r=>[])/\(∀ N (a0:WM) (a1:Int),OK (Qd4 N a0 a1) 137 [.agg (e59 a0),.v (.int .u64 a1)] [] (λ r=>.agg (e59 r)) λ r=>[])/\(∀ N (a0:Wn) (a1:Int),OK (Qcb N a0 a1) 111 [.agg (e27 a0),.v (.int .i64 a1)] [] (λ r=>.tup [.agg (e27 r.1),.agg (XpU r.2.1),.v (.int .i64 r.2.2)]) λ r=>[]):=by
 refine ⟨λ N _ _=>rn Tryz.f100 [.cell 4 82,.tmp 5] [] 96 (by kernel_rfl) ?_,λ N _ _ _=>rn Tryz.f280 [.tmp 6] [] 11 (by kernel_rfl) ?_,λ N _ _ _=>rn Tryz.f301 [.cell 6 27,.tmp 7,.tmp 8] [] 49 (by kernel_rfl) ?_,λ N _ _ _=>rn Tryz.f302 [.cell 6 27,.tmp 7] [] 43 (by kernel_rfl) ?_,λ N _ _ _ _ _=>rn Tryz.f207 [.tmp 10] [] 41 (by kernel_rfl) ?_,λ N _ _=>rn Tryz.f132 [.tmp 4,.tmp 5] [] 54 (by kernel_rfl) ?_,λ N _ _=>rn Tryz.f137 [.cell 4 59] [] 52 (by kernel_rfl) ?_,λ N _ _=>rn Tryz.f111 [.cell 4 27,.cell 5 180,.tmp 6] [] 105 (by kernel_rfl) ?_⟩<;>(rintro _ hw r hr C _ rfl hwf hf;simp only[Tryz.f100,Tryz.f280,Tryz.f301,Tryz.f302,Tryz.f207,Tryz.f132,Tryz.f137,Tryz.f111,Option.get!];(first|rw[Qat] at hr|rw[QeO] at hr|rw[QdU] at hr|rw[QbG] at hr|rw[Qe7] at hr|rw[QaB] at hr|rw[Qd4] at hr|rw[Qcb] at hr);repeat' first
 |(refine El.el hr ?_;intro hr)
 |(with_reducible intro h;refine XB hr h ?_;intro hr)
 |with_reducible intro _
 |simp only[go_sem,simprocAttr,XK]
 |(with_reducible first|apply Xk|apply Xj|apply Xp|apply Xr|apply Xs)
 |((first|with_reducible refine Yk hr (by assumption) ?_ ?_|(with_reducible refine Yf hr ?_ ?_;rotate_left;intro p;rotate_right));(·simp only[go_sem,simprocAttr]);intro hp hn hd hr;(try have XK:=hd _ XF);(try simp only[go_sem,simprocAttr] at XK))
 |(refine Xq ?_ ?_;·first|assumption|omega)
 |(refine CallX.inl (f:=163) 400 (fn:=Tryz.f163) (rs:=[.tmp 4]) (nt:=87) 1000 (by kernel_rfl) (λ x=>?_) _;simp only[Tryz.f163,Option.get!])
 |(with_reducible first|refine CallX.c ?_ _|refine OK.c hr hw ?_ (λ y hr=>?_) _|refine Oe hr hw ?_ (λ y hr=>?_) _)
 |refine db 301 2 hf 17 [(0,0,[]),(1,0,[]),(3,0,[]),(7,104,[]),(15,104,[]),(31,104,[]),(7,231,[]),(127,224,[]),(7,31,[]),(263,31,[]),(831,24,[]),(2047,0,[]),(4095,0,[])] rfl rfl (by kernel_rfl) ?_ _
 |refine db 301 5 hf 41 [(0,254,[]),(0,29,[[],[384]]),(0,3,[[],[384]]),(4,3,[[],[384]]),(12,3,[[],[384]]),(30,1,[[],[384]]),(62,1,[[],[384]]),(126,1,[[],[384]]),(1,254,[[384],[]]),(511,0,[]),(1023,0,[])] rfl rfl (by kernel_rfl) ?_ _
 |refine db 302 4 hf 10 [(0,8257536,[[],[1856]]),(1,8257536,[[],[1856]]),(0,8224768,[[],[1856]]),(0,3375104,[]),(8,3375104,[[1856],[]]),(0,1015808,[[],[1856]]),(32,1015808,[[],[1856]]),(120,229376,[[1856],[]]),(255,0,[[1856],[]]),(511,0,[]),(1023,33554432,[]),(1023,16777217,[]),(2047,33554432,[]),(8191,0,[])] rfl rfl (by kernel_rfl) ?_ _
 |refine db 111 6 hf 39 [(0,2,[]),(0,1,[[],[256]]),(1,2,[[256],[]]),(7,0,[[320],[]]),(15,0,[])] rfl rfl (by kernel_rfl) ?_ _
 |refine db 111 15 hf 73 [(0,14,[]),(0,1,[[],[256]]),(2,1,[[],[256]]),(6,1,[[],[256]]),(1,14,[[256],[]]),(31,0,[[320],[]]),(63,0,[])] rfl rfl (by kernel_rfl) ?_ _
 |refine db 111 20 hf 100 [(0,30,[]),(0,17,[[],[256]]),(2,17,[[],[256]]),(6,17,[[],[256]]),(0,15,[[],[256,320]]),(1,30,[[256],[]]),(47,16,[[320],[]]),(127,0,[])] rfl rfl (by kernel_rfl) ?_ _
 |refine db 163 1 ⟨⟩ 11 [(0,24,[]),(1,24,[]),(3,24,[]),(0,7,[]),(8,7,[]),(31,0,[]),(63,0,[]),(127,0,[])] rfl rfl (by kernel_rfl) ?_ _
 |(refine Xn hr ?_;rintro rfl;with_reducible refine XM ?_)
 |exact Yw hr
 |fail)
@[reducible,instance] def QoI:=g18.1
@[reducible,instance] def QnO:=g18.2.1
@[reducible,instance] def QmJ:=g18.2.2.1
@[reducible,instance] def QnP:=g18.2.2.2.1
@[reducible,instance] def Qly:=g18.2.2.2.2.1
@[reducible,instance] def Qlz:=g18.2.2.2.2.2.1
@[reducible,instance] def Ql2:=g18.2.2.2.2.2.2.1
@[reducible,instance] def Qld:=g18.2.2.2.2.2.2.2
end Go.Sx
