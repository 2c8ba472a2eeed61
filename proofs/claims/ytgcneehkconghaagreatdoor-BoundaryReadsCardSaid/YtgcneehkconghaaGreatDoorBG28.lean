import Derived.Test.YtgcneehkconghaaGreatDoorBF
import Derived.Test.YtgcneehkconghaaGreatDoorBG1
import Derived.Test.YtgcneehkconghaaGreatDoorBG8
import Derived.Test.YtgcneehkconghaaGreatDoorBG10
import Derived.Test.YtgcneehkconghaaGreatDoorBG11
import Derived.Test.YtgcneehkconghaaGreatDoorBG15
import Derived.Test.YtgcneehkconghaaGreatDoorBG16
import Derived.Test.YtgcneehkconghaaGreatDoorBG20
import Derived.Test.YtgcneehkconghaaGreatDoorBG25
import Derived.Test.YtgcneehkconghaaGreatDoorBG26
import Derived.Test.YtgcneehkconghaaGreatDoorBG27
set_option linter.all false
namespace Go.Sx
open Go.Proofs
set_option maxRecDepth 10000
set_option maxHeartbeats 100000000
theorem g40:(∀ N (a0:Uh) (a1:Int) (a2:Int) (a3:Int) (a4:Int),OK (Qei N a0 a1 a2 a3 a4) 107 [.agg (e38 a0),.v (.int .i64 a1),.v (.int .u64 a2),.v (.int .u64 a3),.v (.int .u64 a4)] [] (λ r=>.tup [.agg (e38 r.1),.v (.int .u64 r.2.1),.v (.int .i64 r.2.2)]) λ r=>[])/\(∀ N (a0:Uh) (a1:Int) (a2:Int) (a3:Int) (a4:Int),OK (Qdh N a0 a1 a2 a3 a4) 10 [.agg (e38 a0),.v (.int .i64 a1),.v (.int .u64 a2),.v (.int .u64 a3),.v (.int .u64 a4)] [] (λ r=>.tup [.agg (e38 r.1),.v (.int .u64 r.2.1),.v (.int .i64 r.2.2)]) λ r=>[]):=by
 refine ⟨λ N _ _ _ _ _=>rn Tryz.f107 [.cell 10 38,.tmp 11,.tmp 12] [] 86 (by kernel_rfl) ?_,λ N _ _ _ _ _=>rn Tryz.f10 [.cell 10 38,.tmp 11,.tmp 12] [] 53 (by kernel_rfl) ?_⟩<;>(rintro _ hw r hr C _ rfl hwf hf;simp only[Tryz.f107,Tryz.f10,Option.get!];(first|rw[Qei] at hr|rw[Qdh] at hr);repeat' first
 |(refine El.el hr ?_;intro hr)
 |(with_reducible intro h;refine Xw hr h ?_;intro hr)
 |with_reducible intro _
 |simp only[go_sem,simprocAttr,hK]
 |(with_reducible first|apply Xg|apply Xf|apply Xo|apply Xt|apply Xu)
 |(refine Xp ?_ ?_;·first|assumption|omega)
 |(refine CallX.inl (f:=30) 12000 (fn:=Tryz.f30) (rs:=[.cell 2 86]) (nt:=44) 1000 (by kernel_rfl) (λ x=>?_) _;simp only[Tryz.f30,Option.get!])
 |(refine CallX.inl (f:=78) 8400 (fn:=Tryz.f78) (rs:=[.tmp 2,.tmp 3]) (nt:=8) 1000 (by kernel_rfl) (λ x=>?_) _;simp only[Tryz.f78,Option.get!])
 |(refine CallX.inl (f:=79) 5200 (fn:=Tryz.f79) (rs:=[.tmp 2,.tmp 3]) (nt:=17) 1000 (by kernel_rfl) (λ x=>?_) _;simp only[Tryz.f79,Option.get!])
 |(refine CallX.inl (f:=80) 4800 (fn:=Tryz.f80) (rs:=[.tmp 2,.tmp 3]) (nt:=17) 1000 (by kernel_rfl) (λ x=>?_) _;simp only[Tryz.f80,Option.get!])
 |(refine CallX.inl (f:=81) 4000 (fn:=Tryz.f81) (rs:=[.tmp 2,.tmp 3]) (nt:=8) 1000 (by kernel_rfl) (λ x=>?_) _;simp only[Tryz.f81,Option.get!])
 |(refine CallX.inl (f:=85) 10800 (fn:=Tryz.f85) (rs:=[.tmp 2,.tmp 3]) (nt:=42) 1000 (by kernel_rfl) (λ x=>?_) _;simp only[Tryz.f85,Option.get!])
 |(refine CallX.inl (f:=166) 2800 (fn:=Tryz.f166) (rs:=[.tmp 4,.tmp 5]) (nt:=104) 1000 (by kernel_rfl) (λ x=>?_) _;simp only[Tryz.f166,Option.get!])
 |(refine CallX.inl (f:=167) 4400 (fn:=Tryz.f167) (rs:=[.cell 2 80,.tmp 3,.tmp 4]) (nt:=34) 1000 (by kernel_rfl) (λ x=>?_) _;simp only[Tryz.f167,Option.get!])
 |(refine CallX.inl (f:=168) 10000 (fn:=Tryz.f168) (rs:=[.tmp 4,.tmp 5]) (nt:=29) 1000 (by kernel_rfl) (λ x=>?_) _;simp only[Tryz.f168,Option.get!])
 |(refine CallX.inl (f:=169) 2400 (fn:=Tryz.f169) (rs:=[.tmp 4,.tmp 5,.tmp 6]) (nt:=45) 1000 (by kernel_rfl) (λ x=>?_) _;simp only[Tryz.f169,Option.get!])
 |(refine CallX.inl (f:=171) 6000 (fn:=Tryz.f171) (rs:=[.tmp 4,.tmp 5]) (nt:=38) 1000 (by kernel_rfl) (λ x=>?_) _;simp only[Tryz.f171,Option.get!])
 |(refine CallX.inl (f:=178) 8800 (fn:=Tryz.f178) (rs:=[.tmp 4,.tmp 5]) (nt:=25) 1000 (by kernel_rfl) (λ x=>?_) _;simp only[Tryz.f178,Option.get!])
 |(with_reducible first|refine CallX.c ?_ _|refine OK.c hr hw ?_ (λ y hr=>?_) _|refine IX hr hw ?_ (λ y hr=>?_) _)
 |refine db 166 9 ⟨⟩ 68 [(0,0,[]),(1,0,[]),(3,0,[]),(7,64,[]),(15,64,[]),(31,64,[]),(63,64,[]),(127,64,[]),(255,64,[]),(7,63,[]),(1023,0,[]),(2047,0,[]),(4095,0,[]),(8191,0,[])] rfl rfl (by kernel_rfl) ?_ _
 |refine db 166 13 ⟨⟩ 12 [(0,37778931862957161709569,[[],[179968]]),(1,37778931862957161709569,[[],[179968]]),(3,37778931862957161709569,[[],[179968]]),(7,37778931862957161709569,[[],[179968]]),(0,35417748621522339102721,[[],[179968]]),(31,1,[[],[179968]]),(63,1,[[],[179968]]),(127,906694364710971881029633,[[],[179968]]),(127,755578637259143234191361,[[],[179968]]),(127,453347182355485940514819,[[],[179968]]),(0,1207745227993911763402752,[[179968],[]]),(1279,906694364710971881029632,[[179968],[]]),(3583,604462909807314587353088,[]),(8191,0,[])] rfl rfl (by kernel_rfl) ?_ _
 |refine db 169 4 ⟨⟩ 21 [(0,112,[]),(1,112,[]),(3,112,[]),(7,112,[]),(0,15,[]),(16,15,[]),(48,15,[]),(127,0,[]),(255,0,[])] rfl rfl (by kernel_rfl) ?_ _
 |refine db 169 6 ⟨⟩ 30 [(0,190,[]),(0,129,[]),(2,129,[]),(6,129,[]),(14,129,[]),(30,129,[]),(63,128,[]),(0,127,[]),(255,0,[]),(511,0,[])] rfl rfl (by kernel_rfl) ?_ _
 |refine db 169 8 ⟨⟩ 4 [(0,2130303778816,[]),(0,34359738369,[]),(2,34359738369,[]),(6,34359738369,[]),(14,34359738369,[]),(30,34359738369,[]),(1,2130303778816,[]),(127,0,[]),(255,0,[])] rfl rfl (by kernel_rfl) ?_ _
 |refine db 85 1 ⟨⟩ 4 [(0,3840,[]),(1,3840,[]),(3,3840,[]),(7,3840,[]),(0,240,[]),(16,240,[]),(48,240,[]),(112,240,[]),(255,0,[]),(511,0,[]),(1023,16384,[]),(1023,8193,[]),(2047,16384,[]),(8191,0,[])] rfl rfl (by kernel_rfl) ?_ _
 |refine db 85 4 ⟨⟩ 6 [(0,31457280,[]),(1,31457280,[]),(3,31457280,[]),(7,31457280,[]),(0,1966080,[]),(16,1966080,[]),(48,1966080,[]),(112,1966080,[]),(255,0,[]),(511,0,[]),(1023,134217728,[]),(1023,67108865,[]),(2047,134217728,[]),(8191,0,[])] rfl rfl (by kernel_rfl) ?_ _
 |(refine Xn hr ?_;rintro rfl;with_reducible refine XF ?_)
 |exact Yj hr
 |((first|refine Xw (c:=true) hr rfl ?_|refine Xw (c:=false) hr rfl ?_|refine Xw hr (by assumption) ?_);intro hr)
 |(with_reducible refine XnR hr ?_ ?_<;>intro hK hr<;>try simp only[hK])
 |fail)
@[reducible,instance] def Qna:=g40.1
@[reducible,instance] def QlK:=g40.2
end Go.Sx
