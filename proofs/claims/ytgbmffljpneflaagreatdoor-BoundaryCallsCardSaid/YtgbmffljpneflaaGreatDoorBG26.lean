import Derived.Test.YtgbmffljpneflaaGreatDoorBG25
set_option linter.all false
namespace Go.Sx
open Go.Proofs
set_option maxRecDepth 10000
set_option maxHeartbeats 100000000
def g46:(∀N a0 a2 a3 a4,OK (Qdq N a0 a2 a3 a4) 9 [.agg (e38 a0),vi 4,vu a2,vu a3,vu a4] [] (λr=>.tup [.agg (e38 r.1),vu r.2.1,vi r.2.2]) λr=>[])/\(∀N a0 a2 a3 a4,OK (Qdu N a0 a2 a3 a4) 9 [.agg (e38 a0),vi 8,vu a2,vu a3,vu a4] [] (λr=>.tup [.agg (e38 r.1),vu r.2.1,vi r.2.2]) λr=>[])/\(∀N a0 a2 a3 a4,OK (QcM N a0 a2 a3 a4) 9 [.agg (e38 a0),vi 12,vu a2,vu a3,vu a4] [] (λr=>.tup [.agg (e38 r.1),vu r.2.1,vi r.2.2]) λr=>[])/\(∀N a0 a2 a3 a4,OK (QcQ N a0 a2 a3 a4) 9 [.agg (e38 a0),vi 16,vu a2,vu a3,vu a4] [] (λr=>.tup [.agg (e38 r.1),vu r.2.1,vi r.2.2]) λr=>[]):=by
 refine⟨λN _ _ _ _=>rk Tryz.f9 ?_,λN _ _ _ _=>rk Tryz.f9 ?_,λN _ _ _ _=>rk Tryz.f9 ?_,λN _ _ _ _=>rk Tryz.f9 ?_⟩<;>(rintro _ hw r hr C _ rfl hwf hf;have hse:=@Za _ hw;simp only[Tryz.f9,Tryz.f9,Tryz.f9,Tryz.f9,Option.get!];(first|rw[Qdq]at hr|rw[Qdu]at hr|rw[QcM]at hr|rw[QcQ]at hr);repeat' first
 |(refine El.el hr ?_;clear hr;intro hr)
 |(with_reducible intro h;refine Xx hr h ?_;clear hr;intro hr)
 |with_reducible intro _
 |simp only[go_sem,simprocAttr,hse]
 |(with_reducible first|apply Xi|apply Xh|apply Xs|apply Xq|apply Xr)
 |(refine Xt ?_ ?_;.first|assumption|omega)
 |(refine CallX.inl (f:=22) 16000 (fn:=Tryz.f22) (rs:=[.cell 2 88]) (nt:=44) 1000 ac (λx=>?_) _;simp only[Tryz.f22,Option.get!])
 |(refine CallX.inl (f:=60) 9200 (fn:=Tryz.f60) (rs:=[.tmp 2,.tmp 3]) (nt:=17) 1000 ac (λx=>?_) _;simp only[Tryz.f60,Option.get!])
 |(refine CallX.inl (f:=64) 7600 (fn:=Tryz.f64) (rs:=[.tmp 2,.tmp 3]) (nt:=19) 1000 ac (λx=>?_) _;simp only[Tryz.f64,Option.get!])
 |(refine CallX.inl (f:=68) 5200 (fn:=Tryz.f68) (rs:=[.tmp 2,.tmp 3]) (nt:=32) 1000 ac (λx=>?_) _;simp only[Tryz.f68,Option.get!])
 |(refine CallX.inl (f:=72) 5600 (fn:=Tryz.f72) (rs:=[.tmp 2,.tmp 3]) (nt:=32) 1000 ac (λx=>?_) _;simp only[Tryz.f72,Option.get!])
 |(refine CallX.inl (f:=143) 8400 (fn:=Tryz.f143) (rs:=[.cell 2 131,.tmp 3,.tmp 4]) (nt:=34) 1000 ac (λx=>?_) _;simp only[Tryz.f143,Option.get!])
 |(refine CallX.inl (f:=144) 14000 (fn:=Tryz.f144) (rs:=[.tmp 4,.tmp 5]) (nt:=29) 1000 ac (λx=>?_) _;simp only[Tryz.f144,Option.get!])
 |(refine CallX.inl (f:=145) 6400 (fn:=Tryz.f145) (rs:=[.tmp 4,.tmp 5,.tmp 6]) (nt:=45) 1000 ac (λx=>?_) _;simp only[Tryz.f145,Option.get!])
 |(refine CallX.inl (f:=147) 10000 (fn:=Tryz.f147) (rs:=[.tmp 4,.tmp 5]) (nt:=38) 1000 ac (λx=>?_) _;simp only[Tryz.f147,Option.get!])
 |(refine CallX.inl (f:=149) 6000 (fn:=Tryz.f149) (rs:=[.cell 4 151,.tmp 5]) (nt:=52) 1000 ac (λx=>?_) _;simp only[Tryz.f149,Option.get!])
 |(refine CallX.inl (f:=155) 12800 (fn:=Tryz.f155) (rs:=[.tmp 4,.tmp 5]) (nt:=25) 1000 ac (λx=>?_) _;simp only[Tryz.f155,Option.get!])
 |(with_reducible first|refine CallX.c ?_ _|refine OK.c hr hw ?_ (λy hr=>?_) _|refine IK hr hw ?_ (λy hr=>?_) _)
 |refine db 145 4 ⟨⟩ 21 [(0,112,[]),(1,112,[]),(3,112,[]),(7,112,[]),(0,15,[]),(16,15,[]),(48,15,[]),(127,0,[]),(255,0,[])] rfl rfl ac ?_ _
 |refine db 145 6 ⟨⟩ 30 [(0,190,[]),(0,129,[]),(2,129,[]),(6,129,[]),(14,129,[]),(30,129,[]),(63,128,[]),(0,127,[]),(255,0,[]),(511,0,[])] rfl rfl ac ?_ _
 |refine db 145 8 ⟨⟩ 4 [(0,2130303778816,[]),(0,34359738369,[]),(2,34359738369,[]),(6,34359738369,[]),(14,34359738369,[]),(30,34359738369,[]),(1,2130303778816,[]),(127,0,[]),(255,0,[])] rfl rfl ac ?_ _
 |refine db 68 4 ⟨⟩ 14 [(0,16381,[]),(0,1922,[]),(2,1922,[]),(6,1922,[]),(14,1922,[]),(30,1922,[]),(0,1662,[]),(64,1662,[]),(0,510,[]),(256,510,[]),(1022,2,[]),(2046,2,[]),(4094,8194,[]),(4094,118786,[[],[2240]]),(8191,8192,[]),(24575,8192,[]),(57343,8192,[]),(122879,8192,[[2240],[]]),(262143,0,[])] rfl rfl ac ?_ _
 |refine db 149 3 ⟨⟩ 6 [(0,491520,[]),(1,491520,[]),(3,491520,[]),(7,491520,[]),(0,30720,[]),(16,30720,[]),(48,30720,[]),(112,30720,[]),(255,0,[]),(511,0,[]),(1023,2097152,[]),(1023,1048577,[]),(2047,2097152,[]),(8191,0,[])] rfl rfl ac ?_ _
 |refine db 72 4 ⟨⟩ 14 [(0,16381,[]),(0,1922,[]),(2,1922,[]),(6,1922,[]),(14,1922,[]),(30,1922,[]),(0,1662,[]),(64,1662,[]),(0,510,[]),(256,510,[]),(1022,2,[]),(2046,2,[]),(4094,8194,[]),(4094,118786,[[],[2240]]),(8191,8192,[]),(24575,8192,[]),(57343,8192,[]),(122879,8192,[[2240],[]]),(262143,0,[])] rfl rfl ac ?_ _
 |(refine Xn hr ?_;rintro rfl;with_reducible refine XK ?_)
 |exact Yr hr
 |((first|refine Xx (c:=true) hr rfl ?_|refine Xx (c:=false) hr rfl ?_|refine Xx hr ag ?_);intro hr)
 |fail)
abbrev Qkj:=g46.1
abbrev Qkk:=g46.2.1
abbrev QjM:=g46.2.2.1
abbrev QjN:=g46.2.2.2
attribute [instance] Qkj Qkk QjM QjN
end Go.Sx
