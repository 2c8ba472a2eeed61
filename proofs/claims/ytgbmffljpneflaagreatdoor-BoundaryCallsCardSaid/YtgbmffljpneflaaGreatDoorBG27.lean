import Derived.Test.YtgbmffljpneflaaGreatDoorBG25
set_option linter.all false
namespace Go.Sx
open Go.Proofs
set_option maxRecDepth 10000
set_option maxHeartbeats 100000000
def g47:(∀N a0 a2 a3 a4,OK (Qdr N a0 a2 a3 a4) 9 [.agg (e38 a0),vi 5,vu a2,vu a3,vu a4] [] (λr=>.tup [.agg (e38 r.1),vu r.2.1,vi r.2.2]) λr=>[])/\(∀N a0 a2 a3 a4,OK (Qdv N a0 a2 a3 a4) 9 [.agg (e38 a0),vi 9,vu a2,vu a3,vu a4] [] (λr=>.tup [.agg (e38 r.1),vu r.2.1,vi r.2.2]) λr=>[])/\(∀N a0 a2 a3 a4,OK (QcN N a0 a2 a3 a4) 9 [.agg (e38 a0),vi 13,vu a2,vu a3,vu a4] [] (λr=>.tup [.agg (e38 r.1),vu r.2.1,vi r.2.2]) λr=>[])/\(∀N a0 a2 a3 a4,OK (QcS N a0 a2 a3 a4) 9 [.agg (e38 a0),vi 18,vu a2,vu a3,vu a4] [] (λr=>.tup [.agg (e38 r.1),vu r.2.1,vi r.2.2]) λr=>[]):=by
 refine⟨λN _ _ _ _=>rk Tryz.f9 ?_,λN _ _ _ _=>rk Tryz.f9 ?_,λN _ _ _ _=>rk Tryz.f9 ?_,λN _ _ _ _=>rk Tryz.f9 ?_⟩<;>(rintro _ hw r hr C _ rfl hwf hf;have hse:=@Za _ hw;simp only[Tryz.f9,Tryz.f9,Tryz.f9,Tryz.f9,Option.get!];(first|rw[Qdr]at hr|rw[Qdv]at hr|rw[QcN]at hr|rw[QcS]at hr);repeat' first
 |(refine El.el hr ?_;clear hr;intro hr)
 |(with_reducible intro h;refine Xx hr h ?_;clear hr;intro hr)
 |with_reducible intro _
 |simp only[go_sem,simprocAttr,hse]
 |(with_reducible first|apply Xi|apply Xh|apply Xs|apply Xq|apply Xr)
 |(refine Xt ?_ ?_;.first|assumption|omega)
 |(refine CallX.inl (f:=22) 16000 (fn:=Tryz.f22) (rs:=[.cell 2 88]) (nt:=44) 1000 ac (λx=>?_) _;simp only[Tryz.f22,Option.get!])
 |(refine CallX.inl (f:=61) 8800 (fn:=Tryz.f61) (rs:=[.tmp 2,.tmp 3]) (nt:=17) 1000 ac (λx=>?_) _;simp only[Tryz.f61,Option.get!])
 |(refine CallX.inl (f:=65) 15200 (fn:=Tryz.f65) (rs:=[.tmp 2,.tmp 3]) (nt:=39) 1000 ac (λx=>?_) _;simp only[Tryz.f65,Option.get!])
 |(refine CallX.inl (f:=69) 10400 (fn:=Tryz.f69) (rs:=[.tmp 2,.tmp 3]) (nt:=12) 1000 ac (λx=>?_) _;simp only[Tryz.f69,Option.get!])
 |(refine CallX.inl (f:=74) 13200 (fn:=Tryz.f74) (rs:=[.tmp 2,.tmp 3]) (nt:=44) 1000 ac (λx=>?_) _;simp only[Tryz.f74,Option.get!])
 |(refine CallX.inl (f:=143) 8400 (fn:=Tryz.f143) (rs:=[.cell 2 131,.tmp 3,.tmp 4]) (nt:=34) 1000 ac (λx=>?_) _;simp only[Tryz.f143,Option.get!])
 |(refine CallX.inl (f:=145) 6400 (fn:=Tryz.f145) (rs:=[.tmp 4,.tmp 5,.tmp 6]) (nt:=45) 1000 ac (λx=>?_) _;simp only[Tryz.f145,Option.get!])
 |(refine CallX.inl (f:=146) 16400 (fn:=Tryz.f146) (rs:=[.tmp 8,.tmp 9]) (nt:=32) 1000 ac (λx=>?_) _;simp only[Tryz.f146,Option.get!])
 |(refine CallX.inl (f:=147) 10000 (fn:=Tryz.f147) (rs:=[.tmp 4,.tmp 5]) (nt:=38) 1000 ac (λx=>?_) _;simp only[Tryz.f147,Option.get!])
 |(refine CallX.inl (f:=151) 9600 (fn:=Tryz.f151) (rs:=[.tmp 6,.tmp 7]) (nt:=48) 1000 ac (λx=>?_) _;simp only[Tryz.f151,Option.get!])
 |(refine CallX.inl (f:=155) 12800 (fn:=Tryz.f155) (rs:=[.tmp 4,.tmp 5]) (nt:=25) 1000 ac (λx=>?_) _;simp only[Tryz.f155,Option.get!])
 |(with_reducible first|refine CallX.c ?_ _|refine OK.c hr hw ?_ (λy hr=>?_) _|refine IK hr hw ?_ (λy hr=>?_) _)
 |refine db 65 4 ⟨⟩ 7 [(0,491520,[]),(1,491520,[]),(3,491520,[]),(7,491520,[]),(0,30720,[]),(16,30720,[]),(48,30720,[]),(112,30720,[]),(255,0,[]),(511,0,[]),(1023,2097152,[]),(1023,1048577,[]),(2047,2097152,[]),(8191,0,[])] rfl rfl ac ?_ _
 |refine db 145 4 ⟨⟩ 21 [(0,112,[]),(1,112,[]),(3,112,[]),(7,112,[]),(0,15,[]),(16,15,[]),(48,15,[]),(127,0,[]),(255,0,[])] rfl rfl ac ?_ _
 |refine db 145 6 ⟨⟩ 30 [(0,190,[]),(0,129,[]),(2,129,[]),(6,129,[]),(14,129,[]),(30,129,[]),(63,128,[]),(0,127,[]),(255,0,[]),(511,0,[])] rfl rfl ac ?_ _
 |refine db 145 8 ⟨⟩ 4 [(0,2130303778816,[]),(0,34359738369,[]),(2,34359738369,[]),(6,34359738369,[]),(14,34359738369,[]),(30,34359738369,[]),(1,2130303778816,[]),(127,0,[]),(255,0,[])] rfl rfl ac ?_ _
 |refine db 74 1 ⟨⟩ 4 [(0,3840,[]),(1,3840,[]),(3,3840,[]),(7,3840,[]),(0,240,[]),(16,240,[]),(48,240,[]),(112,240,[]),(255,0,[]),(511,0,[]),(1023,16384,[]),(1023,8193,[]),(2047,16384,[]),(8191,0,[])] rfl rfl ac ?_ _
 |(refine Xn hr ?_;rintro rfl;with_reducible refine XK ?_)
 |exact Yr hr
 |((first|refine Xx (c:=true) hr rfl ?_|refine Xx (c:=false) hr rfl ?_|refine Xx hr ag ?_);intro hr)
 |fail)
abbrev Qkl:=g47.1
abbrev Qkm:=g47.2.1
abbrev QjO:=g47.2.2.1
abbrev QjP:=g47.2.2.2
attribute [instance] Qkl Qkm QjO QjP
end Go.Sx
