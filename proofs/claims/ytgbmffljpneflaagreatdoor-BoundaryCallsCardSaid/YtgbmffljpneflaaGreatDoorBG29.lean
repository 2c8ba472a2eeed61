import Derived.Test.YtgbmffljpneflaaGreatDoorBG25
set_option linter.all false
namespace Go.Sx
open Go.Proofs
set_option maxRecDepth 10000
set_option maxHeartbeats 100000000
def g48:(∀N a0 a2 a3 a4,OK (Qds N a0 a2 a3 a4) 9 [.agg (e38 a0),vi 6,vu a2,vu a3,vu a4] [] (λr=>.tup [.agg (e38 r.1),vu r.2.1,vi r.2.2]) λr=>[])/\(∀N a0 a2 a3 a4,OK (QcK N a0 a2 a3 a4) 9 [.agg (e38 a0),vi 10,vu a2,vu a3,vu a4] [] (λr=>.tup [.agg (e38 r.1),vu r.2.1,vi r.2.2]) λr=>[])/\(∀N a0 a2 a3 a4,OK (QcO N a0 a2 a3 a4) 9 [.agg (e38 a0),vi 14,vu a2,vu a3,vu a4] [] (λr=>.tup [.agg (e38 r.1),vu r.2.1,vi r.2.2]) λr=>[])/\(∀N a0 a2 a3 a4,OK (QcT N a0 a2 a3 a4) 9 [.agg (e38 a0),vi 19,vu a2,vu a3,vu a4] [] (λr=>.tup [.agg (e38 r.1),vu r.2.1,vi r.2.2]) λr=>[]):=by
 refine⟨λN _ _ _ _=>rk Tryz.f9 ?_,λN _ _ _ _=>rk Tryz.f9 ?_,λN _ _ _ _=>rk Tryz.f9 ?_,λN _ _ _ _=>rk Tryz.f9 ?_⟩<;>(rintro _ hw r hr C _ rfl hwf hf;have hse:=@Za _ hw;simp only[Tryz.f9,Tryz.f9,Tryz.f9,Tryz.f9,Option.get!];(first|rw[Qds]at hr|rw[QcK]at hr|rw[QcO]at hr|rw[QcT]at hr);repeat' first
 |(refine El.el hr ?_;clear hr;intro hr)
 |(with_reducible intro h;refine Xx hr h ?_;clear hr;intro hr)
 |with_reducible intro _
 |simp only[go_sem,simprocAttr,hse]
 |(with_reducible first|apply Xi|apply Xh|apply Xs|apply Xq|apply Xr)
 |(refine Xt ?_ ?_;.first|assumption|omega)
 |(refine CallX.inl (f:=22) 16000 (fn:=Tryz.f22) (rs:=[.cell 2 88]) (nt:=44) 1000 ac (λx=>?_) _;simp only[Tryz.f22,Option.get!])
 |(refine CallX.inl (f:=62) 8000 (fn:=Tryz.f62) (rs:=[.tmp 2,.tmp 3]) (nt:=8) 1000 ac (λx=>?_) _;simp only[Tryz.f62,Option.get!])
 |(refine CallX.inl (f:=66) 14800 (fn:=Tryz.f66) (rs:=[.tmp 2,.tmp 3]) (nt:=42) 1000 ac (λx=>?_) _;simp only[Tryz.f66,Option.get!])
 |(refine CallX.inl (f:=70) 4800 (fn:=Tryz.f70) (rs:=[.tmp 2,.tmp 3]) (nt:=32) 1000 ac (λx=>?_) _;simp only[Tryz.f70,Option.get!])
 |(refine CallX.inl (f:=75) 7200 (fn:=Tryz.f75) (rs:=[.tmp 2,.tmp 3]) (nt:=52) 1000 ac (λx=>?_) _;simp only[Tryz.f75,Option.get!])
 |(refine CallX.inl (f:=143) 8400 (fn:=Tryz.f143) (rs:=[.cell 2 131,.tmp 3,.tmp 4]) (nt:=34) 1000 ac (λx=>?_) _;simp only[Tryz.f143,Option.get!])
 |(refine CallX.inl (f:=144) 14000 (fn:=Tryz.f144) (rs:=[.tmp 4,.tmp 5]) (nt:=29) 1000 ac (λx=>?_) _;simp only[Tryz.f144,Option.get!])
 |(refine CallX.inl (f:=145) 6400 (fn:=Tryz.f145) (rs:=[.tmp 4,.tmp 5,.tmp 6]) (nt:=45) 1000 ac (λx=>?_) _;simp only[Tryz.f145,Option.get!])
 |(refine CallX.inl (f:=149) 6000 (fn:=Tryz.f149) (rs:=[.cell 4 151,.tmp 5]) (nt:=52) 1000 ac (λx=>?_) _;simp only[Tryz.f149,Option.get!])
 |(refine CallX.inl (f:=155) 12800 (fn:=Tryz.f155) (rs:=[.tmp 4,.tmp 5]) (nt:=25) 1000 ac (λx=>?_) _;simp only[Tryz.f155,Option.get!])
 |(with_reducible first|refine CallX.c ?_ _|refine OK.c hr hw ?_ (λy hr=>?_) _|refine IK hr hw ?_ (λy hr=>?_) _)
 |refine db 145 4 ⟨⟩ 21 [(0,112,[]),(1,112,[]),(3,112,[]),(7,112,[]),(0,15,[]),(16,15,[]),(48,15,[]),(127,0,[]),(255,0,[])] rfl rfl ac ?_ _
 |refine db 145 6 ⟨⟩ 30 [(0,190,[]),(0,129,[]),(2,129,[]),(6,129,[]),(14,129,[]),(30,129,[]),(63,128,[]),(0,127,[]),(255,0,[]),(511,0,[])] rfl rfl ac ?_ _
 |refine db 145 8 ⟨⟩ 4 [(0,2130303778816,[]),(0,34359738369,[]),(2,34359738369,[]),(6,34359738369,[]),(14,34359738369,[]),(30,34359738369,[]),(1,2130303778816,[]),(127,0,[]),(255,0,[])] rfl rfl ac ?_ _
 |refine db 66 1 ⟨⟩ 4 [(0,3840,[]),(1,3840,[]),(3,3840,[]),(7,3840,[]),(0,240,[]),(16,240,[]),(48,240,[]),(112,240,[]),(255,0,[]),(511,0,[]),(1023,16384,[]),(1023,8193,[]),(2047,16384,[]),(8191,0,[])] rfl rfl ac ?_ _
 |refine db 66 4 ⟨⟩ 6 [(0,31457280,[]),(1,31457280,[]),(3,31457280,[]),(7,31457280,[]),(0,1966080,[]),(16,1966080,[]),(48,1966080,[]),(112,1966080,[]),(255,0,[]),(511,0,[]),(1023,134217728,[]),(1023,67108865,[]),(2047,134217728,[]),(8191,0,[])] rfl rfl ac ?_ _
 |refine db 70 4 ⟨⟩ 14 [(0,16381,[]),(0,1922,[]),(2,1922,[]),(6,1922,[]),(14,1922,[]),(30,1922,[]),(0,1662,[]),(64,1662,[]),(0,510,[]),(256,510,[]),(1022,2,[]),(2046,2,[]),(4094,8194,[]),(4094,118786,[[],[2240]]),(8191,8192,[]),(24575,8192,[]),(57343,8192,[]),(122879,8192,[[2240],[]]),(262143,0,[])] rfl rfl ac ?_ _
 |refine db 149 3 ⟨⟩ 6 [(0,491520,[]),(1,491520,[]),(3,491520,[]),(7,491520,[]),(0,30720,[]),(16,30720,[]),(48,30720,[]),(112,30720,[]),(255,0,[]),(511,0,[]),(1023,2097152,[]),(1023,1048577,[]),(2047,2097152,[]),(8191,0,[])] rfl rfl ac ?_ _
 |refine db 75 4 ⟨⟩ 6 [(0,132120577,[[],[461184]]),(1,132120577,[[],[461184]]),(3,132120577,[[],[461184]]),(7,132120577,[[],[461184]]),(15,132120577,[[],[461184]]),(0,69140481,[[],[461184]]),(32,69140481,[[],[461184]]),(96,69140481,[[],[461184]]),(224,69140481,[[],[461184]]),(480,69140481,[[],[461184]]),(0,67043329,[[],[461184]]),(2047,1,[[1920],[461184]]),(4095,1,[[],[461184]]),(8191,3758096385,[[],[461184]]),(8191,3489660929,[[],[461184]]),(8191,2952790019,[[],[461184]]),(8191,1879048199,[[],[461184]]),(0,4294934528,[[461184],[1920]]),(147455,3758096384,[[461184],[]]),(425983,3221225472,[]),(983039,2147483648,[]),(2097151,0,[])] rfl rfl ac ?_ _
 |(refine Xn hr ?_;rintro rfl;with_reducible refine XK ?_)
 |exact Yr hr
 |((first|refine Xx (c:=true) hr rfl ?_|refine Xx (c:=false) hr rfl ?_|refine Xx hr ag ?_);intro hr)
 |fail)
abbrev Qko:=g48.1
abbrev QjT:=g48.2.1
abbrev QjU:=g48.2.2.1
abbrev QjV:=g48.2.2.2
attribute [instance] Qko QjT QjU QjV
end Go.Sx
