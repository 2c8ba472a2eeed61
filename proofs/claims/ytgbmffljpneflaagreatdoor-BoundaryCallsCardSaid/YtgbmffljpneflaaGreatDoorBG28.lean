import Derived.Test.YtgbmffljpneflaaGreatDoorBG25
set_option linter.all false
namespace Go.Sx
open Go.Proofs
set_option maxRecDepth 10000
set_option maxHeartbeats 100000000
def g49:(∀N a0 a2 a3 a4,OK (Qdt N a0 a2 a3 a4) 9 [.agg (e38 a0),vi 7,vu a2,vu a3,vu a4] [] (λr=>.tup [.agg (e38 r.1),vu r.2.1,vi r.2.2]) λr=>[])/\(∀N a0 a2 a3 a4,OK (QcL N a0 a2 a3 a4) 9 [.agg (e38 a0),vi 11,vu a2,vu a3,vu a4] [] (λr=>.tup [.agg (e38 r.1),vu r.2.1,vi r.2.2]) λr=>[])/\(∀N a0 a2 a3 a4,OK (QcP N a0 a2 a3 a4) 9 [.agg (e38 a0),vi 15,vu a2,vu a3,vu a4] [] (λr=>.tup [.agg (e38 r.1),vu r.2.1,vi r.2.2]) λr=>[])/\(∀N a0 a2 a3 a4,OK (QcU N a0 a2 a3 a4) 9 [.agg (e38 a0),vi 20,vu a2,vu a3,vu a4] [] (λr=>.tup [.agg (e38 r.1),vu r.2.1,vi r.2.2]) λr=>[]):=by
 refine⟨λN _ _ _ _=>rk Tryz.f9 ?_,λN _ _ _ _=>rk Tryz.f9 ?_,λN _ _ _ _=>rk Tryz.f9 ?_,λN _ _ _ _=>rk Tryz.f9 ?_⟩<;>(rintro _ hw r hr C _ rfl hwf hf;have hse:=@Za _ hw;simp only[Tryz.f9,Tryz.f9,Tryz.f9,Tryz.f9,Option.get!];(first|rw[Qdt]at hr|rw[QcL]at hr|rw[QcP]at hr|rw[QcU]at hr);repeat' first
 |(refine El.el hr ?_;clear hr;intro hr)
 |(with_reducible intro h;refine Xx hr h ?_;clear hr;intro hr)
 |with_reducible intro _
 |simp only[go_sem,simprocAttr,hse]
 |(with_reducible first|apply Xi|apply Xh|apply Xs|apply Xq|apply Xr)
 |(refine Xt ?_ ?_;.first|assumption|omega)
 |(refine CallX.inl (f:=22) 16000 (fn:=Tryz.f22) (rs:=[.cell 2 88]) (nt:=44) 1000 ac (λx=>?_) _;simp only[Tryz.f22,Option.get!])
 |(refine CallX.inl (f:=63) 15600 (fn:=Tryz.f63) (rs:=[.tmp 2,.tmp 3]) (nt:=26) 1000 ac (λx=>?_) _;simp only[Tryz.f63,Option.get!])
 |(refine CallX.inl (f:=67) 10800 (fn:=Tryz.f67) (rs:=[.tmp 2,.tmp 3]) (nt:=26) 1000 ac (λx=>?_) _;simp only[Tryz.f67,Option.get!])
 |(refine CallX.inl (f:=71) 12000 (fn:=Tryz.f71) (rs:=[.tmp 2,.tmp 3]) (nt:=12) 1000 ac (λx=>?_) _;simp only[Tryz.f71,Option.get!])
 |(refine CallX.inl (f:=76) 14400 (fn:=Tryz.f76) (rs:=[.tmp 2,.tmp 3]) (nt:=49) 1000 ac (λx=>?_) _;simp only[Tryz.f76,Option.get!])
 |(refine CallX.inl (f:=143) 8400 (fn:=Tryz.f143) (rs:=[.cell 2 131,.tmp 3,.tmp 4]) (nt:=34) 1000 ac (λx=>?_) _;simp only[Tryz.f143,Option.get!])
 |(refine CallX.inl (f:=145) 6400 (fn:=Tryz.f145) (rs:=[.tmp 4,.tmp 5,.tmp 6]) (nt:=45) 1000 ac (λx=>?_) _;simp only[Tryz.f145,Option.get!])
 |(refine CallX.inl (f:=146) 16400 (fn:=Tryz.f146) (rs:=[.tmp 8,.tmp 9]) (nt:=32) 1000 ac (λx=>?_) _;simp only[Tryz.f146,Option.get!])
 |(refine CallX.inl (f:=147) 10000 (fn:=Tryz.f147) (rs:=[.tmp 4,.tmp 5]) (nt:=38) 1000 ac (λx=>?_) _;simp only[Tryz.f147,Option.get!])
 |(refine CallX.inl (f:=151) 9600 (fn:=Tryz.f151) (rs:=[.tmp 6,.tmp 7]) (nt:=48) 1000 ac (λx=>?_) _;simp only[Tryz.f151,Option.get!])
 |(refine CallX.inl (f:=155) 12800 (fn:=Tryz.f155) (rs:=[.tmp 4,.tmp 5]) (nt:=25) 1000 ac (λx=>?_) _;simp only[Tryz.f155,Option.get!])
 |(with_reducible first|refine CallX.c ?_ _|refine OK.c hr hw ?_ (λy hr=>?_) _|refine IK hr hw ?_ (λy hr=>?_) _)
 |refine db 145 4 ⟨⟩ 21 [(0,112,[]),(1,112,[]),(3,112,[]),(7,112,[]),(0,15,[]),(16,15,[]),(48,15,[]),(127,0,[]),(255,0,[])] rfl rfl ac ?_ _
 |refine db 145 6 ⟨⟩ 30 [(0,190,[]),(0,129,[]),(2,129,[]),(6,129,[]),(14,129,[]),(30,129,[]),(63,128,[]),(0,127,[]),(255,0,[]),(511,0,[])] rfl rfl ac ?_ _
 |refine db 145 8 ⟨⟩ 4 [(0,2130303778816,[]),(0,34359738369,[]),(2,34359738369,[]),(6,34359738369,[]),(14,34359738369,[]),(30,34359738369,[]),(1,2130303778816,[]),(127,0,[]),(255,0,[])] rfl rfl ac ?_ _
 |refine db 67 1 ⟨⟩ 4 [(0,1920,[]),(1,1920,[]),(3,1920,[]),(7,1920,[]),(0,120,[]),(16,120,[]),(48,120,[]),(112,120,[]),(255,0,[]),(511,0,[]),(1023,8192,[]),(1023,4097,[]),(2047,8192,[]),(8191,0,[])] rfl rfl ac ?_ _
 |refine db 76 4 ⟨⟩ 6 [(0,66060289,[[],[921984]]),(1,66060289,[[],[921984]]),(3,66060289,[[],[921984]]),(7,66060289,[[],[921984]]),(15,66060289,[[],[921984]]),(0,34570241,[[],[921984]]),(32,34570241,[[],[921984]]),(96,34570241,[[],[921984]]),(224,34570241,[[],[921984]]),(480,34570241,[[],[921984]]),(0,33521665,[[],[921984]]),(2047,1,[[1920],[921984]]),(4095,1,[[],[921984]]),(8191,805306369,[[],[921984]]),(8191,671088641,[[],[921984]]),(8191,402653187,[[],[921984]]),(0,1073725440,[[921984],[1920]]),(81919,805306368,[[921984],[]]),(229375,536870912,[]),(524287,0,[])] rfl rfl ac ?_ _
 |(refine Xn hr ?_;rintro rfl;with_reducible refine XK ?_)
 |exact Yr hr
 |((first|refine Xx (c:=true) hr rfl ?_|refine Xx (c:=false) hr rfl ?_|refine Xx hr ag ?_);intro hr)
 |fail)
abbrev Qkn:=g49.1
abbrev QjQ:=g49.2.1
abbrev QjR:=g49.2.2.1
abbrev QjS:=g49.2.2.2
attribute [instance] Qkn QjQ QjR QjS
end Go.Sx
