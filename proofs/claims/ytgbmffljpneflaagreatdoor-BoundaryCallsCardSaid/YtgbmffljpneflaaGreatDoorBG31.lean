import Derived.Test.YtgbmffljpneflaaGreatDoorBG30
set_option linter.all false
namespace Go.Sx
open Go.Proofs
set_option maxRecDepth 10000
set_option maxHeartbeats 100000000
def g51:(∀N a0 a2 a3 a4,OK (Qdn N a0 a2 a3 a4) 9 [.agg (e38 a0),vi 1,vu a2,vu a3,vu a4] [] (λr=>.tup [.agg (e38 r.1),vu r.2.1,vi r.2.2]) λr=>[])/\(∀N a0 a2 a3 a4,OK (Qdo N a0 a2 a3 a4) 9 [.agg (e38 a0),vi 2,vu a2,vu a3,vu a4] [] (λr=>.tup [.agg (e38 r.1),vu r.2.1,vi r.2.2]) λr=>[])/\(∀N a0 a2 a3 a4,OK (Qdp N a0 a2 a3 a4) 9 [.agg (e38 a0),vi 3,vu a2,vu a3,vu a4] [] (λr=>.tup [.agg (e38 r.1),vu r.2.1,vi r.2.2]) λr=>[]):=by
 refine⟨λN _ _ _ _=>rk Tryz.f9 ?_,λN _ _ _ _=>rk Tryz.f9 ?_,λN _ _ _ _=>rk Tryz.f9 ?_⟩<;>(rintro _ hw r hr C _ rfl hwf hf;have hse:=@Za _ hw;simp only[Tryz.f9,Tryz.f9,Tryz.f9,Option.get!];(first|rw[Qdn]at hr|rw[Qdo]at hr|rw[Qdp]at hr);repeat' first
 |(refine El.el hr ?_;clear hr;intro hr)
 |(with_reducible intro h;refine Xx hr h ?_;clear hr;intro hr)
 |with_reducible intro _
 |simp only[go_sem,simprocAttr,hse]
 |(with_reducible first|apply Xi|apply Xh|apply Xs|apply Xq|apply Xr)
 |(refine Xt ?_ ?_;.first|assumption|omega)
 |(refine CallX.inl (f:=22) 16000 (fn:=Tryz.f22) (rs:=[.cell 2 88]) (nt:=44) 1000 ac (λx=>?_) _;simp only[Tryz.f22,Option.get!])
 |(refine CallX.inl (f:=57) 11200 (fn:=Tryz.f57) (rs:=[.tmp 2,.tmp 3]) (nt:=8) 1000 ac (λx=>?_) _;simp only[Tryz.f57,Option.get!])
 |(refine CallX.inl (f:=58) 11600 (fn:=Tryz.f58) (rs:=[.tmp 2,.tmp 3]) (nt:=8) 1000 ac (λx=>?_) _;simp only[Tryz.f58,Option.get!])
 |(refine CallX.inl (f:=59) 12400 (fn:=Tryz.f59) (rs:=[.tmp 2,.tmp 3]) (nt:=8) 1000 ac (λx=>?_) _;simp only[Tryz.f59,Option.get!])
 |(refine CallX.inl (f:=142) 6800 (fn:=Tryz.f142) (rs:=[.tmp 4,.tmp 5]) (nt:=104) 1000 ac (λx=>?_) _;simp only[Tryz.f142,Option.get!])
 |(refine CallX.inl (f:=147) 10000 (fn:=Tryz.f147) (rs:=[.tmp 4,.tmp 5]) (nt:=38) 1000 ac (λx=>?_) _;simp only[Tryz.f147,Option.get!])
 |(with_reducible first|refine CallX.c ?_ _|refine OK.c hr hw ?_ (λy hr=>?_) _|refine IK hr hw ?_ (λy hr=>?_) _)
 |refine db 142 9 ⟨⟩ 68 [(0,0,[]),(1,0,[]),(3,0,[]),(7,64,[]),(15,64,[]),(31,64,[]),(63,64,[]),(127,64,[]),(255,64,[]),(7,63,[]),(1023,0,[]),(2047,0,[]),(4095,0,[]),(8191,0,[])] rfl rfl ac ?_ _
 |refine db 142 13 ⟨⟩ 12 [(0,37778931862957161709569,[[],[435968]]),(1,37778931862957161709569,[[],[435968]]),(3,37778931862957161709569,[[],[435968]]),(7,37778931862957161709569,[[],[435968]]),(0,35417748621522339102721,[[],[435968]]),(31,1,[[1920,1921],[435968]]),(63,1,[[],[435968]]),(127,906694364710971881029633,[[],[435968]]),(127,755578637259143234191361,[[],[435968]]),(127,453347182355485940514819,[[],[435968]]),(0,1207745227993911763402752,[[435968],[1920,1921]]),(1279,906694364710971881029632,[[435968],[]]),(3583,604462909807314587353088,[]),(8191,0,[])] rfl rfl ac ?_ _
 |(refine Xn hr ?_;rintro rfl;with_reducible refine XK ?_)
 |exact Yr hr
 |((first|refine Xx (c:=true) hr rfl ?_|refine Xx (c:=false) hr rfl ?_|refine Xx hr ag ?_);intro hr)
 |fail)
abbrev Qkp:=g51.1
abbrev Qkq:=g51.2.1
abbrev Qkr:=g51.2.2
attribute [instance] Qkp Qkq Qkr
instance QrE:∀N a0 a1 a2 a3 a4,OK (Qaf N a0 a1 a2 a3 a4) 10 [.agg (e38 a0),vi a1,vu a2,vu a3,vu a4] [] (λr=>.tup [.agg (e38 r.1),vu r.2.1,vi r.2.2]) λr=>[]:=by
 refineλN _ _ _ _ _=>rk Tryz.f10 ?_<;>(rintro _ hw r hr C _ rfl hwf hf;simp only[Tryz.f10,Option.get!];(rw[Qaf]at hr);repeat' first
 |(refine El.el hr ?_;clear hr;intro hr)
 |(with_reducible intro h;refine Xx hr h ?_;clear hr;intro hr)
 |with_reducible intro _
 |simp only[go_sem,simprocAttr]
 |(with_reducible first|apply Xi|apply Xh|apply Xs)
 |(refine Xt ?_ ?_;.first|assumption|omega)
 |(with_reducible first|refine CallX.c ?_ _|refine OK.c hr hw ?_ (λy hr=>?_) _)
 |(refine Xn hr ?_;rintro rfl;with_reducible refine XK ?_)
 |exact Yr hr
 |fail)
end Go.Sx
