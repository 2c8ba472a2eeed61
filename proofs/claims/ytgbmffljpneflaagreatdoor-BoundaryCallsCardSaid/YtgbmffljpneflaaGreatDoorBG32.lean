import Derived.Test.YtgbmffljpneflaaGreatDoorBG16
import Derived.Test.YtgbmffljpneflaaGreatDoorBG26
import Derived.Test.YtgbmffljpneflaaGreatDoorBG27
import Derived.Test.YtgbmffljpneflaaGreatDoorBG28
import Derived.Test.YtgbmffljpneflaaGreatDoorBG29
import Derived.Test.YtgbmffljpneflaaGreatDoorBG31
set_option linter.all false
namespace Go.Sx
open Go.Proofs
set_option maxRecDepth 10000
set_option maxHeartbeats 100000000
instance Qrz:∀N a0 a1,OK (Qco N a0 a1) 15 [.agg (e45 a0),.agg (e54 a1)] [] (λr=>.tup [.agg (e45 r.1),vu r.2.1,vi r.2.2]) λr=>[]:=by
 refineλN _ _=>rk Tryz.f15 ?_<;>(rintro _ hw r hr C _ rfl hwf hf;simp only[Tryz.f15,Option.get!];(rw[Qco]at hr);repeat' first
 |(refine El.el hr ?_;clear hr;intro hr)
 |(with_reducible intro h;refine Xx hr h ?_;clear hr;intro hr)
 |with_reducible intro _
 |simp only[go_sem,simprocAttr]
 |(with_reducible first|apply Xi|apply Xh|apply Xs)
 |(refine Xt ?_ ?_;.first|assumption|omega)
 |(with_reducible first|refine CallX.c ?_ _|refine OK.c hr hw ?_ (λy hr=>?_) _)
 |(refine Xn hr ?_;rintro rfl;with_reducible refine XK ?_)
 |exact Yr hr
 |fail)
instance Qrx:∀N(a0:WJ)(a1:Int)(a2:Int)(a3:Int)(a4:Int),OK (Qd4 N a0 a1 a2 a3 a4) 9 [.agg (e38 a0),.v (.int .i64 a1),.v (.int .u64 a2),.v (.int .u64 a3),.v (.int .u64 a4)] [] (λr=>.tup [.agg (e38 r.1),.v (.int .u64 r.2.1),.v (.int .i64 r.2.2)]) λr=>[]:=by
 refineλN a0 a1 a2 a3 a4=>⟨λG hw r hr=>?_⟩
 rw[Qd4]at hr;by_cases h1:a1=1
 .subst h1;exact(OK.h (o:=Qdn N a0 a2 a3 a4)) G hw r hr
 by_cases h2:a1=2
 .subst h2;exact(OK.h (o:=Qdo N a0 a2 a3 a4)) G hw r hr
 by_cases h3:a1=3
 .subst h3;exact(OK.h (o:=Qdp N a0 a2 a3 a4)) G hw r hr
 by_cases h4:a1=4
 .subst h4;exact(OK.h (o:=Qdq N a0 a2 a3 a4)) G hw r hr
 by_cases h5:a1=5
 .subst h5;exact(OK.h (o:=Qdr N a0 a2 a3 a4)) G hw r hr
 by_cases h6:a1=6
 .subst h6;exact(OK.h (o:=Qds N a0 a2 a3 a4)) G hw r hr
 by_cases h7:a1=7
 .subst h7;exact(OK.h (o:=Qdt N a0 a2 a3 a4)) G hw r hr
 by_cases h8:a1=8
 .subst h8;exact(OK.h (o:=Qdu N a0 a2 a3 a4)) G hw r hr
 by_cases h9:a1=9
 .subst h9;exact(OK.h (o:=Qdv N a0 a2 a3 a4)) G hw r hr
 by_cases h10:a1=10
 .subst h10;exact(OK.h (o:=QcK N a0 a2 a3 a4)) G hw r hr
 by_cases h11:a1=11
 .subst h11;exact(OK.h (o:=QcL N a0 a2 a3 a4)) G hw r hr
 by_cases h12:a1=12
 .subst h12;exact(OK.h (o:=QcM N a0 a2 a3 a4)) G hw r hr
 by_cases h13:a1=13
 .subst h13;exact(OK.h (o:=QcN N a0 a2 a3 a4)) G hw r hr
 by_cases h14:a1=14
 .subst h14;exact(OK.h (o:=QcO N a0 a2 a3 a4)) G hw r hr
 by_cases h15:a1=15
 .subst h15;exact(OK.h (o:=QcP N a0 a2 a3 a4)) G hw r hr
 by_cases h16:a1=16
 .subst h16;exact(OK.h (o:=QcQ N a0 a2 a3 a4)) G hw r hr
 by_cases h17:a1=17
 .subst h17;exact(OK.h (o:=QcR N a0 a2 a3 a4)) G hw r hr
 by_cases h18:a1=18
 .subst h18;exact(OK.h (o:=QcS N a0 a2 a3 a4)) G hw r hr
 by_cases h19:a1=19
 .subst h19;exact(OK.h (o:=QcT N a0 a2 a3 a4)) G hw r hr
 by_cases h20:a1=20
 .subst h20;exact(OK.h (o:=QcU N a0 a2 a3 a4)) G hw r hr
 rw[WZ.2 h1,Wa]at hr;rw[WZ.2 h2,Wa]at hr;rw[WZ.2 h3,Wa]at hr;rw[WZ.2 h4,Wa]at hr;rw[WZ.2 h5,Wa]at hr;rw[WZ.2 h6,Wa]at hr;rw[WZ.2 h7,Wa]at hr;rw[WZ.2 h8,Wa]at hr;rw[WZ.2 h9,Wa]at hr;rw[WZ.2 h10,Wa]at hr;rw[WZ.2 h11,Wa]at hr;rw[WZ.2 h12,Wa]at hr;rw[WZ.2 h13,Wa]at hr;rw[WZ.2 h14,Wa]at hr;rw[WZ.2 h15,Wa]at hr;rw[WZ.2 h16,Wa]at hr;rw[WZ.2 h17,Wa]at hr;rw[WZ.2 h18,Wa]at hr;rw[WZ.2 h19,Wa]at hr;rw[WZ.2 h20,Wa]at hr;exact OK.h G hw r hr
end Go.Sx
