import Derived.Test.YtgbmffljpneflaaGreatDoorSG17
import Derived.Test.YtgbmffljpneflaaGreatDoorSG27
import Derived.Test.YtgbmffljpneflaaGreatDoorSG28
import Derived.Test.YtgbmffljpneflaaGreatDoorSG29
import Derived.Test.YtgbmffljpneflaaGreatDoorSG30
import Derived.Test.YtgbmffljpneflaaGreatDoorSG32
set_option linter.all false
namespace Go.Sx
open Go.Proofs
set_option maxRecDepth 10000
set_option maxHeartbeats 100000000
instance Qri:∀N a0 a1,OK (QbG N a0 a1) 15 [.agg (e45 a0),.agg (e54 a1)] [] (λr=>.tup [.agg (e45 r.1),vu r.2.1,vi r.2.2]) λr=>[]:=by
 refineλN _ _=>rk Tryz.f15 ?_<;>(rintro _ hw r hr C _ rfl hwf hf;simp only[Tryz.f15,Option.get!];(rw[QbG]at hr);repeat' first
 |(refine El.el hr ?_;clear hr;intro hr)
 |(with_reducible intro h;refine Xv hr h ?_;clear hr;intro hr)
 |with_reducible intro _
 |simp only[go_sem,simprocAttr]
 |(with_reducible first|apply Xi|apply Xh|apply Xo)
 |(refine Xp ?_ ?_;.first|assumption|omega)
 |(with_reducible first|refine CallX.c ?_ _|refine OK.c hr hw ?_ (λy hr=>?_) _)
 |(refine Xm hr ?_;rintro rfl;with_reducible refine XI ?_)
 |exact Ym hr
 |fail)
instance Qrg:∀N(a0:WI)(a1:Int)(a2:Int)(a3:Int)(a4:Int),OK (Qc7 N a0 a1 a2 a3 a4) 9 [.agg (e38 a0),.v (.int .i64 a1),.v (.int .u64 a2),.v (.int .u64 a3),.v (.int .u64 a4)] [] (λr=>.tup [.agg (e38 r.1),.v (.int .u64 r.2.1),.v (.int .i64 r.2.2)]) λr=>[]:=by
 refineλN a0 a1 a2 a3 a4=>⟨λG hw r hr=>?_⟩
 rw[Qc7]at hr;by_cases h1:a1=1
 .subst h1;exact(OK.h (o:=Qda N a0 a2 a3 a4)) G hw r hr
 by_cases h2:a1=2
 .subst h2;exact(OK.h (o:=Qdb N a0 a2 a3 a4)) G hw r hr
 by_cases h3:a1=3
 .subst h3;exact(OK.h (o:=Qdc N a0 a2 a3 a4)) G hw r hr
 by_cases h4:a1=4
 .subst h4;exact(OK.h (o:=Qdd N a0 a2 a3 a4)) G hw r hr
 by_cases h5:a1=5
 .subst h5;exact(OK.h (o:=Qde N a0 a2 a3 a4)) G hw r hr
 by_cases h6:a1=6
 .subst h6;exact(OK.h (o:=Qdf N a0 a2 a3 a4)) G hw r hr
 by_cases h7:a1=7
 .subst h7;exact(OK.h (o:=Qdg N a0 a2 a3 a4)) G hw r hr
 by_cases h8:a1=8
 .subst h8;exact(OK.h (o:=Qdh N a0 a2 a3 a4)) G hw r hr
 by_cases h9:a1=9
 .subst h9;exact(OK.h (o:=Qdi N a0 a2 a3 a4)) G hw r hr
 by_cases h10:a1=10
 .subst h10;exact(OK.h (o:=Qcu N a0 a2 a3 a4)) G hw r hr
 by_cases h11:a1=11
 .subst h11;exact(OK.h (o:=Qcv N a0 a2 a3 a4)) G hw r hr
 by_cases h12:a1=12
 .subst h12;exact(OK.h (o:=Qcw N a0 a2 a3 a4)) G hw r hr
 by_cases h13:a1=13
 .subst h13;exact(OK.h (o:=Qcx N a0 a2 a3 a4)) G hw r hr
 by_cases h14:a1=14
 .subst h14;exact(OK.h (o:=Qcy N a0 a2 a3 a4)) G hw r hr
 by_cases h15:a1=15
 .subst h15;exact(OK.h (o:=Qcz N a0 a2 a3 a4)) G hw r hr
 by_cases h16:a1=16
 .subst h16;exact(OK.h (o:=QcA N a0 a2 a3 a4)) G hw r hr
 by_cases h17:a1=17
 .subst h17;exact(OK.h (o:=QcB N a0 a2 a3 a4)) G hw r hr
 by_cases h18:a1=18
 .subst h18;exact(OK.h (o:=QcC N a0 a2 a3 a4)) G hw r hr
 by_cases h19:a1=19
 .subst h19;exact(OK.h (o:=QcD N a0 a2 a3 a4)) G hw r hr
 by_cases h20:a1=20
 .subst h20;exact(OK.h (o:=QcE N a0 a2 a3 a4)) G hw r hr
 rw[WX.2 h1,Wa]at hr;rw[WX.2 h2,Wa]at hr;rw[WX.2 h3,Wa]at hr;rw[WX.2 h4,Wa]at hr;rw[WX.2 h5,Wa]at hr;rw[WX.2 h6,Wa]at hr;rw[WX.2 h7,Wa]at hr;rw[WX.2 h8,Wa]at hr;rw[WX.2 h9,Wa]at hr;rw[WX.2 h10,Wa]at hr;rw[WX.2 h11,Wa]at hr;rw[WX.2 h12,Wa]at hr;rw[WX.2 h13,Wa]at hr;rw[WX.2 h14,Wa]at hr;rw[WX.2 h15,Wa]at hr;rw[WX.2 h16,Wa]at hr;rw[WX.2 h17,Wa]at hr;rw[WX.2 h18,Wa]at hr;rw[WX.2 h19,Wa]at hr;rw[WX.2 h20,Wa]at hr;exact OK.h G hw r hr
end Go.Sx
