import Derived.Test.YtlneiohchomcfaaGreatDoorSG22
set_option linter.all false
namespace Go.Sx
open Go.Proofs Tryz
set_option maxRecDepth 10000
set_option maxHeartbeats 100000000
instance Qpb:∀N(a0:Io)(a1:Ot),O1 (Qb1 N a0 a1) 18 [.agg (e44 a0),.agg (e51 a1)] (λr=>.tup [.agg (e44 r.1),vu r.2.1,vi r.2.2]):=by
 refineλN _ _=>rk f18 ?_<;>(rintro _ hw r hr C _ rfl hwf hf;simp only[f18,Option.get!];(rw[Qb1]at hr);repeat' first
 |(refine El.el hr ?_;clear hr;intro hr)
 |(with_reducible intro h;refine XH hr h ?_;clear hr;intro hr)
 |with_reducible intro _
 |simp only[go_sem,simprocAttr]
 |(with_reducible first|apply Xi|apply Xh|apply Xt)
 |(refine Xu ?_ ?_;.first|assumption|omega)
 |(with_reducible first|refine CallX.c ?_ _|refine OK.c hr hw ?_ (λy hr=>?_) _)
 |(refine Xq hr ?_;rintro rfl;with_reducible refine XQ ?_)
 |exact YE hr)
instance QoS:∀N(a0:W3)(a1:Int)(a2:Int)(a3:Int)(a4:Int),OK (Qa0 N a0 a1 a2 a3 a4) 9 [.agg (e38 a0),.v (.int .i64 a1),.v (.int .u64 a2),.v (.int .u64 a3),.v (.int .u64 a4)] [] (λr=>.tup [.agg (e38 r.1),.v (.int .u64 r.2.1),.v (.int .i64 r.2.2)]) λr=>[]:=by
 refineλN a0 a1 a2 a3 a4=>⟨λG hw r hr=>?_⟩
 rw[Qa0]at hr;by_cases h3:a1=3
 .subst h3;exact(OK.h (o:=QdQ N a0 a2 a3 a4)) G hw r hr
 by_cases h4:a1=4
 .subst h4;exact(OK.h (o:=QfS N a0 a2 a3 a4)) G hw r hr
 by_cases h6:a1=6
 .subst h6;exact(OK.h (o:=QdR N a0 a2 a3 a4)) G hw r hr
 by_cases h7:a1=7
 .subst h7;exact(OK.h (o:=QdS N a0 a2 a3 a4)) G hw r hr
 by_cases h17:a1=17
 .subst h17;exact(OK.h (o:=Qdt N a0 a2 a3 a4)) G hw r hr
 by_cases h18:a1=18
 .subst h18;exact(OK.h (o:=Qdu N a0 a2 a3 a4)) G hw r hr
 rw[UW.2 h3,Wa]at hr;rw[UW.2 h4,Wa]at hr;rw[UW.2 h6,Wa]at hr;rw[UW.2 h7,Wa]at hr;rw[UW.2 h17,Wa]at hr;rw[UW.2 h18,Wa]at hr;exact OK.h G hw r hr
abbrev Qlz:=λN p Q n (st:St)=>∃q r u v v6 v7 v8 v9 v10 v11 d v13 e v15 f v17 v18 v19 v20 g h i j k l m o,Iv (Qgn N p n q r u v v6 v7 v8 v9 v10 v11 d v13 e v15 f v17 v18 v19 v20 g h i j k l m o) Q ((∃a b c,st.n=33/\st.t 1=vi p/\st.t 4=.ept 256 a 24 0 0/\st.t 5=.ept 640 c 2 0 0/\st.t 6=.ept 384 b 24 0 0/\st.t 7=vi q/\st.s 256=some (a,.arr true 44 24 [[vi 0,vi 0,.nsl,.nsl,vi 0,vi 0,.nsl,.nsl,.nsl,.nsl,.nsl,.nsl,.nsl,vi 0,vi 0,.nsl,.nsl,.nsl,.nsl,.nsl,.nsl,.nsl,.nsl,.nsl]] 0)/\st.s 384=some (b,.arr true 44 24 [[vi v,vi v6,s49 v7,YB v8,vi v9,vi v10,Xcy v11,Xew d,s3 v13,JU e,JU v15,VE f,s49 v17,vi v18,vi v19,Xt3 v20,Xcy g,Xew h,s3 i,JU j,JU k,Xt4 l,s49 m,s49 o]] 0)/\st.s 640=some (c,.arr true 48 2 [[s3 r,vi u]] 0)))
instance QpT:∀N(a0:List Int)(a1:Int),O1 (Qhk N a0 a1) 7 [s3 a0,vi a1] (λr=>.agg (e44 r)):=by
 refineλN _ _=>rk f7 ?_<;>(rintro _ hw r hr C _ rfl hwf hf;have hse:=@ZZ _ hw;simp only[f7,Option.get!];(rw[Qhk]at hr);repeat' first
 |(refine El.el hr ?_;clear hr;intro hr)
 |(with_reducible intro h;refine XH hr h ?_;clear hr;intro hr)
 |with_reducible intro _
 |(refine Xq hr ?_;rintro rfl;have hr:=hk;clear hk)
 |simp only[go_sem,simprocAttr,E,hse]
 |(with_reducible first|apply Xi|apply Xh|apply Xt|apply Xx|apply Xy)
 |(refine Xu ?_ ?_;.first|assumption|omega)
 |(with_reducible first|refine CallX.c ?_ _|refine OK.c hr hw ?_ (λy hr=>?_) _|refine OK.d hr hw ?_ (λy hr=>?_) _)
 |(with_reducible refine lp (Qlz N _) hr N ?_ (λ_ p q=>⟨_,_,_,_,_,_,_,_,_,_,_,_,_,_,_,_,_,_,_,_,_,_,_,_,_,_,_,_,p,q,?_⟩) _;rintro n1 st ⟨_,_,_,_,_,_,_,_,_,_,_,_,_,_,_,_,_,_,_,_,_,_,_,_,_,_,_,_,hr,hk,⟨_,_,_,E⟩⟩<;>(obtain _|n1:=n1<;>rw[Qgn]at hr))
 |refine⟨_,WD _,_,_,_,_,_,_,_,_,_,_,_,_,_,_,_,_,_,_,_,_,_,_,_,_,_,_,_,_,hr,hk,?_⟩
 |refine dq 7 6 hf [(0,[],[640]),(3,[640],[]),(7,[],[384]),(8,[],[384]),(9,[384],[])] ?_
 |(refine Xq hr ?_;rintro rfl;with_reducible refine XQ ?_)
 |exact YE hr
 |((first|refine XH (c:=true) hr rfl ?_|refine XH (c:=false) hr rfl ?_|refine XH hr ag ?_);intro hr))
instance Qpx:∀N,O1 (Qd0 N) 11 [] (λr=>.v (.bool r)):=by
 refineλN=>rk f11 ?_<;>(rintro _ hw r hr C _ rfl hwf hf;simp only[f11,Option.get!];(rw[Qd0]at hr);repeat' first
 |(refine El.el hr ?_;clear hr;intro hr)
 |(with_reducible intro h;refine XH hr h ?_;clear hr;intro hr)
 |with_reducible intro _
 |simp only[go_sem,simprocAttr]
 |(with_reducible first|apply Xi|apply Xh|apply Xt)
 |(refine Xu ?_ ?_;.first|assumption|omega)
 |(with_reducible first|refine CallX.c ?_ _|refine OK.c hr hw ?_ (λy hr=>?_) _)
 |(refine Xq hr ?_;rintro rfl;with_reducible refine XQ ?_)
 |exact YE hr)
instance Qn8:∀N(a0:List Int),O1 (Qdp N a0) 5 [s3 a0] (λr=>.v (.bool r)):=by
 refineλN _=>rk f5 ?_<;>(rintro _ hw r hr C _ rfl hwf hf;simp only[f5,Option.get!];(rw[Qdp]at hr);repeat' first
 |(refine El.el hr ?_;clear hr;intro hr)
 |(with_reducible intro h;refine XH hr h ?_;clear hr;intro hr)
 |with_reducible intro _
 |simp only[go_sem,simprocAttr]
 |(with_reducible first|apply Xi|apply Xh|apply Xt)
 |(refine Xu ?_ ?_;.first|assumption|omega)
 |(with_reducible first|refine CallX.c ?_ _|refine OK.c hr hw ?_ (λy hr=>?_) _)
 |(refine Xq hr ?_;rintro rfl;with_reducible refine XQ ?_)
 |exact YE hr)
end Go.Sx
