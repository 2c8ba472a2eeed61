import Derived.Test.YtmpbhfnjjaocoaaGreatCG31
set_option linter.all false
namespace Go.Sx
open Go.Proofs
set_option maxRecDepth 10000
set_option maxHeartbeats 100000000
abbrev Qik:=λN y1 (Q:(Ex Bool Unit)→Prop) n (st:St)=>∃v2 ex,Qbh N y1 n v2=some ex/\Q ex/\((st.n=52/\st.t 18=s38 y1/\st.t 19=vi y1.length/\st.t 20=vi v2))
instance QpV:∀N a0 a1 a2,OK (Qec N a0 a1 a2) 3 [.agg (e38 a0),s3 a1,s3 a2] [] (λr=>.v (.bool r)) λr=>[]:=by
 refineλN _ _ _=>rk Tryz.f3 [.tmp 6] [] 52 ?_<;>(rintro _ hw r hr C _ rfl hwf hf;simp only[Tryz.f3,Option.get!];(rw[Qec]at hr);repeat' first
 |(refine El.el hr ?_;clear hr;intro hr)
 |(with_reducible intro h;refine Xz hr h ?_;clear hr;intro hr)
 |with_reducible intro _
 |(refine Xn hr ?_;rintro rfl;have hr:=hk;clear hk)
 |simp only[go_sem,simprocAttr,E,Xqw]
 |(with_reducible first|apply Xi|apply Xh|apply Xq)
 |((first|with_reducible refine Yo hr ag ?_ ?_|(with_reducible refine Yk hr ?_ ?_;rotate_left;intro p;rotate_right));(·simp only[go_sem,simprocAttr]);intro hp hn hd hr;(try have Xqw:=hd _ e38);(try simp only[go_sem,simprocAttr]at Xqw))
 |(refine Xr ?_ ?_;.first|assumption|omega)
 |(with_reducible first|refine CallX.c ?_ _|refine OK.c hr hw ?_ (λy hr=>?_) _)
 |(with_reducible refine lp (Qik N _) hr N ?_ (λex hq hk=>⟨_,ex,hq,hk,?_⟩) _;clear hr;(try clear E);rintro n1 st ⟨v2,ex,hr,hk,E⟩<;>(obtain _|n1:=n1<;>rw[Qbh]at hr))
 |refine⟨_,Wy _,_,_,hr,hk,?_⟩
 |(refine Xn hr ?_;rintro rfl;with_reducible refine XN ?_)
 |exact Yv hr
 |((first|refine Xz (c:=true) hr rfl ?_|refine Xz (c:=false) hr rfl ?_|refine Xz hr ag ?_);intro hr)
 |fail)
end Go.Sx
