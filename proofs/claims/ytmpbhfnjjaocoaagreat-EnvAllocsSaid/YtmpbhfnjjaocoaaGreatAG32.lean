import Derived.Test.YtmpbhfnjjaocoaaGreatAG31
set_option linter.all false
namespace Go.Sx
open Go.Proofs
set_option maxRecDepth 10000
set_option maxHeartbeats 100000000
abbrev QiA:=λN a3 y1 p5 y6 y7 v2 (Q:(Ex Bool Unit)→Prop) n (st:St)=>∃v8 ex,Qb6 N a3 y1 p5 y6 y7 v2 n v8=some ex/\Q ex/\((∃w2624 w448 w704 w1408,st.n=78/\st.s 2624=some (w2624,.arr false 51 3 ([a3,y6.1,(Wy.mk 2 y7.1 0)].map e51) 0)/\st.t 7=.ept 448 w448 3 0 0/\st.t 9=.ept 1408 w1408 2 0 0/\st.t 11=.ept 704 w704 13 0 0/\st.t 26=s38 y1/\st.t 27=vi y1.length/\st.t 28=vi v2/\st.t 41=.osl 2624 w2624 3 0 3/\st.t 42=vi 3/\st.t 43=vi v8/\st.s 448=some (w448,.arr true 51 3 [e51 a3] 0)/\st.s 704=some (w704,.arr true 38 13 [e38 p5] 0)/\st.s 1408=some (w1408,.arr true 54 2 [e54 y7.2] 0)))
abbrev QiB:=λN a3 y1 (Q:(Ex Bool Unit)→Prop) n (st:St)=>∃v2 v3 v4 ex,Qc0 N a3 y1 n v2 v3 v4=some ex/\Q ex/\((∃w448 w1408,st.n=78/\st.t 7=.ept 448 w448 3 0 0/\st.t 9=.ept 1408 w1408 2 0 0/\st.t 26=s38 y1/\st.t 27=vi y1.length/\st.t 28=vi v2/\st.s 448=some (w448,.arr true 51 3 [e51 a3] 0)/\st.s 1408=some (w1408,.arr true 54 2 [[s3 v3,vi v4]] 0)))
instance Qp5:∀N a0 a1 a2 a3,OK (Qe4 N a0 a1 a2 a3) 4 [.agg (e38 a0),s3 a1,s3 a2,.agg (e51 a3)] [] (λr=>.v (.bool r)) λr=>[]:=by
 refineλN _ _ _ _=>rk Tryz.f4 [.tmp 8] [] 78 ?_<;>(rintro _ hw r hr C _ rfl hwf hf;have hse:=@Zw _ hw;simp only[Tryz.f4,Option.get!];(rw[Qe4]at hr);repeat' first
 |(refine El.el hr ?_;clear hr;intro hr)
 |(with_reducible intro h;refine XB hr h ?_;clear hr;intro hr)
 |with_reducible intro _
 |(refine Xn hr ?_;rintro rfl;have hr:=hk;clear hk)
 |simp only[go_sem,simprocAttr,E,XqG,XqH,hse]
 |(with_reducible first|apply Xi|apply Xh|apply Xs|apply Xq|apply Xr)
 |((first|with_reducible refine Yq hr ag ?_ ?_|(with_reducible refine Yn hr ?_ ?_;rotate_left;intro p;rotate_right));(·simp only[go_sem,simprocAttr,hse]);intro hp hn hd hr;(try have XqG:=hd _ e38);(try simp only[go_sem,simprocAttr]at XqG);(try have XqH:=hd _ e51);(try simp only[go_sem,simprocAttr]at XqH))
 |(refine Xt ?_ ?_;.first|assumption|omega)
 |(with_reducible first|refine CallX.c ?_ _|refine OK.c hr hw ?_ (λy hr=>?_) _|refine IM hr hw ?_ (λy hr=>?_) _)
 |(with_reducible refine lp (QiA N _ _ _ _ _ _) hr N ?_ (λex hq hk=>⟨_,ex,hq,hk,?_⟩) _;clear hr;(try clear E);rintro n1 st ⟨v8,ex,hr,hk,⟨_,_,_,_,E⟩⟩<;>(obtain _|n1:=n1<;>rw[Qb6]at hr))
 |refine⟨_,Wz _,_,_,hr,hk,?_⟩
 |(with_reducible refine lp (QiB N _ _) hr N ?_ (λex hq hk=>⟨_,_,_,ex,hq,hk,?_⟩) _;clear hr;(try clear E);rintro n2 st ⟨v2,v3,v4,ex,hr,hk,⟨_,_,E⟩⟩<;>(obtain _|n2:=n2<;>rw[Qc0]at hr))
 |refine⟨_,Wz _,_,_,_,_,hr,hk,?_⟩
 |refine dc 4 5 hf 32 [(0,2558,[[],[1408]]),(0,2141,[]),(0,2115,[]),(4,2115,[]),(12,2115,[]),(30,2113,[[1408],[]]),(0,2111,[[],[1408]]),(126,2049,[[1408],[]]),(254,2049,[]),(511,2048,[[2624],[]]),(1023,2048,[]),(0,2047,[[],[1408,2624]])] ?_
 |(refine Xn hr ?_;rintro rfl;with_reducible refine XP ?_)
 |exact Yw hr
 |((first|refine XB (c:=true) hr rfl ?_|refine XB (c:=false) hr rfl ?_|refine XB hr ag ?_);intro hr)
 |fail)
end Go.Sx
