import Derived.Test.YtcclgbgphjofaaaGreatHG26
set_option linter.all false
namespace Go.Sx
open Go.Proofs
set_option maxRecDepth 10000
set_option maxHeartbeats 100000000
abbrev QlH:=λN z (Q:(Int × Int × List Int × List WJ × Int × Int × List UW × List U2 × List Int × List Ul × List Ul × List UQ × List Int × Int × Int × List UO × List UW × List U2 × List Int × List Ul × List Ul × List U5 × List Int × List Int)→Prop) n (st:St)=>∃A B C D E F G H d e f g h i j k l m o p q r u v w x y I,QfX N z n A B C D E F G H d e f g h i j k l m o p q r u v w x y=some I/\Q I/\((∃a b c,st.n=33/\st.t 1=vi z/\st.t 4=.ept 256 a 24 0 0/\st.t 5=.ept 640 c 2 0 0/\st.t 6=.ept 384 b 24 0 0/\st.t 7=vi A/\st.s 256=some (a,.arr true 44 24 [[vi 0,vi 0,.nsl,.nsl,vi 0,vi 0,.nsl,.nsl,.nsl,.nsl,.nsl,.nsl,.nsl,vi 0,vi 0,.nsl,.nsl,.nsl,.nsl,.nsl,.nsl,.nsl,.nsl,.nsl]] 0)/\st.s 384=some (b,.arr true 44 24 [[vi D,vi E,s55 F,ZH G,vi H,vi d,Zd e,Y9 f,s3 g,XT h,XT i,s99 j,s55 k,vi l,vi m,s86 o,Zd p,Y9 q,s3 r,XT u,XT v,s89 w,s55 x,s55 y]] 0)/\st.s 640=some (c,.arr true 66 2 [[s3 B,vi C]] 0)))
instance Qom:∀N a0 a1,OK (Qg2 N a0 a1) 4 [s3 a0,vi a1] [] (λr=>.agg (e44 r)) λr=>[]:=by
 refineλN _ _=>rk Tryz.f4 ?_<;>(rintro _ hw r hr C _ rfl hwf hf;simp only[Tryz.f4,Option.get!];(rw[Qg2]at hr);repeat' first
 |(refine El.el hr ?_;intro hr)
 |(with_reducible intro h;refine XH hr h ?_;intro hr)
 |with_reducible intro _
 |(refine Xu hr ?_;rintro rfl;have hr:=hk;clear hk)
 |simp only[go_sem,simprocAttr,E]
 |(with_reducible first|apply Xk|apply Xj|apply XA|apply XF|apply XG)
 |(refine XB ?_ ?_;.first|assumption|omega)
 |(with_reducible first|refine CallX.c ?_ _|refine OK.c hr hw ?_ (λy hr=>?_) _|refine OK.d hr hw ?_ (λy hr=>?_) _)
 |(with_reducible refine lp (QlH N _) hr N ?_ (λex hq hk=>⟨_,_,_,_,_,_,_,_,_,_,_,_,_,_,_,_,_,_,_,_,_,_,_,_,_,_,_,ex,hq,hk,?_⟩) _;clear hr;(try clear E);rintro n1 st ⟨v2,v3,v4,v5,v6,v7,v8,v9,v10,v11,v12,v13,v14,v15,v16,v17,v18,v19,v20,v21,v22,v23,v24,v25,v26,v27,v28,ex,hr,hk,⟨_,_,_,E⟩⟩<;>(obtain _|n1:=n1<;>rw[QfX]at hr))
 |refine⟨_,WK _,_,_,_,_,_,_,_,_,_,_,_,_,_,_,_,_,_,_,_,_,_,_,_,_,_,_,_,_,hr,hk,?_⟩
 |refine dc 4 6 hf 24 [(0,14,[[],[640]]),(0,5,[]),(0,3,[]),(6,1,[[640],[]]),(15,0,[]),(31,0,[]),(63,192,[]),(63,160,[[],[384]]),(63,96,[[],[384]]),(127,192,[[384],[]])] ?_
 |(refine Xu hr ?_;rintro rfl;with_reducible refine X4 ?_)
 |exact Za hr
 |exact Yb hr
 |(apply Yc;assumption)
 |((first|refine XH (c:=true) hr rfl ?_|refine XH (c:=false) hr rfl ?_|refine XH hr ag ?_);intro hr)
 |fail)
end Go.Sx
