import Derived.Test.YtgbmffljpneflaaGreatDoorBG32
set_option linter.all false
namespace Go.Sx
open Go.Proofs
set_option maxRecDepth 10000
set_option maxHeartbeats 100000000
abbrev Qob:=λN z (Q:(Int × Int × List Int × List Wv × Int × Int × List UE × List UJ × List Int × List WT × List WT × List Ux × List Int × Int × Int × List In × List UE × List UJ × List Int × List WT × List WT × List IA × List Int × List Int)→Prop) n (st:St)=>∃A B C D E F G H d e f g h i j k l m o p q r u v w x y I,Qg3 N z n A B C D E F G H d e f g h i j k l m o p q r u v w x y=some I/\Q I/\((∃a b c,st.n=33/\st.t 1=vi z/\st.t 4=.ept 256 a 24 0 0/\st.t 5=.ept 640 c 2 0 0/\st.t 6=.ept 384 b 24 0 0/\st.t 7=vi A/\st.s 256=some (a,.arr true 45 24 [[vi 0,vi 0,.nsl,.nsl,vi 0,vi 0,.nsl,.nsl,.nsl,.nsl,.nsl,.nsl,.nsl,vi 0,vi 0,.nsl,.nsl,.nsl,.nsl,.nsl,.nsl,.nsl,.nsl,.nsl]] 0)/\st.s 384=some (b,.arr true 45 24 [[vi D,vi E,s39 F,Yj G,vi H,vi d,s72 e,s78 f,s3 g,s74 h,s74 i,s76 j,s39 k,vi l,vi m,Xt5 o,s72 p,s78 q,s3 r,s74 u,s74 v,Xt6 w,s39 x,s39 y]] 0)/\st.s 640=some (c,.arr true 49 2 [[s3 B,vi C]] 0)))
instance QrG:∀N a0 a1,OK (Qir N a0 a1) 5 [s3 a0,vi a1] [] (λr=>.agg (e45 r)) λr=>[]:=by
 refineλN _ _=>rk Tryz.f5 ?_<;>(rintro _ hw r hr C _ rfl hwf hf;have hse:=@Za _ hw;simp only[Tryz.f5,Option.get!];(rw[Qir]at hr);repeat' first
 |(refine El.el hr ?_;clear hr;intro hr)
 |(with_reducible intro h;refine Xx hr h ?_;clear hr;intro hr)
 |with_reducible intro _
 |(refine Xn hr ?_;rintro rfl;have hr:=hk;clear hk)
 |simp only[go_sem,simprocAttr,E,hse]
 |(with_reducible first|apply Xi|apply Xh|apply Xs|apply Xq|apply Xr)
 |(refine Xt ?_ ?_;.first|assumption|omega)
 |(with_reducible first|refine CallX.c ?_ _|refine OK.c hr hw ?_ (λy hr=>?_) _|refine IK hr hw ?_ (λy hr=>?_) _)
 |(with_reducible refine lp (Qob N _) hr N ?_ (λex hq hk=>⟨_,_,_,_,_,_,_,_,_,_,_,_,_,_,_,_,_,_,_,_,_,_,_,_,_,_,_,ex,hq,hk,?_⟩) _;clear hr;(try clear E);rintro n1 st ⟨v2,v3,v4,v5,v6,v7,v8,v9,v10,v11,v12,v13,v14,v15,v16,v17,v18,v19,v20,v21,v22,v23,v24,v25,v26,v27,v28,ex,hr,hk,⟨_,_,_,E⟩⟩<;>(obtain _|n1:=n1<;>rw[Qg3]at hr))
 |refine⟨_,WA _,_,_,_,_,_,_,_,_,_,_,_,_,_,_,_,_,_,_,_,_,_,_,_,_,_,_,_,_,hr,hk,?_⟩
 |refine dc 5 6 hf 24 [(0,14,[[],[640]]),(0,5,[]),(0,3,[]),(6,1,[[640],[]]),(15,0,[]),(31,0,[]),(63,192,[]),(63,160,[[],[384]]),(63,96,[[],[384]]),(127,192,[[384],[]])] ?_
 |(refine Xn hr ?_;rintro rfl;with_reducible refine XK ?_)
 |exact Yr hr
 |((first|refine Xx (c:=true) hr rfl ?_|refine Xx (c:=false) hr rfl ?_|refine Xx hr ag ?_);intro hr)
 |fail)
end Go.Sx
