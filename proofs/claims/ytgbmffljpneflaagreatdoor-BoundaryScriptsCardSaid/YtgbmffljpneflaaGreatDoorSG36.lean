import Derived.Test.YtgbmffljpneflaaGreatDoorSG35
set_option linter.all false
namespace Go.Sx
open Go.Proofs
set_option maxRecDepth 10000
set_option maxHeartbeats 100000000
abbrev Qiq:=λN (Q:(Ex Bool Unit)→Prop) n (st:St)=>∃M O P R S T U V d e f g h i j k l m o p q r u v w x y z A B C D E F G H I J K L W,Qbg N n M O P R S T U V d e f g h i j k l m o p q r u v w x y z A B C D E F G H I J K L=some W/\Q W/\((∃b c a,st.n=77/\st.t 3=.ept 1024 a 2 0 0/\st.t 4=.ept 256 b 24 0 0/\st.t 5=.ept 320 c 13 0 0/\st.t 6=vi M/\st.s 256=some (b,.arr true 45 24 [[vi R,vi S,s39 T,Ya U,vi V,vi d,s72 e,s78 f,s3 g,s74 h,s74 i,s76 j,s39 k,vi l,vi m,XqD o,s72 p,s78 q,s3 r,s74 u,s74 v,XqE w,s39 x,s39 y]] 0)/\st.s 320=some (c,.arr true 38 13 [[vi z,vi A,s39 B,Ya C,vi D,vi E,s72 F,s78 G,s3 H,s74 I,s74 J,s76 K,s39 L]] 0)/\st.s 1024=some (a,.arr true 49 2 [[s3 O,vi P]] 0)))
instance Qqq:∀N a0,OK (Qdt N a0) 4 [s3 a0] [] (λr=>.v (.bool r)) λr=>[]:=by
 refineλN _=>rk Tryz.f4 ?_<;>(rintro _ hw r hr C _ rfl hwf hf;simp only[Tryz.f4,Option.get!];(rw[Qdt]at hr);repeat' first
 |(refine El.el hr ?_;clear hr;intro hr)
 |(with_reducible intro h;refine Xv hr h ?_;clear hr;intro hr)
 |with_reducible intro _
 |(refine Xm hr ?_;rintro rfl;have hr:=hk;clear hk)
 |simp only[go_sem,simprocAttr,E]
 |(with_reducible first|apply Xi|apply Xh|apply Xo)
 |(refine Xp ?_ ?_;.first|assumption|omega)
 |(with_reducible first|refine CallX.c ?_ _|refine OK.c hr hw ?_ (λy hr=>?_) _)
 |(with_reducible refine lp (Qiq N) hr N ?_ (λex hq hk=>⟨_,_,_,_,_,_,_,_,_,_,_,_,_,_,_,_,_,_,_,_,_,_,_,_,_,_,_,_,_,_,_,_,_,_,_,_,_,_,_,_,ex,hq,hk,?_⟩) _;clear hr;(try clear E);rintro n1 st ⟨v2,v3,v4,v5,v6,v7,v8,v9,v10,v11,v12,v13,v14,v15,v16,v17,v18,v19,v20,v21,v22,v23,v24,v25,v26,v27,v28,v29,v30,v31,v32,v33,v34,v35,v36,v37,v38,v39,v40,v41,ex,hr,hk,⟨_,_,_,E⟩⟩<;>(obtain _|n1:=n1<;>rw[Qbg]at hr))
 |refine⟨_,WA _,_,_,_,_,_,_,_,_,_,_,_,_,_,_,_,_,_,_,_,_,_,_,_,_,_,_,_,_,_,_,_,_,_,_,_,_,_,_,_,_,_,hr,hk,?_⟩
 |(refine Xm hr ?_;rintro rfl;with_reducible refine XI ?_)
 |exact Ym hr
 |((first|refine Xv (c:=true) hr rfl ?_|refine Xv (c:=false) hr rfl ?_|refine Xv hr ag ?_);intro hr)
 |fail)
end Go.Sx
