import Derived.Test.YtmpbhfnjjaocoaaGreatAG20
set_option linter.all false
namespace Go.Sx
open Go.Proofs
set_option maxRecDepth 10000
set_option maxHeartbeats 100000000
abbrev QkH:=λN a0 (Q:(Ex Uc Unit)→Prop) n (st:St)=>∃v1 ex,QaY N a0 n v1=some ex/\Q ex/\((∃w64 w128,st.n=64/\st.t 1=.ept 64 w64 6 0 0/\st.t 2=.ept 128 w128 3 0 0/\st.t 12=Yg a0.p/\st.t 13=vi a0.p.length/\st.t 14=vi v1/\st.s 64=some (w64,.arr true 27 6 [e27 a0] 0)/\st.s 128=some (w128,.arr true 268 3 [[vi 0,vi 0,vu 0]] 0)))
abbrev QiU:=λN a0 y1 v2 p3 y5 (Q:(Ex Int Unit)→Prop) n (st:St)=>∃v6 ex,QaJ N a0 y1 v2 p3 y5 n v6=some ex/\Q ex/\((∃w64 w128,st.n=83/\st.t 1=.ept 64 w64 6 0 0/\st.t 2=.ept 128 w128 3 0 0/\st.t 3=s58 y1.1/\st.t 7=vu p3/\st.t 24=s58 y1.1/\st.t 25=vi y1.1.length/\st.t 26=vi v2/\st.t 37=s3 y5/\st.t 38=vi y5.length/\st.t 39=vi v6/\st.s 64=some (w64,.arr true 27 6 [e27 a0] 0)/\st.s 128=some (w128,.arr true 268 3 [[vi 0,vi 0,vu 0]] 0)))
abbrev QiV:=λN a0 y1 (Q:Int→Prop) n (st:St)=>∃v2 ex,Qck N a0 y1 n v2=some ex/\Q ex/\((∃w64 w128,st.n=83/\st.t 1=.ept 64 w64 6 0 0/\st.t 2=.ept 128 w128 3 0 0/\st.t 3=s58 y1.1/\st.t 5=vu 0/\st.t 24=s58 y1.1/\st.t 25=vi y1.1.length/\st.t 26=vi v2/\st.s 64=some (w64,.arr true 27 6 [e27 a0] 0)/\st.s 128=some (w128,.arr true 268 3 [[vi 0,vi 0,vu 0]] 0)))
abbrev Qiz:=λN a0 a1 y1 (Q:(Ex (List Int × Bool) (List Int))→Prop) n (st:St)=>∃v2 v3 ex,Qb4 N a0 a1 y1 n v2 v3=some ex/\Q ex/\((∃w1600 w192,st.n=80/\st.s 1600=some (w1600,.arr false 3 1 (v3.map e3) 0)/\st.t 0=s84 a0/\st.t 3=.ept 192 w192 6 0 0/\st.t 6=.clo (.func 193) [] []/\st.t 7=s58 y1.1/\st.t 9=.osl 1600 w1600 1 0 v3.length/\st.t 26=s84 a0/\st.t 27=vi a0.length/\st.t 28=vi v2/\st.s 192=some (w192,.arr true 27 6 [e27 a1] 0)))
def g34:(∀N a0,OK (QgN N a0) 274 [.agg (e27 a0)] [] (λr=>.agg (Xo0 r)) λr=>[])/\(∀N a0,OK (Qfu N a0) 275 [.agg (e27 a0)] [] (λr=>.agg (Xo0 r)) λr=>[])/\(∀N a0 a1,OK (Qga N a0 a1) 109 [s84 a0,.agg (e27 a1)] [] (λr=>.tup [s3 r.1,.v (.bool r.2)]) λr=>[]):=by
 refine⟨λN _=>rk Tryz.f274 [.cell 2 268] [] 64 ?_,λN _=>rk Tryz.f275 [.cell 2 268] [] 83 ?_,λN _ _=>rk Tryz.f109 [.tmp 4,.tmp 5] [] 80 ?_⟩<;>(rintro _ hw r hr C _ rfl hwf hf;simp only[Tryz.f274,Tryz.f275,Tryz.f109,Option.get!];(first|rw[QgN]at hr|rw[Qfu]at hr|rw[Qga]at hr);repeat' first
 |(refine El.el hr ?_;clear hr;intro hr)
 |(with_reducible intro h;refine XB hr h ?_;clear hr;intro hr)
 |with_reducible intro _
 |(refine Xn hr ?_;rintro rfl;have hr:=hk;clear hk)
 |simp only[go_sem,simprocAttr,E,hl3,Xu,ZU,Xj]
 |(with_reducible first|apply Xi|apply Xh|apply Xs|apply Xq|apply Xr)
 |((first|with_reducible refine Yq hr ag ?_ ?_|(with_reducible refine Yn hr ?_ ?_;rotate_left;intro p;rotate_right));(·simp only[go_sem,simprocAttr]);intro hp hn hd hr;(try have hl3:=hd _ e3);(try simp only[go_sem,simprocAttr]at hl3);(try have Xu:=hd _ e58);(try simp only[go_sem,simprocAttr]at Xu);(try have ZU:=hd _ e84);(try simp only[go_sem,simprocAttr]at ZU);(try have Xj:=hd _ XS);(try simp only[go_sem,simprocAttr]at Xj))
 |(refine Xt ?_ ?_;.first|assumption|omega)
 |(with_reducible first|refine CallX.c ?_ _|refine OK.c hr hw ?_ (λy hr=>?_) _)
 |(with_reducible refine lp (QkH N _) hr N ?_ (λex hq hk=>⟨_,ex,hq,hk,?_⟩) _;clear hr;(try clear E);rintro n1 st ⟨v1,ex,hr,hk,⟨_,_,E⟩⟩<;>(obtain _|n1:=n1<;>rw[QaY]at hr))
 |refine⟨_,Wz _,_,_,hr,hk,?_⟩
 |(with_reducible refine lp (QiU N _ _ _ _ _) hr N ?_ (λex hq hk=>⟨_,ex,hq,hk,?_⟩) _;clear hr;(try clear E);rintro n1 st ⟨v6,ex,hr,hk,⟨_,_,E⟩⟩<;>(obtain _|n1:=n1<;>rw[QaJ]at hr))
 |(with_reducible refine lp (QiV N _ _) hr N ?_ (λex hq hk=>⟨_,ex,hq,hk,?_⟩) _;clear hr;(try clear E);rintro n2 st ⟨v2,ex,hr,hk,⟨_,_,E⟩⟩<;>(obtain _|n2:=n2<;>rw[Qck]at hr))
 |(with_reducible refine lp (Qiz N _ _ _) hr N ?_ (λex hq hk=>⟨_,_,ex,hq,hk,?_⟩) _;clear hr;(try clear E);rintro n1 st ⟨v2,v3,ex,hr,hk,⟨_,_,E⟩⟩<;>(obtain _|n1:=n1<;>rw[Qb4]at hr))
 |refine⟨_,Wz _,_,_,_,hr,hk,?_⟩
 |refine dc 109 11 hf 70 [(0,50,[]),(0,49,[]),(3,48,[]),(7,48,[]),(0,15,[]),(16,15,[]),(63,0,[]),(127,0,[]),(255,0,[[1600],[]])] ?_
 |(refine Xn hr ?_;rintro rfl;with_reducible refine XP ?_)
 |exact Yw hr
 |((first|refine XB (c:=true) hr rfl ?_|refine XB (c:=false) hr rfl ?_|refine XB hr ag ?_);intro hr)
 |fail)
abbrev QnU:=g34.1
abbrev QkI:=g34.2.1
abbrev QjI:=g34.2.2
attribute [instance] QnU QkI QjI
instance Qqb:∀N a0,OK (Qbm N a0) 137 [.agg (e27 a0)] [] (λr=>.v (.bool r)) λr=>[]:=by
 refineλN _=>rk Tryz.f137 [.tmp 2] [] 7 ?_<;>(rintro _ hw r hr C _ rfl hwf hf;simp only[Tryz.f137,Option.get!];(rw[Qbm]at hr);repeat' first
 |(refine El.el hr ?_;clear hr;intro hr)
 |(with_reducible intro h;refine XB hr h ?_;clear hr;intro hr)
 |with_reducible intro _
 |simp only[go_sem,simprocAttr]
 |(with_reducible first|apply Xi|apply Xh|apply Xs)
 |(refine Xt ?_ ?_;.first|assumption|omega)
 |(with_reducible first|refine CallX.c ?_ _|refine OK.c hr hw ?_ (λy hr=>?_) _)
 |(refine Xn hr ?_;rintro rfl;with_reducible refine XP ?_)
 |exact Yw hr
 |fail)
end Go.Sx
