import Derived.Test.YtmpbhfnjjaocoaaGreatAG21
set_option linter.all false
namespace Go.Sx
open Go.Proofs
set_option maxRecDepth 10000
set_option maxHeartbeats 100000000
abbrev QkJ:=λN a0 a1 y2 (Q:(Ex Bool (List Int))→Prop) n (st:St)=>∃v3 v4 ex,Qcc N a0 a1 y2 n v3 v4=some ex/\Q ex/\((∃w1664 w128,st.n=103/\st.s 1664=some (w1664,.arr false 3 1 (v4.map e3) 0)/\st.t 1=s84 a1/\st.t 2=.ept 128 w128 6 0 0/\st.t 5=s58 y2.1/\st.t 7=.osl 1664 w1664 1 0 v4.length/\st.t 8=vi v3/\st.s 128=some (w128,.arr true 27 6 [e27 a0] 0)))
abbrev QkK:=λN a0 y16 (Q:(Ex Bool Unit)→Prop) n (st:St)=>∃v17 ex,QcU N a0 y16 n v17=some ex/\Q ex/\((∃w1664 w128,st.n=103/\st.s 1664=some (w1664,.arr false 3 1 (y16.map e3) 0)/\st.t 2=.ept 128 w128 6 0 0/\st.t 7=.osl 1664 w1664 1 0 y16.length/\st.t 9=vi v17/\st.s 128=some (w128,.arr true 27 6 [e27 a0] 0)))
abbrev QjJ:=λN a1 y2 (Q:(Ex Bool Unit)→Prop) n (st:St)=>∃v3 ex,QaC N a1 y2 n v3=some ex/\Q ex/\((st.n=36/\st.t 1=s58 a1/\st.t 5=s58 y2.1/\st.t 7=vi v3))
abbrev QkL:=λN a0 y3 (Q:(List Wt)→Prop) n (st:St)=>∃v4 v5 ex,Qcd N a0 y3 n v4 v5=some ex/\Q ex/\((∃w1472 w64 w128 w256,st.n=61/\st.s 1472=some (w1472,.arr false 175 4 (v5.map XS) 0)/\st.t 1=.ept 64 w64 6 0 0/\st.t 2=.ept 128 w128 16 0 0/\st.t 4=.ept 256 w256 16 0 0/\st.t 5=vi v4/\st.s 64=some (w64,.arr true 27 6 [e27 a0] 0)/\st.s 128=some (w128,.arr true 138 16 [[vi 0,vi 0,.nsl,.nsl,vi 0,vi 0,.nsl,.nsl,.nsl,vi 0,vi 0,vi 0,vi 0,vi 0,vi 0,vi 0]] 0)/\st.s 256=some (w256,.arr true 138 16 [[vi a0.c.W,vi a0.c.p,s58 a0.w,.osl 1472 w1472 4 0 v5.length,vi a0.s,vi a0.b,s58 y3.1,.nsl,.nsl,vi 0,vi 0,vi 0,vi 0,vi 0,vi 0,vi 0]] 0)))
abbrev Qjh:=λN a0 a1 (Q:Int→Prop) n (st:St)=>∃v3 v4 ex,QcN N a0 a1 n v3 v4=some ex/\Q ex/\((∃w128,st.n=65/\st.t 1=vu a1/\st.t 2=.ept 128 w128 6 0 0/\st.t 5=vi v3/\st.t 6=vi v4/\st.s 128=some (w128,.arr true 27 6 [e27 a0] 0)))
abbrev QkM:=λN a0 (Q:Int→Prop) n (st:St)=>∃v4 v5 ex,Qcj N a0 n v4 v5=some ex/\Q ex/\((∃w64 w128,st.n=50/\st.t 1=.ept 64 w64 6 0 0/\st.t 2=.ept 128 w128 3 0 0/\st.t 5=vi v4/\st.t 25=Yg a0.p/\st.t 26=vi a0.p.length/\st.t 27=vi v5/\st.s 64=some (w64,.arr true 27 6 [e27 a0] 0)/\st.s 128=some (w128,.arr true 268 3 [[vi 0,vi 0,vu 0]] 0)))
def g35:(∀N a0 a1,OK (Qct N a0 a1) 72 [.agg (e27 a0),s84 a1] [] (λr=>.v (.bool r)) λr=>[])/\(∀N a0 a1,OK (Qbc N a0 a1) 76 [.agg (e27 a0),s58 a1] [] (λr=>.v (.bool r)) λr=>[])/\(∀N a0,OK (Qc2 N a0) 78 [.agg (e27 a0)] [] (λr=>.tup [.agg (K4 r.1),vi r.2]) λr=>[])/\(∀N a0 a1,OK (QdY N a0 a1) 298 [.agg (e27 a0),vu a1] [] (λr=>.v (.bool r)) λr=>[])/\(∀N a0,OK (QhC N a0) 192 [.agg (e27 a0)] [] (λr=>.agg (Xo0 r)) λr=>[]):=by
 refine⟨λN _ _=>rk Tryz.f72 [.tmp 4] [] 103 ?_,λN _ _=>rk Tryz.f76 [.tmp 4] [] 36 ?_,λN _=>rk Tryz.f78 [.cell 2 138,.tmp 3] [] 61 ?_,λN _ _=>rk Tryz.f298 [.tmp 4] [] 65 ?_,λN _=>rk Tryz.f192 [.cell 2 268] [] 50 ?_⟩<;>(rintro _ hw r hr C _ rfl hwf hf;have hse:=@Zw _ hw;simp only[Tryz.f72,Tryz.f76,Tryz.f78,Tryz.f298,Tryz.f192,Option.get!];(first|rw[Qct]at hr|rw[Qbc]at hr|rw[Qc2]at hr|rw[QdY]at hr|rw[QhC]at hr);repeat' first
 |(refine El.el hr ?_;clear hr;intro hr)
 |(with_reducible intro h;refine XB hr h ?_;clear hr;intro hr)
 |with_reducible intro _
 |(refine Xn hr ?_;rintro rfl;have hr:=hk;clear hk)
 |simp only[go_sem,simprocAttr,E,hl3,Xu,ZU,Xj,hse]
 |(with_reducible first|apply Xi|apply Xh|apply Xs|apply Xq|apply Xr)
 |((first|with_reducible refine Yq hr ag ?_ ?_|(with_reducible refine Yn hr ?_ ?_;rotate_left;intro p;rotate_right));(·simp only[go_sem,simprocAttr,hse]);intro hp hn hd hr;(try have hl3:=hd _ e3);(try simp only[go_sem,simprocAttr]at hl3);(try have Xu:=hd _ e58);(try simp only[go_sem,simprocAttr]at Xu);(try have ZU:=hd _ e84);(try simp only[go_sem,simprocAttr]at ZU);(try have Xj:=hd _ XS);(try simp only[go_sem,simprocAttr]at Xj))
 |(refine Xt ?_ ?_;.first|assumption|omega)
 |(with_reducible first|refine CallX.c ?_ _|refine OK.c hr hw ?_ (λy hr=>?_) _|refine IM hr hw ?_ (λy hr=>?_) _)
 |(with_reducible refine lp (QkJ N _ _ _) hr N ?_ (λex hq hk=>⟨_,_,ex,hq,hk,?_⟩) _;clear hr;(try clear E);rintro n1 st ⟨v3,v4,ex,hr,hk,⟨_,_,E⟩⟩<;>(obtain _|n1:=n1<;>rw[Qcc]at hr))
 |refine⟨_,Wz _,_,_,_,hr,hk,?_⟩
 |(with_reducible refine lp (QkK N _ _) hr N ?_ (λex hq hk=>⟨_,ex,hq,hk,?_⟩) _;clear hr;(try clear E);rintro n2 st ⟨v17,ex,hr,hk,⟨_,_,E⟩⟩<;>(obtain _|n2:=n2<;>rw[QcU]at hr))
 |refine⟨_,Wz _,_,_,hr,hk,?_⟩
 |(with_reducible refine lp (QjJ N _ _) hr N ?_ (λex hq hk=>⟨_,ex,hq,hk,?_⟩) _;clear hr;(try clear E);rintro n1 st ⟨v3,ex,hr,hk,E⟩<;>(obtain _|n1:=n1<;>rw[QaC]at hr))
 |(with_reducible refine lp (QkL N _ _) hr N ?_ (λex hq hk=>⟨_,_,ex,hq,hk,?_⟩) _;clear hr;(try clear E);rintro n1 st ⟨v4,v5,ex,hr,hk,⟨_,_,_,_,E⟩⟩<;>(obtain _|n1:=n1<;>rw[Qcd]at hr))
 |(with_reducible refine lp (Qjh N _ _) hr N ?_ (λex hq hk=>⟨_,_,ex,hq,hk,?_⟩) _;clear hr;(try clear E);rintro n1 st ⟨v3,v4,ex,hr,hk,⟨_,E⟩⟩<;>(obtain _|n1:=n1<;>rw[QcN]at hr))
 |(with_reducible refine lp (QkM N _) hr N ?_ (λex hq hk=>⟨_,_,ex,hq,hk,?_⟩) _;clear hr;(try clear E);rintro n1 st ⟨v4,v5,ex,hr,hk,⟨_,_,E⟩⟩<;>(obtain _|n1:=n1<;>rw[Qcj]at hr))
 |refine dc 72 10 hf 68 [(0,31998,[]),(0,31869,[]),(0,31755,[]),(0,31751,[]),(12,31747,[]),(28,31747,[]),(60,31747,[]),(126,31745,[]),(255,31744,[]),(511,31744,[]),(0,3071,[]),(0,2047,[]),(3072,1023,[]),(7168,1023,[]),(15360,1023,[]),(32767,0,[]),(65535,0,[]),(131071,0,[[1664],[]])] ?_
 |refine dc 72 14 hf 92 [(0,964,[]),(1,964,[]),(0,963,[]),(7,960,[]),(15,960,[]),(31,960,[]),(0,191,[]),(0,127,[]),(192,63,[]),(448,63,[]),(1023,0,[])] ?_
 |refine dc 298 9 hf 7 [(0,962072674305,[[],[448]]),(1,962072674305,[[],[448]]),(0,377957122049,[[],[448]]),(0,240518168577,[[],[448]]),(12,103079215105,[[],[448]]),(31,1,[[],[448]]),(63,1,[[],[448]]),(0,4363686772736,[[448],[]]),(255,0,[[448],[]])] ?_
 |(refine Xn hr ?_;rintro rfl;with_reducible refine XP ?_)
 |exact Yw hr
 |((first|refine XB (c:=true) hr rfl ?_|refine XB (c:=false) hr rfl ?_|refine XB hr ag ?_);intro hr)
 |fail)
abbrev QnV:=g35.1
abbrev QmO:=g35.2.1
abbrev QnW:=g35.2.2.1
abbrev QlZ:=g35.2.2.2.1
abbrev QnX:=g35.2.2.2.2
attribute [instance] QnV QmO QnW QlZ QnX
end Go.Sx
