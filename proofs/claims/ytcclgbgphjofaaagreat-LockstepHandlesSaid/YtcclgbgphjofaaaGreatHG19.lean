import Derived.Test.YtcclgbgphjofaaaGreatHG18
set_option linter.all false
namespace Go.Sx
open Go.Proofs
set_option maxRecDepth 10000
set_option maxHeartbeats 100000000
def g31:(∀N a0,OK (Qcd N a0) 70 [.agg (e38 a0)] [] (λr=>.v (.bool r)) λr=>[])/\(∀N a0 a1 a2,OK (Qdf N a0 a1 a2) 154 [.agg (e28 a0),s99 a1,vu a2] [] (λr=>.tup [.agg (e28 r.1),s99 r.2.1,vi r.2.2]) λr=>[])/\(∀N a0 a1 a2,OK (Qfh N a0 a1 a2) 155 [.agg (e28 a0),s99 a1,vu a2] [] (λr=>.tup [.agg (e28 r.1),s99 r.2.1,vu r.2.2.1,vi r.2.2.2]) λr=>[])/\(∀N a0,OK (Qgd N a0) 94 [.agg (e28 a0)] [] (λr=>.v (.bool r)) λr=>[]):=by
 refine⟨λN _=>rk Tryz.f70 ?_,λN _ _ _=>rk Tryz.f154 ?_,λN _ _ _=>rk Tryz.f155 ?_,λN _=>rk Tryz.f94 ?_⟩<;>(rintro _ hw r hr C _ rfl hwf hf;simp only[Tryz.f70,Tryz.f154,Tryz.f155,Tryz.f94,Option.get!];(first|rw[Qcd]at hr|rw[Qdf]at hr|rw[Qfh]at hr|rw[Qgd]at hr);repeat' first
 |(refine El.el hr ?_;intro hr)
 |(with_reducible intro h;refine XH hr h ?_;intro hr)
 |with_reducible intro _
 |simp only[go_sem,simprocAttr,K3,Wx,WR,UX]
 |(with_reducible first|apply Xk|apply Xj|apply XA|apply XF|apply XG)
 |((first|with_reducible refine Y1 hr ag ?_ ?_|(with_reducible refine YN hr ?_ ?_;rotate_left;intro p;rotate_right));(·simp only[go_sem,simprocAttr,Wx,WR,UX]);intro hp hn hd hr;(try have K3:=hd _ e99);(try simp only[go_sem,simprocAttr]at K3))
 |(refine XB ?_ ?_;.first|assumption|omega)
 |(with_reducible first|refine CallX.c ?_ _|refine OK.c hr hw ?_ (λy hr=>?_) _|refine OK.d hr hw ?_ (λy hr=>?_) _)
 |refine dc 70 6 hf 34 [(0,54,[[2176],[]]),(0,49,[[],[2176]]),(2,49,[[],[2176]]),(7,48,[[2176],[]]),(0,15,[[],[2176]]),(16,15,[[],[2176]]),(63,0,[]),(127,0,[[2176],[]]),(255,0,[])] ?_
 |refine dc 70 7 hf 42 [(0,508,[[],[2176,3136]]),(1,508,[[],[2176,3136]]),(0,107,[]),(0,103,[]),(12,99,[[2176],[]]),(0,31,[[],[2176]]),(32,31,[[],[2176]]),(124,3,[[3136],[]]),(252,3,[[2176],[]]),(511,0,[]),(1023,0,[])] ?_
 |refine dc 154 11 hf 42 [(0,122,[]),(0,121,[]),(3,120,[]),(0,55,[]),(0,15,[]),(16,15,[]),(56,7,[]),(127,0,[[1600],[]]),(255,0,[])] ?_
 |(refine Xu hr ?_;rintro rfl;with_reducible refine X4 ?_)
 |exact Za hr
 |exact Yb hr
 |(apply Yc;assumption)
 |with_reducible refine XqA (λhi=>?_) (λhi=>?_)
 |(exfalso;omega)
 |fail)
abbrev QmG:=g31.1
abbrev QkU:=g31.2.1
abbrev Qn0:=g31.2.2.1
abbrev QnC:=g31.2.2.2
attribute [instance] QmG QkU Qn0 QnC
abbrev QiF:=λN l m a (Q:(Int × List Int)→Prop) n (st:St)=>∃u v k x,QaU N l m a n u v k=some x/\Q x/\((∃i e f g,st.n=122/\st.s 5824=some (i,.arr false 55 1 (k.map e55) 0)/\st.t 2=s55 l/\st.t 6=.ept 384 e 6 0 0/\st.t 9=.ept 576 f 6 0 0/\st.t 11=.ept 704 g 16 0 0/\st.t 13=s55 m.2.1/\st.t 15=.osl 5824 i 1 0 k.length/\st.t 16=vi u/\st.s 384=some (e,.arr true 28 6 [[vi 0,vi 0,.nsl,.nsl,vi 0,vi 0]] 0)/\st.s 576=some (f,.arr true 109 6 [[vi 0,vi 0,vi 0,vi 0,vi 0,vi 0]] 0)/\st.s 704=some (g,.arr true 204 16 [[vi a.1.h.c.W,vi a.1.h.c.p,s55 a.1.h.w,ZH a.1.h.p,vi a.1.h.s,vi a.1.h.b,s55 a.1.o,s3 a.1.t,s55 a.1.q,vi a.1.d,vi a.1.r.j,vi a.1.r.K,vi a.1.r.F,vi a.1.r.E,vi v,vi a.1.r.y]] 0))\/(∃e f g,(st.n=122/\st.t 2=s55 l/\st.t 6=.ept 384 e 6 0 0/\st.t 9=.ept 576 f 6 0 0/\st.t 11=.ept 704 g 16 0 0/\st.t 13=s55 m.2.1/\st.t 15=.nsl/\st.t 16=vi u/\st.s 384=some (e,.arr true 28 6 [[vi 0,vi 0,.nsl,.nsl,vi 0,vi 0]] 0)/\st.s 576=some (f,.arr true 109 6 [[vi 0,vi 0,vi 0,vi 0,vi 0,vi 0]] 0)/\st.s 704=some (g,.arr true 204 16 [[vi a.1.h.c.W,vi a.1.h.c.p,s55 a.1.h.w,ZH a.1.h.p,vi a.1.h.s,vi a.1.h.b,s55 a.1.o,s3 a.1.t,s55 a.1.q,vi a.1.d,vi a.1.r.j,vi a.1.r.K,vi a.1.r.F,vi a.1.r.E,vi v,vi a.1.r.y]] 0))/\k=[]))
instance Qod:∀N a0 a1 a2,OK (Qdd N a0 a1 a2) 71 [.agg (e28 a0),s55 a1,s55 a2] [] (λr=>.tup [.agg (e28 r.1),s55 r.2.1,s55 r.2.2.1,.agg (Xn4 r.2.2.2.1),vi r.2.2.2.2]) λr=>[]:=by
 refineλN _ _ _=>rk Tryz.f71 ?_<;>(rintro _ hw r hr C _ rfl hwf hf;simp only[Tryz.f71,Option.get!];(rw[Qdd]at hr);repeat' first
 |(refine El.el hr ?_;intro hr)
 |(with_reducible intro h;refine XH hr h ?_;intro hr)
 |with_reducible intro _
 |(refine Xu hr ?_;rintro rfl;have hr:=hk;clear hk)
 |simp only[go_sem,simprocAttr,E,hl3,X2]
 |(with_reducible first|apply Xk|apply Xj|apply XA|apply XF|apply XG)
 |((first|with_reducible refine Y1 hr ag ?_ ?_|(with_reducible refine YN hr ?_ ?_;rotate_left;intro p;rotate_right));(·simp only[go_sem,simprocAttr]);intro hp hn hd hr;(try have hl3:=hd _ e3);(try simp only[go_sem,simprocAttr]at hl3);(try have X2:=hd _ e55);(try simp only[go_sem,simprocAttr]at X2))
 |(refine XB ?_ ?_;.first|assumption|omega)
 |(with_reducible first|refine CallX.c ?_ _|refine OK.c hr hw ?_ (λy hr=>?_) _|refine OK.d hr hw ?_ (λy hr=>?_) _)
 |(with_reducible refine lp (QiF N _ _ _) hr N ?_ (λex hq hk=>⟨_,_,_,ex,hq,hk,?_⟩) _;clear hr;(try clear E);rintro n1 st ⟨v7,v8,v9,ex,hr,hk,(⟨_,_,_,_,E⟩|⟨_,_,_,E,z0⟩)⟩<;>(try subst z0)<;>(obtain _|n1:=n1<;>rw[QaU]at hr))
 |refine⟨_,WK _,_,_,_,_,hr,hk,?_⟩
 |refine dc 71 18 hf 74 [(0,30,[]),(0,5,[]),(0,3,[]),(6,1,[]),(14,1,[]),(31,0,[]),(63,0,[])] ?_
 |refine dc 71 28 hf 7 [(0,38942226439011207213978722469150720,[]),(1,38942226439011207213978722469150720,[]),(0,38293189331694353760412410427998208,[[],[384]]),(0,35697040902426939946147162263388161,[[],[384]]),(0,9735556609752801803494680617287683,[[],[384]]),(16,9735556609752801803494680617287683,[[],[384]]),(3,38942226439011207213978722469150720,[[384],[]]),(71,36346078009743793399713474304540672,[]),(207,31153781151208965771182977975320576,[]),(511,0,[[576],[]]),(1023,0,[])] ?_
 |(refine Xu hr ?_;rintro rfl;with_reducible refine X4 ?_)
 |exact Za hr
 |exact Yb hr
 |(apply Yc;assumption)
 |((first|refine XH (c:=true) hr rfl ?_|refine XH (c:=false) hr rfl ?_|refine XH hr ag ?_);intro hr)
 |fail)
end Go.Sx
