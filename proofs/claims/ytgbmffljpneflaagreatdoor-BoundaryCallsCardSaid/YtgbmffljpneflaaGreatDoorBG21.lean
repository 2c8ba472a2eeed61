import Derived.Test.YtgbmffljpneflaaGreatDoorBG20
set_option linter.all false
namespace Go.Sx
open Go.Proofs
set_option maxRecDepth 10000
set_option maxHeartbeats 100000000
def g38:(∀N a0,OK (QbP N a0) 23 [.agg (e38 a0)] [] (λr=>.v (.bool r)) λr=>[])/\(∀N a0 a1 a2,OK (QbL N a0 a1 a2) 102 [.agg (e27 a0),s76 a1,vu a2] [] (λr=>.tup [.agg (e27 r.1),s76 r.2.1,vi r.2.2]) λr=>[])/\(∀N a0 a1 a2,OK (QdE N a0 a1 a2) 103 [.agg (e27 a0),s76 a1,vu a2] [] (λr=>.tup [.agg (e27 r.1),s76 r.2.1,vu r.2.2.1,vi r.2.2.2]) λr=>[])/\(∀N a0,OK (QfO N a0) 120 [.agg (e27 a0)] [] (λr=>.v (.bool r)) λr=>[]):=by
 refine⟨λN _=>rk Tryz.f23 ?_,λN _ _ _=>rk Tryz.f102 ?_,λN _ _ _=>rk Tryz.f103 ?_,λN _=>rk Tryz.f120 ?_⟩<;>(rintro _ hw r hr C _ rfl hwf hf;have hse:=@Za _ hw;simp only[Tryz.f23,Tryz.f102,Tryz.f103,Tryz.f120,Option.get!];(first|rw[QbP]at hr|rw[QbL]at hr|rw[QdE]at hr|rw[QfO]at hr);repeat' first
 |(refine El.el hr ?_;clear hr;intro hr)
 |(with_reducible intro h;refine Xx hr h ?_;clear hr;intro hr)
 |with_reducible intro _
 |simp only[go_sem,simprocAttr,ZM,hse,Wl,Wn,Wz]
 |(with_reducible first|apply Xi|apply Xh|apply Xs|apply Xq|apply Xr)
 |((first|with_reducible refine Yo hr ag ?_ ?_|(with_reducible refine Ye hr ?_ ?_;rotate_left;intro p;rotate_right));(·simp only[go_sem,simprocAttr,hse,Wl,Wn,Wz]);intro hp hn hd hr;(try have ZM:=hd _ e76);(try simp only[go_sem,simprocAttr]at ZM))
 |(refine Xt ?_ ?_;.first|assumption|omega)
 |(with_reducible first|refine CallX.c ?_ _|refine OK.c hr hw ?_ (λy hr=>?_) _|refine IK hr hw ?_ (λy hr=>?_) _)
 |refine dc 23 6 hf 34 [(0,54,[[2176],[]]),(0,49,[[],[2176]]),(2,49,[[],[2176]]),(7,48,[[2176],[]]),(0,15,[[],[2176]]),(16,15,[[],[2176]]),(63,0,[]),(127,0,[[2176],[]]),(255,0,[])] ?_
 |refine dc 23 7 hf 42 [(0,508,[[],[2176,3136]]),(1,508,[[],[2176,3136]]),(0,107,[]),(0,103,[]),(12,99,[[2176],[]]),(0,31,[[],[2176]]),(32,31,[[],[2176]]),(124,3,[[3136],[]]),(252,3,[[2176],[]]),(511,0,[]),(1023,0,[])] ?_
 |refine dc 102 11 hf 42 [(0,122,[]),(0,121,[]),(3,120,[]),(0,55,[]),(0,15,[]),(16,15,[]),(56,7,[]),(127,0,[[1600],[]]),(255,0,[])] ?_
 |(refine Xn hr ?_;rintro rfl;with_reducible refine XK ?_)
 |exact Yr hr
 |with_reducible refine Xl6 (λhi=>?_) (λhi=>?_)
 |(exfalso;omega)
 |fail)
abbrev Qph:=g38.1
abbrev Qnc:=g38.2.1
abbrev Qrd:=g38.2.2.1
abbrev QqD:=g38.2.2.2
attribute [instance] Qph Qnc Qrd QqD
abbrev Qkf:=λN l m a (Q:(Int × List Int)→Prop) n (st:St)=>∃u v k x,Qbf N l m a n u v k=some x/\Q x/\((∃i e f g,st.n=122/\st.s 5824=some (i,.arr false 39 1 (k.map e39) 0)/\st.t 2=s39 l/\st.t 6=.ept 384 e 6 0 0/\st.t 9=.ept 576 f 6 0 0/\st.t 11=.ept 704 g 16 0 0/\st.t 13=s39 m.2.1/\st.t 15=.osl 5824 i 1 0 k.length/\st.t 16=vi u/\st.s 384=some (e,.arr true 27 6 [[vi 0,vi 0,.nsl,.nsl,vi 0,vi 0]] 0)/\st.s 576=some (f,.arr true 104 6 [[vi 0,vi 0,vi 0,vi 0,vi 0,vi 0]] 0)/\st.s 704=some (g,.arr true 237 16 [[vi a.1.h.c.W,vi a.1.h.c.p,s39 a.1.h.w,Yj a.1.h.p,vi a.1.h.s,vi a.1.h.b,s39 a.1.o,s3 a.1.t,s39 a.1.q,vi a.1.d,vi a.1.r.j,vi a.1.r.K,vi a.1.r.F,vi a.1.r.E,vi v,vi a.1.r.y]] 0))\/(∃e f g,(st.n=122/\st.t 2=s39 l/\st.t 6=.ept 384 e 6 0 0/\st.t 9=.ept 576 f 6 0 0/\st.t 11=.ept 704 g 16 0 0/\st.t 13=s39 m.2.1/\st.t 15=.nsl/\st.t 16=vi u/\st.s 384=some (e,.arr true 27 6 [[vi 0,vi 0,.nsl,.nsl,vi 0,vi 0]] 0)/\st.s 576=some (f,.arr true 104 6 [[vi 0,vi 0,vi 0,vi 0,vi 0,vi 0]] 0)/\st.s 704=some (g,.arr true 237 16 [[vi a.1.h.c.W,vi a.1.h.c.p,s39 a.1.h.w,Yj a.1.h.p,vi a.1.h.s,vi a.1.h.b,s39 a.1.o,s3 a.1.t,s39 a.1.q,vi a.1.d,vi a.1.r.j,vi a.1.r.K,vi a.1.r.F,vi a.1.r.E,vi v,vi a.1.r.y]] 0))/\k=[]))
instance Qrw:∀N a0 a1 a2,OK (Qdi N a0 a1 a2) 107 [.agg (e27 a0),s39 a1,s39 a2] [] (λr=>.tup [.agg (e27 r.1),s39 r.2.1,s39 r.2.2.1,.agg (XhC r.2.2.2.1),vi r.2.2.2.2]) λr=>[]:=by
 refineλN _ _ _=>rk Tryz.f107 ?_<;>(rintro _ hw r hr C _ rfl hwf hf;have hse:=@Za _ hw;simp only[Tryz.f107,Option.get!];(rw[Qdi]at hr);repeat' first
 |(refine El.el hr ?_;clear hr;intro hr)
 |(with_reducible intro h;refine Xx hr h ?_;clear hr;intro hr)
 |with_reducible intro _
 |(refine Xn hr ?_;rintro rfl;have hr:=hk;clear hk)
 |simp only[go_sem,simprocAttr,E,hl3,Xz,hse]
 |(with_reducible first|apply Xi|apply Xh|apply Xs|apply Xq|apply Xr)
 |((first|with_reducible refine Yo hr ag ?_ ?_|(with_reducible refine Ye hr ?_ ?_;rotate_left;intro p;rotate_right));(·simp only[go_sem,simprocAttr,hse]);intro hp hn hd hr;(try have hl3:=hd _ e3);(try simp only[go_sem,simprocAttr]at hl3);(try have Xz:=hd _ e39);(try simp only[go_sem,simprocAttr]at Xz))
 |(refine Xt ?_ ?_;.first|assumption|omega)
 |(with_reducible first|refine CallX.c ?_ _|refine OK.c hr hw ?_ (λy hr=>?_) _|refine IK hr hw ?_ (λy hr=>?_) _)
 |(with_reducible refine lp (Qkf N _ _ _) hr N ?_ (λex hq hk=>⟨_,_,_,ex,hq,hk,?_⟩) _;clear hr;(try clear E);rintro n1 st ⟨v7,v8,v9,ex,hr,hk,(⟨_,_,_,_,E⟩|⟨_,_,_,E,z0⟩)⟩<;>(try subst z0)<;>(obtain _|n1:=n1<;>rw[Qbf]at hr))
 |refine⟨_,WA _,_,_,_,_,hr,hk,?_⟩
 |refine dc 107 18 hf 74 [(0,30,[]),(0,5,[]),(0,3,[]),(6,1,[]),(14,1,[]),(31,0,[]),(63,0,[])] ?_
 |refine dc 107 28 hf 7 [(0,38942226439011207213978722469150720,[]),(1,38942226439011207213978722469150720,[]),(0,38293189331694353760412410427998208,[[],[384]]),(0,35697040902426939946147162263388161,[[],[384]]),(0,9735556609752801803494680617287683,[[],[384]]),(16,9735556609752801803494680617287683,[[],[384]]),(3,38942226439011207213978722469150720,[[384],[]]),(71,36346078009743793399713474304540672,[]),(207,31153781151208965771182977975320576,[]),(511,0,[[576],[]]),(1023,0,[])] ?_
 |(refine Xn hr ?_;rintro rfl;with_reducible refine XK ?_)
 |exact Yr hr
 |((first|refine Xx (c:=true) hr rfl ?_|refine Xx (c:=false) hr rfl ?_|refine Xx hr ag ?_);intro hr)
 |fail)
end Go.Sx
