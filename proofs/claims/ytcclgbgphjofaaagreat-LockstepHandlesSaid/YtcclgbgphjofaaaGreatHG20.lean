import Derived.Test.YtcclgbgphjofaaaGreatHG19
set_option linter.all false
namespace Go.Sx
open Go.Proofs
set_option maxRecDepth 10000
set_option maxHeartbeats 100000000
abbrev QiG:=λN m d u v q y z (Q:(List UQ)→Prop) n (st:St)=>∃r o A,Qa6 N m d u v q y z n r o=some A/\Q A/\((∃a k l f g h j,st.n=127/\st.s 3328=some (a,.arr false 55 1 ((d.2.1.take (m.R.length:Int).toNat).map e55) 0)/\st.s 7872=some (k,.arr false 99 2 (o.map e99) 0)/\st.t 1=.ept 64 l 13 0 0/\st.t 2=.ept 128 f 13 0 0/\st.t 3=.ept 192 g 6 0 0/\st.t 6=s55 d.2.1/\st.t 8=.ept 512 h 6 0 0/\st.t 10=.ept 640 j 13 0 0/\st.t 11=vi m.R.length/\st.t 12=vi u.length/\st.t 13=vi v.length/\st.t 14=vi r/\st.s 64=some (l,.arr true 38 13 [e38 m] 0)/\st.s 128=some (f,.arr true 38 13 [[vi 0,vi 0,.nsl,.nsl,vi 0,vi 0,.nsl,.nsl,.nsl,.nsl,.nsl,.nsl,.nsl]] 0)/\st.s 192=some (g,.arr true 109 6 [[vi 0,vi 0,vi 0,vi 0,vi 0,vi 0]] 0)/\st.s 512=some (h,.arr true 109 6 [Xn4 d.2.2.2.1] 0)/\st.s 640=some (j,.arr true 38 13 [[vi d.1.c.W,vi d.1.c.p,s55 d.1.w,ZH d.1.p,vi d.1.s,vi d.1.b,Zd q.1.S,Y9 q.1.x,s3 q.1.i,XT y.1.e,XT z.1.e,.osl 7872 k 2 0 o.length,.osl 3328 a 1 0 (min ((m.R.length:Int).toNat) d.2.1.length)]] 0))\/(∃a l f g h j,(st.n=127/\st.s 3328=some (a,.arr false 55 1 ((d.2.1.take (m.R.length:Int).toNat).map e55) 0)/\st.t 1=.ept 64 l 13 0 0/\st.t 2=.ept 128 f 13 0 0/\st.t 3=.ept 192 g 6 0 0/\st.t 6=s55 d.2.1/\st.t 8=.ept 512 h 6 0 0/\st.t 10=.ept 640 j 13 0 0/\st.t 11=vi m.R.length/\st.t 12=vi u.length/\st.t 13=vi v.length/\st.t 14=vi r/\st.s 64=some (l,.arr true 38 13 [e38 m] 0)/\st.s 128=some (f,.arr true 38 13 [[vi 0,vi 0,.nsl,.nsl,vi 0,vi 0,.nsl,.nsl,.nsl,.nsl,.nsl,.nsl,.nsl]] 0)/\st.s 192=some (g,.arr true 109 6 [[vi 0,vi 0,vi 0,vi 0,vi 0,vi 0]] 0)/\st.s 512=some (h,.arr true 109 6 [Xn4 d.2.2.2.1] 0)/\st.s 640=some (j,.arr true 38 13 [[vi d.1.c.W,vi d.1.c.p,s55 d.1.w,ZH d.1.p,vi d.1.s,vi d.1.b,Zd q.1.S,Y9 q.1.x,s3 q.1.i,XT y.1.e,XT z.1.e,.nsl,.osl 3328 a 1 0 (min ((m.R.length:Int).toNat) d.2.1.length)]] 0))/\o=[]))
abbrev QlC:=λN a b (Q:(Ex Bool Unit)→Prop) n (st:St)=>∃c d,Qer N a b n c=some d/\Q d/\((st.n=41/\st.t 5=s3 b.1/\st.t 26=ZH a.p/\st.t 27=vi a.p.length/\st.t 28=vi c))
def g34:(∀N a0,OK (Qcf N a0) 32 [.agg (e38 a0)] [] (λr=>.tup [.agg (e38 r.1),.agg (Xn4 r.2.1),vi r.2.2]) λr=>[])/\(∀N a0 a1,OK (Qg3 N a0 a1) 38 [.agg (e28 a0),s99 a1] [] (λr=>.v (.bool r)) λr=>[]):=by
 refine⟨λN _=>rk Tryz.f32 ?_,λN _ _=>rk Tryz.f38 ?_⟩<;>(rintro _ hw r hr C _ rfl hwf hf;simp only[Tryz.f32,Tryz.f38,Option.get!];(first|rw[Qcf]at hr|rw[Qg3]at hr);repeat' first
 |(refine El.el hr ?_;intro hr)
 |(with_reducible intro h;refine XH hr h ?_;intro hr)
 |with_reducible intro _
 |(refine Xu hr ?_;rintro rfl;have hr:=hk;clear hk)
 |simp only[go_sem,simprocAttr,E,hl3,X2,K3,XS,Wx,WR,UX]
 |(with_reducible first|apply Xk|apply Xj|apply XA|apply XF|apply XG)
 |((first|with_reducible refine Y1 hr ag ?_ ?_|(with_reducible refine YN hr ?_ ?_;rotate_left;intro p;rotate_right));(·simp only[go_sem,simprocAttr,Wx,WR,UX]);intro hp hn hd hr;(try have hl3:=hd _ e3);(try simp only[go_sem,simprocAttr]at hl3);(try have X2:=hd _ e55);(try simp only[go_sem,simprocAttr]at X2);(try have K3:=hd _ e99);(try simp only[go_sem,simprocAttr]at K3);(try have XS:=hd _ Y8);(try simp only[go_sem,simprocAttr]at XS))
 |(refine XB ?_ ?_;.first|assumption|omega)
 |(with_reducible first|refine CallX.c ?_ _|refine OK.c hr hw ?_ (λy hr=>?_) _|refine OK.d hr hw ?_ (λy hr=>?_) _)
 |(with_reducible refine lp (QiG N _ _ _ _ _ _ _) hr N ?_ (λex hq hk=>⟨_,_,ex,hq,hk,?_⟩) _;clear hr;(try clear E);rintro n1 st ⟨v10,v11,ex,hr,hk,(⟨_,_,_,_,_,_,_,E⟩|⟨_,_,_,_,_,_,E,z0⟩)⟩<;>(try subst z0)<;>(obtain _|n1:=n1<;>rw[Qa6]at hr))
 |refine⟨_,WK _,_,_,_,hr,hk,?_⟩
 |(with_reducible refine lp (QlC N _ _) hr N ?_ (λex hq hk=>⟨_,ex,hq,hk,?_⟩) _;clear hr;(try clear E);rintro n1 st ⟨v3,ex,hr,hk,E⟩<;>(obtain _|n1:=n1<;>rw[Qer]at hr))
 |refine⟨_,WK _,_,_,hr,hk,?_⟩
 |refine dc 32 3 hf 5 [(0,8126473,[[],[320,512,1728]]),(1,8126473,[[],[320,512,1728]]),(0,3342345,[[],[320,512]]),(4,3342345,[[],[320,512]]),(0,983049,[[],[320,512]]),(16,983049,[[],[320,512]]),(60,196617,[[1728],[320,512]]),(127,9,[[1728],[320,512]]),(255,9,[[],[320,512]]),(511,503316489,[[],[320,512]]),(511,486539273,[[],[320,512]]),(511,452984843,[[],[320,512]]),(511,385875983,[[],[320,512]]),(511,251658255,[[],[320,512]]),(0,536838152,[[320],[512,1728]]),(0,536838145,[[512],[320,1728]]),(50175,503316480,[[320],[]]),(116735,469762048,[]),(249855,402653184,[]),(516095,268435456,[[512],[]]),(1048575,0,[])] ?_
 |refine dc 32 7 hf 11 [(0,2190433320960,[[],[3200]]),(1,2190433320960,[[],[3200]]),(3,2190433320960,[[],[3200]]),(0,419833053184,[]),(8,419833053184,[]),(24,419833053184,[]),(56,2069100494849,[[],[3200]]),(0,136365211648,[]),(128,136365211648,[]),(440,76235669504,[[3200],[]]),(952,76235669507,[]),(959,1168231104512,[]),(3071,1099511627776,[]),(8191,0,[])] ?_
 |refine dc 32 9 hf 59 [(0,252,[]),(1,252,[]),(0,123,[]),(0,119,[]),(0,47,[]),(0,31,[]),(48,15,[]),(124,3,[]),(255,0,[]),(511,0,[]),(1023,1024,[]),(1023,2560,[[],[640]]),(2047,1024,[]),(6143,1024,[[640],[]])] ?_
 |refine dc 32 10 hf 72 [(0,4092,[]),(1,4092,[]),(0,2043,[]),(0,2007,[]),(0,1999,[]),(24,1991,[]),(0,703,[]),(0,639,[]),(192,575,[]),(0,511,[]),(960,63,[]),(2044,3,[]),(4095,0,[]),(8191,0,[]),(16383,16384,[]),(16383,40960,[[],[640]]),(32767,16384,[]),(98303,16384,[[640],[]])] ?_
 |refine dc 32 15 hf 103 [(0,1048572,[[],[7808]]),(1,1048572,[[],[7808]]),(0,259067,[]),(0,258391,[]),(0,258383,[]),(24,258375,[]),(0,258367,[]),(120,258311,[]),(0,258303,[]),(504,258055,[]),(1020,258051,[]),(2044,258051,[]),(0,20479,[]),(4096,20479,[]),(0,16383,[]),(28672,4095,[]),(61440,4095,[]),(126976,4095,[]),(262140,3,[]),(524284,3,[[7808],[]]),(1048575,0,[[7872],[]]),(2097151,0,[]),(4194303,0,[[640],[]])] ?_
 |refine dc 32 16 hf 125 [(0,2,[]),(0,1,[[],[128]]),(1,2,[[128],[]]),(7,0,[[192],[]]),(15,0,[])] ?_
 |refine dc 38 9 hf 33 [(0,60,[]),(1,60,[]),(0,11,[]),(0,7,[]),(12,3,[]),(28,3,[]),(63,0,[])] ?_
 |(refine Xu hr ?_;rintro rfl;with_reducible refine X4 ?_)
 |exact Za hr
 |exact Yb hr
 |(apply Yc;assumption)
 |((first|refine XH (c:=true) hr rfl ?_|refine XH (c:=false) hr rfl ?_|refine XH hr ag ?_);intro hr)
 |fail)
abbrev QkV:=g34.1
abbrev Qn1:=g34.2
attribute [instance] QkV Qn1
def g33:(∀N a0 a1,OK (QaF N a0 a1) 146 [.agg (e38 a0),vu a1] [] (λr=>.tup [vu r.1,vi r.2]) λr=>[])/\(∀N a0 a1,OK (QfZ N a0 a1) 43 [.agg (e28 a0),s55 a1] [] (λr=>.v (.bool r)) λr=>[]):=by
 refine⟨λN _ _=>rk Tryz.f146 ?_,λN _ _=>rk Tryz.f43 ?_⟩<;>(rintro _ hw r hr C _ rfl hwf hf;simp only[Tryz.f146,Tryz.f43,Option.get!];(first|rw[QaF]at hr|rw[QfZ]at hr);repeat' first
 |(refine El.el hr ?_;intro hr)
 |(with_reducible intro h;refine XH hr h ?_;intro hr)
 |with_reducible intro _
 |simp only[go_sem,simprocAttr]
 |(with_reducible first|apply Xk|apply Xj|apply XA)
 |(refine XB ?_ ?_;.first|assumption|omega)
 |(with_reducible first|refine CallX.c ?_ _|refine OK.c hr hw ?_ (λy hr=>?_) _)
 |(refine Xu hr ?_;rintro rfl;with_reducible refine X4 ?_)
 |exact Za hr
 |exact Yb hr
 |(apply Yc;assumption)
 |fail)
abbrev QkW:=g33.1
abbrev QlD:=g33.2
attribute [instance] QkW QlD
end Go.Sx
