import Derived.Test.YtcclgbgphjofaaaGreatHG0
import Derived.Test.YtcclgbgphjofaaaGreatHG1
import Derived.Test.YtcclgbgphjofaaaGreatHG2
set_option linter.all false
namespace Go.Sx
open Go.Proofs
set_option maxRecDepth 10000
set_option maxHeartbeats 100000000
abbrev Qjp:=λN b (Q:(Ex Bool Unit)→Prop) n (st:St)=>∃c d,Qdl N b n c=some d/\Q d/\((∃a,st.n=174/\st.t 1=.ept 64 a 3 0 0/\st.t 3=vi c/\st.s 64=some (a,.arr true 32 3 [e32 b] 0)))
abbrev Qjq:=λN b (Q:(Ex Bool Unit)→Prop) n (st:St)=>∃c d e,Qan N b n c d=some e/\Q e/\((∃a,st.n=174/\st.t 1=.ept 64 a 3 0 0/\st.t 4=vi c/\st.t 5=vi d/\st.s 64=some (a,.arr true 32 3 [e32 b] 0)))
abbrev Qjr:=λN d (Q:(Ex Bool Unit)→Prop) n (st:St)=>∃a b e,Qam N d n a b=some e/\Q e/\((∃c,st.n=174/\st.t 1=.ept 64 c 3 0 0/\st.t 7=vi a/\st.t 8=vi b/\st.s 64=some (c,.arr true 32 3 [e32 d] 0)))
abbrev Qjs:=λN c (Q:(Ex Bool Unit)→Prop) n (st:St)=>∃a d,QcK N c n a=some d/\Q d/\((∃b,st.n=174/\st.t 1=.ept 64 b 3 0 0/\st.t 10=vi a/\st.s 64=some (b,.arr true 32 3 [e32 c] 0)))
abbrev Qjt:=λN c d (Q:(List Int)→Prop) n (st:St)=>∃e b f,QbP N c d n e b=some f/\Q f/\((∃a,st.n=41/\st.s 1408=some (a,.arr false 55 1 (b.map e55) 0)/\st.t 2=s55 c/\st.t 8=vi d.1/\st.t 10=.osl 1408 a 1 0 b.length/\st.t 11=vi e))
abbrev Qlg:=λN c d (Q:(Ex (W4 × Int × Int × Int) Unit)→Prop) n (st:St)=>∃f g,QbM N c d n f=some g/\Q g/\((∃a b,st.n=69/\st.s 896=some (a,.arr false 136 3 (c.e.map K2) 0)/\st.t 1=vu d/\st.t 4=.ept 256 b 1 0 0/\st.t 8=.osl 896 a 3 0 c.e.length/\st.t 9=vi f/\st.s 256=some (b,.arr true 35 1 [[.nsl]] 0)))
abbrev Qff:=λN a (Q:(Ex Int Unit)→Prop) n (st:St)=>∃b c,Qav N a n b=some c/\Q c/\((st.n=19/\st.t 0=s55 a/\st.t 1=.clo (.func 253) [] []/\st.t 7=vi a.length/\st.t 8=vi b))
abbrev QeY:=λN a c0 (Q:(Ex Int Unit)→Prop) n (st:St)=>∃b c,Qao N a c0 n b=some c/\Q c/\((st.n=19/\st.t 0=s99 a/\st.t 1=.clo (.func 216) [] [.ept 1000000 0 1 0 0]/\st.t 7=vi a.length/\st.t 8=vi b/\st.s 1000000=some (0,.arr true 55 1 [[vu c0]] 0)))
abbrev Qf3:=λN a (Q:(Ex Int Unit)→Prop) n (st:St)=>∃b c,QaE N a n b=some c/\Q c/\((st.n=19/\st.t 0=s3 a/\st.t 1=.clo (.func 97) [] []/\st.t 7=vi a.length/\st.t 8=vi b))
abbrev Qgw:=λN a (Q:Int→Prop) n (st:St)=>∃b c d,QaR N a n b c=some d/\Q d/\((st.n=36/\st.t 0=s25 a/\st.t 3=vi b/\st.t 9=s25 a/\st.t 10=vi a.length/\st.t 11=vi c))
abbrev Qgx:=λN b (Q:(List Int)→Prop) n (st:St)=>∃d c e,QaS N b n d c=some e/\Q e/\((∃a,st.n=36/\st.s 1536=some (a,.arr false 55 1 (c.map e55) 0)/\st.t 6=.osl 1536 a 1 0 c.length/\st.t 25=s25 b/\st.t 26=vi b.length/\st.t 27=vi d))
abbrev Qen:=λN a c0 (Q:(Ex Int Unit)→Prop) n (st:St)=>∃b c,Qai N a c0 n b=some c/\Q c/\((st.n=19/\st.t 0=s90 a/\st.t 1=.clo (.func 184) [] [.ept 1000000 0 1 0 0]/\st.t 7=vi a.length/\st.t 8=vi b/\st.s 1000000=some (0,.arr true 55 1 [[vu c0]] 0)))
def g8:(∀N a0,OK (Qb9 N a0) 67 [.agg (e32 a0)] [] (λr=>.v (.bool r)) λr=>[])/\(∀N a0 a1 a2,OK (QcQ N a0 a1 a2) 203 [s55 a0,vu a1,s55 a2] [] (λr=>.tup [s55 r.1,vi r.2]) λr=>[])/\(∀N a0 a1,OK (QcN N a0 a1) 149 [.agg (e35 a0),vu a1] [] (λr=>.tup [.agg (e35 r.1),vi r.2.1,vi r.2.2.1,vi r.2.2.2]) λr=>[])/\(∀N a0,OK (QaM N a0) 178 [s55 a0,.clo (.func 253) [] []] [] (λr=>vi r) λr=>[])/\(∀N a0 c0,OK (Qa5 N a0 c0) 215 [s99 a0,.clo (.func 216) [] [.ept 1000000 0 1 0 0]] [.arr true 55 1 [[vu c0]] 0] (λr=>vi r) λr=>[.arr true 55 1 [[vu c0]] 0])/\(∀N a0,OK (QbO N a0) 171 [s3 a0,.clo (.func 97) [] []] [] (λr=>vi r) λr=>[])/\(∀N a0,OK (Qbb N a0) 49 [s25 a0] [] (λr=>s55 r) λr=>[])/\(∀N a0 c0,OK (QaL N a0 c0) 183 [s90 a0,.clo (.func 184) [] [.ept 1000000 0 1 0 0]] [.arr true 55 1 [[vu c0]] 0] (λr=>vi r) λr=>[.arr true 55 1 [[vu c0]] 0]):=by
 refine⟨λN _=>rk Tryz.f67 ?_,λN _ _ _=>rk Tryz.f203 ?_,λN _ _=>rk Tryz.f149 ?_,λN _=>rk Tryz.f178 ?_,λN _ _=>rk Tryz.f215 ?_,λN _=>rk Tryz.f171 ?_,λN _=>rk Tryz.f49 ?_,λN _ _=>rk Tryz.f183 ?_⟩<;>(rintro _ hw r hr C _ rfl hwf hf;simp only[Tryz.f67,Tryz.f203,Tryz.f149,Tryz.f178,Tryz.f215,Tryz.f171,Tryz.f49,Tryz.f183,Option.get!];(first|rw[Qb9]at hr|rw[QcQ]at hr|rw[QcN]at hr|rw[QaM]at hr|rw[Qa5]at hr|rw[QbO]at hr|rw[Qbb]at hr|rw[QaL]at hr);repeat' first
 |(refine El.el hr ?_;intro hr)
 |(with_reducible intro h;refine XH hr h ?_;intro hr)
 |with_reducible intro _
 |(refine Xu hr ?_;rintro rfl;have hr:=hk;clear hk)
 |simp only[go_sem,simprocAttr,E,hl3,Xr4,X2,Xev,K3,Km,YW,Zx]
 |(with_reducible first|apply Xk|apply Xj|apply XA|apply XF|apply XG)
 |((first|with_reducible refine Y1 hr ag ?_ ?_|(with_reducible refine YN hr ?_ ?_;rotate_left;intro p;rotate_right));(·simp only[go_sem,simprocAttr]);intro hp hn hd hr;(try have hl3:=hd _ e3);(try simp only[go_sem,simprocAttr]at hl3);(try have Xr4:=hd _ e25);(try simp only[go_sem,simprocAttr]at Xr4);(try have X2:=hd _ e55);(try simp only[go_sem,simprocAttr]at X2);(try have Xev:=hd _ e90);(try simp only[go_sem,simprocAttr]at Xev);(try have K3:=hd _ e99);(try simp only[go_sem,simprocAttr]at K3);(try have Km:=hd _ XaR);(try simp only[go_sem,simprocAttr]at Km);(try have YW:=hd _ Vl);(try simp only[go_sem,simprocAttr]at YW);(try have Zx:=hd _ K2);(try simp only[go_sem,simprocAttr]at Zx))
 |(refine XB ?_ ?_;.first|assumption|omega)
 |(with_reducible first|refine CallX.c ?_ _|refine OK.c hr hw ?_ (λy hr=>?_) _|refine OK.d hr hw ?_ (λy hr=>?_) _)
 |(with_reducible refine lp (Qjp N _) hr N ?_ (λex hq hk=>⟨_,ex,hq,hk,?_⟩) _;clear hr;(try clear E);rintro n1 st ⟨v1,ex,hr,hk,⟨_,E⟩⟩<;>(obtain _|n1:=n1<;>rw[Qdl]at hr))
 |refine⟨_,WK _,_,_,hr,hk,?_⟩
 |(with_reducible refine lp (Qjq N _) hr N ?_ (λex hq hk=>⟨_,_,ex,hq,hk,?_⟩) _;clear hr;(try clear E);rintro n2 st ⟨v5,v6,ex,hr,hk,⟨_,E⟩⟩<;>(obtain _|n2:=n2<;>rw[Qan]at hr))
 |refine⟨_,WK _,_,_,_,hr,hk,?_⟩
 |(with_reducible refine lp (Qjr N _) hr N ?_ (λex hq hk=>⟨_,_,ex,hq,hk,?_⟩) _;clear hr;(try clear E);rintro n3 st ⟨v10,v11,ex,hr,hk,⟨_,E⟩⟩<;>(obtain _|n3:=n3<;>rw[Qam]at hr))
 |(with_reducible refine lp (Qjs N _) hr N ?_ (λex hq hk=>⟨_,ex,hq,hk,?_⟩) _;clear hr;(try clear E);rintro n4 st ⟨v14,ex,hr,hk,⟨_,E⟩⟩<;>(obtain _|n4:=n4<;>rw[QcK]at hr))
 |(with_reducible refine lp (Qjt N _ _) hr N ?_ (λex hq hk=>⟨_,_,ex,hq,hk,?_⟩) _;clear hr;(try clear E);rintro n1 st ⟨v2,v3,ex,hr,hk,⟨_,E⟩⟩<;>(obtain _|n1:=n1<;>rw[QbP]at hr))
 |(with_reducible refine lp (Qlg N _ _) hr N ?_ (λex hq hk=>⟨_,ex,hq,hk,?_⟩) _;clear hr;(try clear E);rintro n1 st ⟨v2,ex,hr,hk,⟨_,_,E⟩⟩<;>(obtain _|n1:=n1<;>rw[QbM]at hr))
 |(with_reducible refine lp (Qff N _) hr N ?_ (λex hq hk=>⟨_,ex,hq,hk,?_⟩) _;clear hr;(try clear E);rintro n1 st ⟨v1,ex,hr,hk,E⟩<;>(obtain _|n1:=n1<;>rw[Qav]at hr))
 |(with_reducible refine lp (QeY N _ _) hr N ?_ (λex hq hk=>⟨_,ex,hq,hk,?_⟩) _;clear hr;(try clear E);rintro n1 st ⟨v1,ex,hr,hk,E⟩<;>(obtain _|n1:=n1<;>rw[Qao]at hr))
 |(with_reducible refine lp (Qf3 N _) hr N ?_ (λex hq hk=>⟨_,ex,hq,hk,?_⟩) _;clear hr;(try clear E);rintro n1 st ⟨v1,ex,hr,hk,E⟩<;>(obtain _|n1:=n1<;>rw[QaE]at hr))
 |(with_reducible refine lp (Qgw N _) hr N ?_ (λex hq hk=>⟨_,_,ex,hq,hk,?_⟩) _;clear hr;(try clear E);rintro n1 st ⟨v1,v2,ex,hr,hk,E⟩<;>(obtain _|n1:=n1<;>rw[QaR]at hr))
 |(with_reducible refine lp (Qgx N _) hr N ?_ (λex hq hk=>⟨_,_,ex,hq,hk,?_⟩) _;clear hr;(try clear E);rintro n2 st ⟨v6,v7,ex,hr,hk,⟨_,E⟩⟩<;>(obtain _|n2:=n2<;>rw[QaS]at hr))
 |(with_reducible refine lp (Qen N _ _) hr N ?_ (λex hq hk=>⟨_,ex,hq,hk,?_⟩) _;clear hr;(try clear E);rintro n1 st ⟨v1,ex,hr,hk,E⟩<;>(obtain _|n1:=n1<;>rw[Qai]at hr))
 |refine dc 67 27 hf 156 [(0,130046,[]),(0,129929,[]),(2,129929,[]),(0,129927,[]),(14,129921,[]),(30,129921,[]),(62,129921,[]),(0,129407,[]),(0,129279,[]),(384,129151,[]),(1023,129024,[]),(0,10239,[]),(2048,10239,[]),(0,8191,[]),(14336,2047,[]),(30720,2047,[]),(63488,2047,[]),(131071,0,[])] ?_
 |refine dc 149 9 hf 5 [(0,4433230883192832,[]),(1,4433230883192832,[]),(0,4415638697148416,[[],[256]]),(0,404620279021569,[[],[256]]),(0,263882790666241,[[],[256]]),(24,123145302310913,[[],[256]]),(56,123145302310913,[[],[256]]),(120,123145302310913,[[],[256]]),(3,4433230883192832,[[256],[]]),(263,4362862139015168,[]),(1023,0,[]),(2047,0,[])] ?_
 |(refine Xu hr ?_;rintro rfl;with_reducible refine X4 ?_)
 |exact Za hr
 |exact Yb hr
 |(apply Yc;assumption)
 |((first|refine XH (c:=true) hr rfl ?_|refine XH (c:=false) hr rfl ?_|refine XH hr ag ?_);intro hr)
 |fail)
abbrev Ql4:=g8.1
abbrev Ql5:=g8.2.1
abbrev QnK:=g8.2.2.1
abbrev QfI:=g8.2.2.2.1
abbrev Qfg:=g8.2.2.2.2.1
abbrev Qgt:=g8.2.2.2.2.2.1
abbrev QgQ:=g8.2.2.2.2.2.2.1
abbrev Qew:=g8.2.2.2.2.2.2.2
attribute [instance] Ql4 Ql5 QnK QfI Qfg Qgt QgQ Qew
end Go.Sx
