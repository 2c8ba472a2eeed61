import Derived.Test.YtcclgbgphjofaaaGreatHG17
set_option linter.all false
namespace Go.Sx
open Go.Proofs
set_option maxRecDepth 10000
set_option maxHeartbeats 100000000
abbrev QjW:=λN d e f (Q:(Ex Bool (List Int))→Prop) n (st:St)=>∃g c h,Qbk N d e f n g c=some h/\Q h/\((∃a b,st.n=103/\st.s 1664=some (a,.arr false 3 1 (c.map e3) 0)/\st.t 1=s99 e/\st.t 2=.ept 128 b 6 0 0/\st.t 5=s55 f.1/\st.t 7=.osl 1664 a 1 0 c.length/\st.t 8=vi g/\st.s 128=some (b,.arr true 28 6 [e28 d] 0)))
abbrev QjX:=λN e c (Q:(Ex Bool Unit)→Prop) n (st:St)=>∃d f,QbC N e c n d=some f/\Q f/\((∃a b,st.n=103/\st.s 1664=some (a,.arr false 3 1 (c.map e3) 0)/\st.t 2=.ept 128 b 6 0 0/\st.t 7=.osl 1664 a 1 0 c.length/\st.t 9=vi d/\st.s 128=some (b,.arr true 28 6 [e28 e] 0)))
abbrev QiY:=λN a b (Q:(Ex Bool Unit)→Prop) n (st:St)=>∃c d,QaC N a b n c=some d/\Q d/\((st.n=36/\st.t 1=s55 a/\st.t 5=s55 b.1/\st.t 7=vi c))
abbrev QjY:=λN f i (Q:(List WJ)→Prop) n (st:St)=>∃j h k,Qch N f i n j h=some k/\Q k/\((∃a g d e,st.n=61/\st.s 1472=some (a,.arr false 144 4 (h.map Y8) 0)/\st.t 1=.ept 64 g 6 0 0/\st.t 2=.ept 128 d 16 0 0/\st.t 4=.ept 256 e 16 0 0/\st.t 5=vi j/\st.s 64=some (g,.arr true 28 6 [e28 f] 0)/\st.s 128=some (d,.arr true 204 16 [[vi 0,vi 0,.nsl,.nsl,vi 0,vi 0,.nsl,.nsl,.nsl,vi 0,vi 0,vi 0,vi 0,vi 0,vi 0,vi 0]] 0)/\st.s 256=some (e,.arr true 204 16 [[vi f.c.W,vi f.c.p,s55 f.w,.osl 1472 a 4 0 h.length,vi f.s,vi f.b,s55 i.1,.nsl,.nsl,vi 0,vi 0,vi 0,vi 0,vi 0,vi 0,vi 0]] 0)))
abbrev QiE:=λN b c (Q:Int→Prop) n (st:St)=>∃d e f,Qbo N b c n d e=some f/\Q f/\((∃a,st.n=65/\st.t 1=vu c/\st.t 2=.ept 128 a 6 0 0/\st.t 5=vi d/\st.t 6=vi e/\st.s 128=some (a,.arr true 28 6 [e28 b] 0)))
abbrev QjZ:=λN c (Q:Int→Prop) n (st:St)=>∃d e f,Qcl N c n d e=some f/\Q f/\((∃b a,st.n=50/\st.t 1=.ept 64 b 6 0 0/\st.t 2=.ept 128 a 3 0 0/\st.t 5=vi d/\st.t 25=ZH c.p/\st.t 26=vi c.p.length/\st.t 27=vi e/\st.s 64=some (b,.arr true 28 6 [e28 c] 0)/\st.s 128=some (a,.arr true 249 3 [[vi 0,vi 0,vu 0]] 0)))
def g30:(∀N a0 a1,OK (Qcc N a0 a1) 128 [.agg (e28 a0),s99 a1] [] (λr=>.v (.bool r)) λr=>[])/\(∀N a0 a1,OK (Qb5 N a0 a1) 129 [.agg (e28 a0),s55 a1] [] (λr=>.v (.bool r)) λr=>[])/\(∀N a0,OK (Qeb N a0) 130 [.agg (e28 a0)] [] (λr=>.tup [.agg (JH r.1),vi r.2]) λr=>[])/\(∀N a0 a1,OK (QcF N a0 a1) 210 [.agg (e28 a0),vu a1] [] (λr=>.v (.bool r)) λr=>[])/\(∀N a0,OK (Qg0 N a0) 168 [.agg (e28 a0)] [] (λr=>.agg (Xqw r)) λr=>[]):=by
 refine⟨λN _ _=>rk Tryz.f128 ?_,λN _ _=>rk Tryz.f129 ?_,λN _=>rk Tryz.f130 ?_,λN _ _=>rk Tryz.f210 ?_,λN _=>rk Tryz.f168 ?_⟩<;>(rintro _ hw r hr C _ rfl hwf hf;simp only[Tryz.f128,Tryz.f129,Tryz.f130,Tryz.f210,Tryz.f168,Option.get!];(first|rw[Qcc]at hr|rw[Qb5]at hr|rw[Qeb]at hr|rw[QcF]at hr|rw[Qg0]at hr);repeat' first
 |(refine El.el hr ?_;intro hr)
 |(with_reducible intro h;refine XH hr h ?_;intro hr)
 |with_reducible intro _
 |(refine Xu hr ?_;rintro rfl;have hr:=hk;clear hk)
 |simp only[go_sem,simprocAttr,E,hl3,X2,K3,XS]
 |(with_reducible first|apply Xk|apply Xj|apply XA|apply XF|apply XG)
 |((first|with_reducible refine Y1 hr ag ?_ ?_|(with_reducible refine YN hr ?_ ?_;rotate_left;intro p;rotate_right));(·simp only[go_sem,simprocAttr]);intro hp hn hd hr;(try have hl3:=hd _ e3);(try simp only[go_sem,simprocAttr]at hl3);(try have X2:=hd _ e55);(try simp only[go_sem,simprocAttr]at X2);(try have K3:=hd _ e99);(try simp only[go_sem,simprocAttr]at K3);(try have XS:=hd _ Y8);(try simp only[go_sem,simprocAttr]at XS))
 |(refine XB ?_ ?_;.first|assumption|omega)
 |(with_reducible first|refine CallX.c ?_ _|refine OK.c hr hw ?_ (λy hr=>?_) _|refine OK.d hr hw ?_ (λy hr=>?_) _)
 |(with_reducible refine lp (QjW N _ _ _) hr N ?_ (λex hq hk=>⟨_,_,ex,hq,hk,?_⟩) _;clear hr;(try clear E);rintro n1 st ⟨v3,v4,ex,hr,hk,⟨_,_,E⟩⟩<;>(obtain _|n1:=n1<;>rw[Qbk]at hr))
 |refine⟨_,WK _,_,_,_,hr,hk,?_⟩
 |(with_reducible refine lp (QjX N _ _) hr N ?_ (λex hq hk=>⟨_,ex,hq,hk,?_⟩) _;clear hr;(try clear E);rintro n2 st ⟨v17,ex,hr,hk,⟨_,_,E⟩⟩<;>(obtain _|n2:=n2<;>rw[QbC]at hr))
 |refine⟨_,WK _,_,_,hr,hk,?_⟩
 |(with_reducible refine lp (QiY N _ _) hr N ?_ (λex hq hk=>⟨_,ex,hq,hk,?_⟩) _;clear hr;(try clear E);rintro n1 st ⟨v3,ex,hr,hk,E⟩<;>(obtain _|n1:=n1<;>rw[QaC]at hr))
 |(with_reducible refine lp (QjY N _ _) hr N ?_ (λex hq hk=>⟨_,_,ex,hq,hk,?_⟩) _;clear hr;(try clear E);rintro n1 st ⟨v4,v5,ex,hr,hk,⟨_,_,_,_,E⟩⟩<;>(obtain _|n1:=n1<;>rw[Qch]at hr))
 |(with_reducible refine lp (QiE N _ _) hr N ?_ (λex hq hk=>⟨_,_,ex,hq,hk,?_⟩) _;clear hr;(try clear E);rintro n1 st ⟨v3,v4,ex,hr,hk,⟨_,E⟩⟩<;>(obtain _|n1:=n1<;>rw[Qbo]at hr))
 |(with_reducible refine lp (QjZ N _) hr N ?_ (λex hq hk=>⟨_,_,ex,hq,hk,?_⟩) _;clear hr;(try clear E);rintro n1 st ⟨v4,v5,ex,hr,hk,⟨_,_,E⟩⟩<;>(obtain _|n1:=n1<;>rw[Qcl]at hr))
 |refine dc 128 10 hf 68 [(0,31998,[]),(0,31869,[]),(0,31755,[]),(0,31751,[]),(12,31747,[]),(28,31747,[]),(60,31747,[]),(126,31745,[]),(255,31744,[]),(511,31744,[]),(0,3071,[]),(0,2047,[]),(3072,1023,[]),(7168,1023,[]),(15360,1023,[]),(32767,0,[]),(65535,0,[]),(131071,0,[[1664],[]])] ?_
 |refine dc 128 14 hf 92 [(0,964,[]),(1,964,[]),(0,963,[]),(7,960,[]),(15,960,[]),(31,960,[]),(0,191,[]),(0,127,[]),(192,63,[]),(448,63,[]),(1023,0,[])] ?_
 |refine dc 210 9 hf 7 [(0,962072674305,[[],[448]]),(1,962072674305,[[],[448]]),(0,377957122049,[[],[448]]),(0,240518168577,[[],[448]]),(12,103079215105,[[],[448]]),(31,1,[[],[448]]),(63,1,[[],[448]]),(0,4363686772736,[[448],[]]),(255,0,[[448],[]])] ?_
 |(refine Xu hr ?_;rintro rfl;with_reducible refine X4 ?_)
 |exact Za hr
 |exact Yb hr
 |(apply Yc;assumption)
 |((first|refine XH (c:=true) hr rfl ?_|refine XH (c:=false) hr rfl ?_|refine XH hr ag ?_);intro hr)
 |fail)
abbrev QmD:=g30.1
abbrev QlB:=g30.2.1
abbrev QmE:=g30.2.2.1
abbrev QkT:=g30.2.2.2.1
abbrev QmF:=g30.2.2.2.2
attribute [instance] QmD QlB QmE QkT QmF
end Go.Sx
