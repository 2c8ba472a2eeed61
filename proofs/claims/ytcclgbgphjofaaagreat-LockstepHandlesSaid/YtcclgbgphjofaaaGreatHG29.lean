import Derived.Test.YtcclgbgphjofaaaGreatHG28
set_option linter.all false
namespace Go.Sx
open Go.Proofs
set_option maxRecDepth 10000
set_option maxHeartbeats 100000000
abbrev Qg8:=λN f g (Q:(Ex Bool (List Int))→Prop) n (st:St)=>∃h d e i,Qa8 N f g n h d e=some i/\Q i/\((∃b c a,st.n=91/\st.s 3456=some (b,.arr false 55 1 (d.map e55) 0)/\st.s 3968=some (c,.arr false 55 1 (e.map e55) 0)/\st.t 3=.ept 192 a 24 0 0/\st.t 4=s57 g.1/\st.t 6=.osl 3456 b 1 0 d.length/\st.t 7=.osl 3968 c 1 0 e.length/\st.t 8=vi h/\st.s 192=some (a,.arr true 44 24 [e44 f] 0))\/(∃c a,(st.n=91/\st.s 3968=some (c,.arr false 55 1 (e.map e55) 0)/\st.t 3=.ept 192 a 24 0 0/\st.t 4=s57 g.1/\st.t 6=.nsl/\st.t 7=.osl 3968 c 1 0 e.length/\st.t 8=vi h/\st.s 192=some (a,.arr true 44 24 [e44 f] 0))/\d=[])\/(∃b a,(st.n=91/\st.s 3456=some (b,.arr false 55 1 (d.map e55) 0)/\st.t 3=.ept 192 a 24 0 0/\st.t 4=s57 g.1/\st.t 6=.osl 3456 b 1 0 d.length/\st.t 7=.nsl/\st.t 8=vi h/\st.s 192=some (a,.arr true 44 24 [e44 f] 0))/\e=[])\/(∃a,(st.n=91/\st.t 3=.ept 192 a 24 0 0/\st.t 4=s57 g.1/\st.t 6=.nsl/\st.t 7=.nsl/\st.t 8=vi h/\st.s 192=some (a,.arr true 44 24 [e44 f] 0))/\d=[]/\e=[]))
abbrev Qg9:=λN c a (Q:(Ex Bool Unit)→Prop) n (st:St)=>∃d e,QaN N c a n d=some e/\Q e/\((∃b,st.n=91/\st.s 3456=some (b,.arr false 55 1 (c.map e55) 0)/\st.t 6=.osl 3456 b 1 0 c.length/\st.t 9=s55 a.1/\st.t 10=vi a.2/\st.t 11=vi d)\/((st.n=91/\st.t 6=.nsl/\st.t 9=s55 a.1/\st.t 10=vi a.2/\st.t 11=vi d)/\c=[]))
instance QnE:∀N a0,OK (QcO N a0) 3 [s3 a0] [] (λr=>.v (.bool r)) λr=>[]:=by
 refineλN _=>rk Tryz.f3 ?_<;>(rintro _ hw r hr C _ rfl hwf hf;simp only[Tryz.f3,Option.get!];(rw[QcO]at hr);repeat' first
 |(refine El.el hr ?_;intro hr)
 |(with_reducible intro h;refine XH hr h ?_;intro hr)
 |with_reducible intro _
 |(refine Xu hr ?_;rintro rfl;have hr:=hk;clear hk)
 |simp only[go_sem,simprocAttr,E,X2,XiS]
 |(with_reducible first|apply Xk|apply Xj|apply XA|apply XF|apply XG)
 |((first|with_reducible refine Y1 hr ag ?_ ?_|(with_reducible refine YN hr ?_ ?_;rotate_left;intro p;rotate_right));(·simp only[go_sem,simprocAttr]);intro hp hn hd hr;(try have X2:=hd _ e55);(try simp only[go_sem,simprocAttr]at X2);(try have XiS:=hd _ e57);(try simp only[go_sem,simprocAttr]at XiS))
 |(refine XB ?_ ?_;.first|assumption|omega)
 |(with_reducible first|refine CallX.c ?_ _|refine OK.c hr hw ?_ (λy hr=>?_) _|refine OK.d hr hw ?_ (λy hr=>?_) _)
 |(with_reducible refine lp (Qg8 N _ _) hr N ?_ (λex hq hk=>⟨_,_,_,ex,hq,hk,?_⟩) _;clear hr;(try clear E);rintro n1 st ⟨v4,v5,v6,ex,hr,hk,(⟨_,_,_,E⟩|⟨_,_,E,z0⟩|⟨_,_,E,z0⟩|⟨_,E,z0,z1⟩)⟩<;>(try subst z0)<;>(try subst z1)<;>(obtain _|n1:=n1<;>rw[Qa8]at hr))
 |refine⟨_,WK _,_,_,_,_,hr,hk,?_⟩
 |(with_reducible refine lp (Qg9 N _ _) hr N ?_ (λex hq hk=>⟨_,ex,hq,hk,?_⟩) _;clear hr;(try clear E);rintro n2 st ⟨v16,ex,hr,hk,(⟨_,E⟩|⟨E,z0⟩)⟩<;>(try subst z0)<;>(obtain _|n2:=n2<;>rw[QaN]at hr))
 |refine⟨_,WK _,_,_,hr,hk,?_⟩
 |refine dc 3 2 hf 4 [(0,57344,[]),(1,57344,[]),(0,6144,[]),(4,6144,[]),(12,6144,[]),(31,0,[]),(63,0,[]),(127,262144,[]),(127,131073,[]),(255,262144,[]),(1023,0,[])] ?_
 |refine dc 3 11 hf 47 [(0,32638,[[],[3392,3904]]),(0,32517,[[],[3904]]),(0,32515,[[],[3904]]),(6,32513,[[],[3904]]),(14,32513,[[],[3904]]),(30,32513,[[],[3904]]),(62,32513,[[3392],[3904]]),(127,32512,[[3456],[3904]]),(0,32511,[[],[3392,3456,3904]]),(0,1535,[[],[3392,3456]]),(0,1023,[[],[3392,3456]]),(1536,511,[[],[3392,3456]]),(3584,511,[[],[3392,3456]]),(7680,511,[[],[3392,3456]]),(15872,511,[[3904],[3392,3456]]),(32767,0,[[3968],[]]),(65535,0,[]),(131071,0,[])] ?_
 |refine dc 3 12 hf 9 [(0,2017612633061982208,[]),(1,2017612633061982208,[]),(3,2017612633061982208,[]),(0,252201579132747776,[]),(8,252201579132747776,[]),(24,252201579132747776,[]),(63,0,[]),(127,0,[]),(255,9223372036854775808,[]),(255,4611686018427387905,[]),(511,9223372036854775808,[]),(2047,0,[])] ?_
 |(refine Xu hr ?_;rintro rfl;with_reducible refine X4 ?_)
 |exact Za hr
 |exact Yb hr
 |(apply Yc;assumption)
 |((first|refine XH (c:=true) hr rfl ?_|refine XH (c:=false) hr rfl ?_|refine XH hr ag ?_);intro hr)
 |fail)
end Go.Sx
