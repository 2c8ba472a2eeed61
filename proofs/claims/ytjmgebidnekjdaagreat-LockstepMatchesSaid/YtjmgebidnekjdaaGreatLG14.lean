import Derived.Test.YtjmgebidnekjdaaGreatLG13
set_option linter.all false
namespace Go.Sx
open Go.Proofs
set_option maxRecDepth 10000
set_option maxHeartbeats 100000000
abbrev Qjb:=λ N a0 y1 (Q:(List Int)→Prop) n (st:St)=>∃ v2 v3 ex,QaC N a0 y1 n v2 v3=some ex/\Q ex/\((∃ w2496 w64,st.n=42/\st.s 2496=some (w2496,.arr false 76 1 (v3.map e76) 0)/\st.t 1=.ept 64 w64 6 0 0/\st.t 4=s76 y1.1/\st.t 5=vi y1.2/\st.t 6=.osl 2496 w2496 1 0 v3.length/\st.t 7=vi v2/\st.s 64=some (w64,.arr true 27 6 [e27 a0] 0))\/(∃ w64,(st.n=42/\st.t 1=.ept 64 w64 6 0 0/\st.t 4=s76 y1.1/\st.t 5=vi y1.2/\st.t 6=.nsl/\st.t 7=vi v2/\st.s 64=some (w64,.arr true 27 6 [e27 a0] 0))/\v3=[]))
abbrev Qkn:=λ N a0 a1 a2 (Q:(Ex (Int × Bool) Unit)→Prop) n (st:St)=>∃ v1 ex,Qcl N a0 a1 a2 n v1=some ex/\Q ex/\((∃ w192,st.n=58/\st.t 1=vi a1/\st.t 3=.ept 192 w192 6 0 0/\st.t 13=s76 a2/\st.t 14=vi a2.length/\st.t 15=vi v1/\st.s 192=some (w192,.arr true 27 6 [e27 a0] 0)))
abbrev Qko:=λ N y1 p2 y3 (Q:(Ex (List Int × List Int × Bool) (List Int × List Int))→Prop) n (st:St)=>∃ v4 v5 v6 ex,QcS N y1 p2 y3 n v4 v5 v6=some ex/\Q ex/\((∃ w3776 w4288 w576 w704,st.n=80/\st.s 3776=some (w3776,.arr false 76 1 (v5.map e76) 0)/\st.s 4288=some (w4288,.arr false 76 1 (v6.map e76) 0)/\st.t 9=.ept 576 w576 3 0 0/\st.t 11=.ept 704 w704 4 0 0/\st.t 12=s76 y3.1/\st.t 14=.osl 3776 w3776 1 0 v5.length/\st.t 15=.osl 4288 w4288 1 0 v6.length/\st.t 16=vi v4/\st.s 576=some (w576,.arr true 72 3 [e72 y1.1] 0)/\st.s 704=some (w704,.arr true 74 4 [e74 p2] 0))\/(∃ w4288 w576 w704,(st.n=80/\st.s 4288=some (w4288,.arr false 76 1 (v6.map e76) 0)/\st.t 9=.ept 576 w576 3 0 0/\st.t 11=.ept 704 w704 4 0 0/\st.t 12=s76 y3.1/\st.t 14=.nsl/\st.t 15=.osl 4288 w4288 1 0 v6.length/\st.t 16=vi v4/\st.s 576=some (w576,.arr true 72 3 [e72 y1.1] 0)/\st.s 704=some (w704,.arr true 74 4 [e74 p2] 0))/\v5=[])\/(∃ w3776 w576 w704,(st.n=80/\st.s 3776=some (w3776,.arr false 76 1 (v5.map e76) 0)/\st.t 9=.ept 576 w576 3 0 0/\st.t 11=.ept 704 w704 4 0 0/\st.t 12=s76 y3.1/\st.t 14=.osl 3776 w3776 1 0 v5.length/\st.t 15=.nsl/\st.t 16=vi v4/\st.s 576=some (w576,.arr true 72 3 [e72 y1.1] 0)/\st.s 704=some (w704,.arr true 74 4 [e74 p2] 0))/\v6=[])\/(∃ w576 w704,(st.n=80/\st.t 9=.ept 576 w576 3 0 0/\st.t 11=.ept 704 w704 4 0 0/\st.t 12=s76 y3.1/\st.t 14=.nsl/\st.t 15=.nsl/\st.t 16=vi v4/\st.s 576=some (w576,.arr true 72 3 [e72 y1.1] 0)/\st.s 704=some (w704,.arr true 74 4 [e74 p2] 0))/\v5=[]/\v6=[]))
def g26:(∀ N a0,OK (Qaq N a0) 132 [.agg (e27 a0)] [] (λ r=>.tup [s76 r.1,vi r.2]) λ r=>[])/\(∀ N a0 a1 a2,OK (Qf3 N a0 a1 a2) 253 [.agg (e27 a0),vi a1,s76 a2] [] (λ r=>.tup [vu r.1,.v (.bool r.2)]) λ r=>[])/\(∀ N a0 a1 a2,OK (Qfd N a0 a1 a2) 34 [.agg (e38 a0),.agg (e42 a1),.agg (Xbq a2)] [] (λ r=>.tup [s76 r.1,s76 r.2.1,.v (.bool r.2.2)]) λ r=>[]):=by
 refine ⟨λ N _=>rk Tryz.f132 [.tmp 2,.tmp 3] [] 42 ?_,λ N _ _ _=>rk Tryz.f253 [.tmp 6,.tmp 7] [] 58 ?_,λ N _ _ _=>rk Tryz.f34 [.tmp 6,.tmp 7,.tmp 8] [] 80 ?_⟩<;>(rintro _ hw r hr C _ rfl hwf hf;simp only[Tryz.f132,Tryz.f253,Tryz.f34,Option.get!];(first|rw[Qaq] at hr|rw[Qf3] at hr|rw[Qfd] at hr);repeat' first
 |(refine El.el hr ?_;intro hr)
 |(with_reducible intro h;refine Xx hr h ?_;intro hr)
 |with_reducible intro _
 |(refine Xo hr ?_;rintro rfl;have hr:=hk;clear hk)
 |simp only[go_sem,simprocAttr,E,Z6,XS,XE]
 |(with_reducible first|apply Xh|apply Xg|apply Xr|apply Xt|apply Xu)
 |((first|with_reducible refine Yn hr (by assumption) ?_ ?_|(with_reducible refine Yk hr ?_ ?_;rotate_left;intro p;rotate_right));(·simp only[go_sem,simprocAttr]);intro hp hn hd hr;(try have Z6:=hd _ e74);(try simp only[go_sem,simprocAttr] at Z6);(try have XS:=hd _ e76);(try simp only[go_sem,simprocAttr] at XS);(try have XE:=hd _ Yp);(try simp only[go_sem,simprocAttr] at XE))
 |(refine Xs ?_ ?_;·first|assumption|omega)
 |(with_reducible first|refine CallX.c ?_ _|refine OK.c hr hw ?_ (λ y hr=>?_) _|refine Ol hr hw ?_ (λ y hr=>?_) _)
 |(with_reducible refine lp (Qjb N _ _) hr N ?_ (λ ex hq hk=>⟨_,_,ex,hq,hk,?_⟩) _;clear hr;(try clear E);rintro n1 st ⟨v2,v3,ex,hr,hk,(⟨_,_,E⟩|⟨_,E,z0⟩)⟩<;>(try subst z0)<;>(obtain _|n1:=n1<;>rw[QaC] at hr))
 |refine ⟨_,WH _,_,_,_,hr,hk,?_⟩
 |(with_reducible refine lp (Qkn N _ _ _) hr N ?_ (λ ex hq hk=>⟨_,ex,hq,hk,?_⟩) _;clear hr;(try clear E);rintro n1 st ⟨v1,ex,hr,hk,⟨_,E⟩⟩<;>(obtain _|n1:=n1<;>rw[Qcl] at hr))
 |refine ⟨_,WH _,_,_,hr,hk,?_⟩
 |(with_reducible refine lp (Qko N _ _ _) hr N ?_ (λ ex hq hk=>⟨_,_,_,ex,hq,hk,?_⟩) _;clear hr;(try clear E);rintro n1 st ⟨v4,v5,v6,ex,hr,hk,(⟨_,_,_,_,E⟩|⟨_,_,_,E,z0⟩|⟨_,_,_,E,z0⟩|⟨_,_,E,z0,z1⟩)⟩<;>(try subst z0)<;>(try subst z1)<;>(obtain _|n1:=n1<;>rw[QcS] at hr))
 |refine ⟨_,WH _,_,_,_,_,hr,hk,?_⟩
 |refine dc 132 6 hf 8 [(0,491521,[[],[512]]),(0,81921,[[],[512]]),(0,49153,[[],[512]]),(6,16385,[[],[512]]),(14,16385,[[],[512]]),(31,1,[[],[512]]),(63,1,[[],[512]]),(127,2097153,[[],[512]]),(127,1048577,[[],[512]]),(0,4186112,[[512],[]]),(767,2097152,[[512],[]]),(2047,0,[])] ?_
 |refine dc 253 5 hf 25 [(0,12,[]),(1,12,[]),(0,3,[]),(4,3,[]),(15,0,[]),(31,0,[]),(63,0,[])] ?_
 |refine dc 34 11 hf 53 [(0,16318,[[],[3712,4224]]),(0,16261,[[],[4224]]),(0,16259,[[],[4224]]),(6,16257,[[],[4224]]),(14,16257,[[],[4224]]),(30,16257,[[3712],[4224]]),(63,16256,[[3776],[4224]]),(0,16255,[[],[3712,3776,4224]]),(0,1279,[[],[3712,3776]]),(256,1279,[[],[3712,3776]]),(0,1023,[[],[3712,3776]]),(1792,255,[[],[3712,3776]]),(3840,255,[[],[3712,3776]]),(7936,255,[[4224],[3712,3776]]),(16383,0,[[4288],[]]),(32767,0,[]),(65535,0,[])] ?_
 |refine dc 34 12 hf 68 [(0,498,[]),(0,497,[]),(3,496,[]),(7,496,[]),(0,79,[]),(16,79,[]),(0,63,[]),(112,15,[]),(240,15,[]),(511,0,[])] ?_
 |(refine Xo hr ?_;rintro rfl;with_reducible refine XP ?_)
 |exact Yw hr
 |exact XV hr
 |(apply XW;assumption)
 |((first|refine Xx (c:=true) hr rfl ?_|refine Xx (c:=false) hr rfl ?_|refine Xx hr (by assumption) ?_);intro hr)
 |fail)
abbrev Qlz:=g26.1
abbrev Qnl:=g26.2.1
abbrev Qnm:=g26.2.2
attribute [instance] Qlz Qnl Qnm
def g25:(∀ N a0 a1,OK (QeY N a0 a1) 238 [.agg (e27 a0),vi a1] [] (λ r=>.agg (XoN r)) λ r=>[])/\(∀ N a0 a1 a2 a3,OK (QbC N a0 a1 a2 a3) 154 [.agg (e27 a0),vu a1,vi a2,vu a3] [] (λ r=>.tup [.agg (e27 r.1),vi r.2]) λ r=>[])/\(∀ N a0 a1 a2 a3 a4 a5,OK (QfQ N a0 a1 a2 a3 a4 a5) 97 [.agg (e42 a0),vi a1,vu a2,vu a3,vu a4,.v (.bool a5)] [] (λ r=>vi r) λ r=>[])/\(∀ N a0 a1,OK (QdX N a0 a1) 53 [.agg (e61 a0),.agg (XeG a1)] [] (λ r=>.v (.bool r)) λ r=>[])/\(∀ N a0 a1,OK (Qe5 N a0 a1) 61 [.agg (e27 a0),vu a1] [] (λ r=>.tup [.agg (e72 r.1),vi r.2]) λ r=>[]):=by
 refine ⟨λ N _ _=>rk Tryz.f238 [.cell 4 284] [] 57 ?_,λ N _ _ _ _=>rk Tryz.f154 [.cell 8 27,.tmp 9] [] 37 ?_,λ N _ _ _ _ _ _=>rk Tryz.f97 [.tmp 12] [] 78 ?_,λ N _ _=>rk Tryz.f53 [.tmp 4] [] 30 ?_,λ N _ _=>rk Tryz.f61 [.cell 4 72,.tmp 5] [] 32 ?_⟩<;>(rintro _ hw r hr C _ rfl hwf hf;simp only[Tryz.f238,Tryz.f154,Tryz.f97,Tryz.f53,Tryz.f61,Option.get!];(first|rw[QeY] at hr|rw[QbC] at hr|rw[QfQ] at hr|rw[QdX] at hr|rw[Qe5] at hr);repeat' first
 |(refine El.el hr ?_;intro hr)
 |(with_reducible intro h;refine Xx hr h ?_;intro hr)
 |with_reducible intro _
 |simp only[go_sem,simprocAttr,XE]
 |(with_reducible first|apply Xh|apply Xg|apply Xr|apply Xt|apply Xu)
 |((first|with_reducible refine Yn hr (by assumption) ?_ ?_|(with_reducible refine Yk hr ?_ ?_;rotate_left;intro p;rotate_right));(·simp only[go_sem,simprocAttr]);intro hp hn hd hr;(try have XE:=hd _ Yp);(try simp only[go_sem,simprocAttr] at XE))
 |(refine Xs ?_ ?_;·first|assumption|omega)
 |(with_reducible first|refine CallX.c ?_ _|refine OK.c hr hw ?_ (λ y hr=>?_) _)
 |refine dc 238 1 hf 9 [(0,4,[]),(1,4,[]),(0,3,[]),(7,0,[]),(15,0,[]),(31,0,[]),(63,0,[]),(127,0,[]),(255,50176,[]),(511,50176,[]),(255,49920,[]),(2047,49152,[]),(4095,49152,[]),(8191,49152,[]),(255,16128,[]),(16639,16128,[]),(65535,0,[]),(131071,0,[])] ?_
 |(refine Xo hr ?_;rintro rfl;with_reducible refine XP ?_)
 |exact Yw hr
 |exact XV hr
 |(apply XW;assumption)
 |fail)
abbrev Qou:=g25.1
abbrev Qkp:=g25.2.1
abbrev QlA:=g25.2.2.1
abbrev Qiq:=g25.2.2.2.1
abbrev Qov:=g25.2.2.2.2
attribute [instance] Qou Qkp QlA Qiq Qov
end Go.Sx
