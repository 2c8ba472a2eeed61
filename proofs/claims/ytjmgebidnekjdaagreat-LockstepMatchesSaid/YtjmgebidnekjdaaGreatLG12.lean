import Derived.Test.YtjmgebidnekjdaaGreatLG10
import Derived.Test.YtjmgebidnekjdaaGreatLG11
set_option linter.all false
namespace Go.Sx
open Go.Proofs
set_option maxRecDepth 10000
set_option maxHeartbeats 100000000
abbrev Qlt:=λ N a0 a1 p2 (Q:(Ex (List Int × Int) (List Int))→Prop) n (st:St)=>∃ v3 v4 ex,Qbe N a0 a1 p2 n v3 v4=some ex/\Q ex/\((∃ w3904 w128 w384,st.n=70/\st.s 3904=some (w3904,.arr false 76 1 (v4.map e76) 0)/\st.t 1=vi a1/\st.t 2=.ept 128 w128 6 0 0/\st.t 6=.ept 384 w384 4 0 0/\st.t 7=.osl 3904 w3904 1 0 v4.length/\st.t 8=vi v3/\st.s 128=some (w128,.arr true 27 6 [e27 a0] 0)/\st.s 384=some (w384,.arr true 136 4 [Yp p2] 0))\/(∃ w128 w384,(st.n=70/\st.t 1=vi a1/\st.t 2=.ept 128 w128 6 0 0/\st.t 6=.ept 384 w384 4 0 0/\st.t 7=.nsl/\st.t 8=vi v3/\st.s 128=some (w128,.arr true 27 6 [e27 a0] 0)/\st.s 384=some (w384,.arr true 136 4 [Yp p2] 0))/\v4=[]))
abbrev Qkl:=λ N a0 a1 a2 (Q:(Ex Int Unit)→Prop) n (st:St)=>∃ v1 ex,Qbf N a0 a1 a2 n v1=some ex/\Q ex/\((∃ w192,st.n=61/\st.t 1=vi a1/\st.t 2=s76 a2/\st.t 3=.ept 192 w192 6 0 0/\st.t 7=vi v1/\st.s 192=some (w192,.arr true 27 6 [e27 a0] 0)))
abbrev Qlu:=λ N a0 a1 a2 v1 x6 (Q:(List Bool)→Prop) n (st:St)=>∃ v7 v8 ex,Qbv N a0 a1 a2 v1 x6 n v7 v8=some ex/\Q ex/\((∃ w1088 w192,st.n=69/\st.s 1088=some (w1088,.arr false 4 1 (v8.map e4) 0)/\st.t 1=vi a1/\st.t 2=s76 a2/\st.t 3=.ept 192 w192 6 0 0/\st.t 7=.osl 1088 w1088 1 0 v8.length/\st.t 8=vi v1/\st.t 11=vi x6/\st.t 12=vi v7/\st.s 192=some (w192,.arr true 27 6 [e27 a0] 0)))
abbrev Qlv:=λ N a0 a1 a2 (Q:(List Bool)→Prop) n (st:St)=>∃ v1 v2 ex,QcC N a0 a1 a2 n v1 v2=some ex/\Q ex/\((∃ w1088 w192,st.n=69/\st.s 1088=some (w1088,.arr false 4 1 (v2.map e4) 0)/\st.t 1=vi a1/\st.t 2=s76 a2/\st.t 3=.ept 192 w192 6 0 0/\st.t 7=.osl 1088 w1088 1 0 v2.length/\st.t 8=vi v1/\st.s 192=some (w192,.arr true 27 6 [e27 a0] 0)))
abbrev Qmg:=λ N (Q:(Uk × Int)→Prop) n (st:St)=>∃ v1 v2 v3 v4 v5 v6 v7 v8 v9 v10 v11 v12 v13 v14 v15 v16 ex,Qcw N n v1 v2 v3 v4 v5 v6 v7 v8 v9 v10 v11 v12 v13 v14 v15 v16=some ex/\Q ex/\((∃ w64 w128,st.n=21/\st.t 1=.ept 64 w64 16 0 0/\st.t 2=.ept 128 w128 16 0 0/\st.s 64=some (w64,.arr true 216 16 [[vi v1,vi v2,s76 v3,Y3 v4,vi v5,vi v6,s76 v7,s3 v8,s76 v9,vi v10,vi v11,vi v12,vi v13,vi v14,vi v15,vi v16]] 0)/\st.s 128=some (w128,.arr true 216 16 [[vi 0,vi 0,.nsl,.nsl,vi 0,vi 0,.nsl,.nsl,.nsl,vi 0,vi 0,vi 0,vi 0,vi 0,vi 0,vi 0]] 0)))
abbrev Qja:=λ N a0 y2 (Q:(List Int)→Prop) n (st:St)=>∃ v4 v5 ex,QaQ N a0 y2 n v4 v5=some ex/\Q ex/\((∃ w960 w64 w128,st.n=50/\st.s 960=some (w960,.arr false 76 1 (v5.map e76) 0)/\st.t 1=.ept 64 w64 10 0 0/\st.t 2=.ept 128 w128 10 0 0/\st.t 4=s4 y2/\st.t 5=.osl 960 w960 1 0 v5.length/\st.t 6=vi v4/\st.s 64=some (w64,.arr true 42 10 [e42 a0] 0)/\st.s 128=some (w128,.arr true 42 10 [[vi 0,vi 0,.nsl,.nsl,.nsl,.nsl,.nsl,.nsl,.nsl,.nsl]] 0)))
abbrev Qkm:=λ N a0 (Q:(Ex Bool Unit)→Prop) n (st:St)=>∃ v3 ex,Qae N a0 n v3=some ex/\Q ex/\((∃ w64,st.n=83/\st.t 1=.ept 64 w64 6 0 0/\st.t 3=vi v3/\st.s 64=some (w64,.arr true 27 6 [e27 a0] 0)))
abbrev Qgd:=λ N a0 c0 c1 (Q:(Ex Int Unit)→Prop) n (st:St)=>∃ v1 ex,Qaz N a0 c0 c1 n v1=some ex/\Q ex/\((st.n=19/\st.t 0=s3 a0/\st.t 1=.clo (.func 124) [] [.ept 1000000 0 10 0 0,.ept 1000001 0 4 0 0]/\st.t 7=vi a0.length/\st.t 8=vi v1/\st.s 1000000=some (0,.arr true 61 10 [e61 c0] 0)/\st.s 1000001=some (0,.arr true 107 4 [e74 c1] 0)))
def g22:(∀ N a0 a1,OK (Qay N a0 a1) 240 [.agg (e27 a0),vi a1] [] (λ r=>.tup [s76 r.1,vi r.2]) λ r=>[])/\(∀ N a0 a1 a2,OK (Qeo N a0 a1 a2) 259 [.agg (e27 a0),vi a1,s76 a2] [] (λ r=>vu r) λ r=>[])/\(∀ N a0 a1 a2,OK (Qgt N a0 a1 a2) 272 [.agg (e27 a0),vi a1,s76 a2] [] (λ r=>s4 r) λ r=>[])/\(∀ N a0,OK (Qgh N a0) 142 [.agg (KR a0)] [] (λ r=>.tup [.agg (KR r.1),vi r.2]) λ r=>[])/\(∀ N a0,OK (Qdl N a0) 39 [.agg (e42 a0)] [] (λ r=>.tup [.agg (e42 r.1),vi r.2]) λ r=>[])/\(∀ N a0,OK (Qcz N a0) 128 [.agg (e27 a0)] [] (λ r=>.v (.bool r)) λ r=>[])/\(∀ N a0 c0 c1,OK (QbL N a0 c0 c1) 178 [s3 a0,.clo (.func 124) [] [.ept 1000000 0 10 0 0,.ept 1000001 0 4 0 0]] [.arr true 61 10 [[vi c0.Conf.PageWords,vi c0.Conf.Pages,K8 c0.Things,s88 c0.Locals.Slots,s94 c0.Locals.Scopes,s3 c0.Locals.Issued,s90 c0.Globals.Entries,s90 c0.Weaks.Entries,KS c0.Marks,s76 c0.Roots]] 0,.arr true 107 4 [[vi c1.Header.Kind,vi c1.Header.Length,vw c1.Header.Map,s76 c1.Fields]] 0] (λ r=>vi r) λ r=>[.arr true 61 10 [[vi c0.Conf.PageWords,vi c0.Conf.Pages,K8 c0.Things,s88 c0.Locals.Slots,s94 c0.Locals.Scopes,s3 c0.Locals.Issued,s90 c0.Globals.Entries,s90 c0.Weaks.Entries,KS c0.Marks,s76 c0.Roots]] 0,.arr true 107 4 [[vi c1.Header.Kind,vi c1.Header.Length,vw c1.Header.Map,s76 c1.Fields]] 0]):=by
 refine ⟨λ N _ _=>rk Tryz.f240 [.tmp 4,.tmp 5] [] 70 ?_,λ N _ _ _=>rk Tryz.f259 [.tmp 6] [] 61 ?_,λ N _ _ _=>rk Tryz.f272 [.tmp 6] [] 69 ?_,λ N _=>rk Tryz.f142 [.cell 2 216,.tmp 3] [] 21 ?_,λ N _=>rk Tryz.f39 [.cell 2 42,.tmp 3] [] 50 ?_,λ N _=>rk Tryz.f128 [.tmp 2] [] 83 ?_,λ N _ _ _=>rk Tryz.f178 [.tmp 4] [] 19 ?_⟩<;>(rintro _ hw r hr C _ rfl hwf hf;simp only[Tryz.f240,Tryz.f259,Tryz.f272,Tryz.f142,Tryz.f39,Tryz.f128,Tryz.f178,Option.get!];(first|rw[Qay] at hr|rw[Qeo] at hr|rw[Qgt] at hr|rw[Qgh] at hr|rw[Qdl] at hr|rw[Qcz] at hr|rw[QbL] at hr);repeat' first
 |(refine El.el hr ?_;intro hr)
 |(with_reducible intro h;refine Xx hr h ?_;intro hr)
 |with_reducible intro _
 |(refine Xo hr ?_;rintro rfl;have hr:=hk;clear hk)
 |simp only[go_sem,simprocAttr,E,hl3,hl4,XS,XE]
 |(with_reducible first|apply Xh|apply Xg|apply Xr|apply Xt|apply Xu)
 |((first|with_reducible refine Yn hr (by assumption) ?_ ?_|(with_reducible refine Yk hr ?_ ?_;rotate_left;intro p;rotate_right));(·simp only[go_sem,simprocAttr]);intro hp hn hd hr;(try have hl3:=hd _ e3);(try simp only[go_sem,simprocAttr] at hl3);(try have hl4:=hd _ e4);(try simp only[go_sem,simprocAttr] at hl4);(try have XS:=hd _ e76);(try simp only[go_sem,simprocAttr] at XS);(try have XE:=hd _ Yp);(try simp only[go_sem,simprocAttr] at XE))
 |(refine Xs ?_ ?_;·first|assumption|omega)
 |(with_reducible first|refine CallX.c ?_ _|refine OK.c hr hw ?_ (λ y hr=>?_) _|refine Ol hr hw ?_ (λ y hr=>?_) _)
 |(with_reducible refine lp (Qlt N _ _ _) hr N ?_ (λ ex hq hk=>⟨_,_,ex,hq,hk,?_⟩) _;clear hr;(try clear E);rintro n1 st ⟨v3,v4,ex,hr,hk,(⟨_,_,_,E⟩|⟨_,_,E,z0⟩)⟩<;>(try subst z0)<;>(obtain _|n1:=n1<;>rw[Qbe] at hr))
 |refine ⟨_,WH _,_,_,_,hr,hk,?_⟩
 |(with_reducible refine lp (Qkl N _ _ _) hr N ?_ (λ ex hq hk=>⟨_,ex,hq,hk,?_⟩) _;clear hr;(try clear E);rintro n1 st ⟨v1,ex,hr,hk,⟨_,E⟩⟩<;>(obtain _|n1:=n1<;>rw[Qbf] at hr))
 |refine ⟨_,WH _,_,_,hr,hk,?_⟩
 |(with_reducible refine lp (Qlu N _ _ _ _ _) hr N ?_ (λ ex hq hk=>⟨_,_,ex,hq,hk,?_⟩) _;clear hr;(try clear E);rintro n1 st ⟨v7,v8,ex,hr,hk,⟨_,_,E⟩⟩<;>(obtain _|n1:=n1<;>rw[Qbv] at hr))
 |(with_reducible refine lp (Qlv N _ _ _) hr N ?_ (λ ex hq hk=>⟨_,_,ex,hq,hk,?_⟩) _;clear hr;(try clear E);rintro n2 st ⟨v1,v2,ex,hr,hk,⟨_,_,E⟩⟩<;>(obtain _|n2:=n2<;>rw[QcC] at hr))
 |(with_reducible refine lp (Qmg N) hr N ?_ (λ ex hq hk=>⟨_,_,_,_,_,_,_,_,_,_,_,_,_,_,_,_,ex,hq,hk,?_⟩) _;clear hr;(try clear E);rintro n1 st ⟨v1,v2,v3,v4,v5,v6,v7,v8,v9,v10,v11,v12,v13,v14,v15,v16,ex,hr,hk,⟨_,_,E⟩⟩<;>(obtain _|n1:=n1<;>rw[Qcw] at hr))
 |refine ⟨_,WH _,_,_,_,_,_,_,_,_,_,_,_,_,_,_,_,_,_,hr,hk,?_⟩
 |(with_reducible refine lp (Qja N _ _) hr N ?_ (λ ex hq hk=>⟨_,_,ex,hq,hk,?_⟩) _;clear hr;(try clear E);rintro n1 st ⟨v4,v5,ex,hr,hk,⟨_,_,_,E⟩⟩<;>(obtain _|n1:=n1<;>rw[QaQ] at hr))
 |(with_reducible refine lp (Qkm N _) hr N ?_ (λ ex hq hk=>⟨_,ex,hq,hk,?_⟩) _;clear hr;(try clear E);rintro n1 st ⟨v3,ex,hr,hk,⟨_,E⟩⟩<;>(obtain _|n1:=n1<;>rw[Qae] at hr))
 |(with_reducible refine lp (Qgd N _ _ _) hr N ?_ (λ ex hq hk=>⟨_,ex,hq,hk,?_⟩) _;clear hr;(try clear E);rintro n1 st ⟨v1,ex,hr,hk,E⟩<;>(obtain _|n1:=n1<;>rw[Qaz] at hr))
 |refine dc 259 4 hf 8 [(0,30721,[[],[512]]),(0,5121,[[],[512]]),(0,3073,[[],[512]]),(6,1025,[[],[512]]),(14,1025,[[],[512]]),(31,1,[[],[512]]),(63,1,[[],[512]]),(127,131073,[[],[512]]),(127,65537,[[],[512]]),(0,261632,[[512],[]]),(767,131072,[[512],[]]),(2047,0,[])] ?_
 |refine dc 259 5 hf 26 [(0,12,[]),(1,12,[]),(0,3,[]),(4,3,[]),(15,0,[]),(31,0,[]),(63,0,[])] ?_
 |refine dc 272 5 hf 9 [(0,1966081,[[],[576]]),(0,327681,[[],[576]]),(0,196609,[[],[576]]),(6,65537,[[],[576]]),(14,65537,[[],[576]]),(31,1,[[],[576]]),(63,1,[[],[576]]),(127,8388609,[[],[576]]),(127,4194305,[[],[576]]),(0,16744448,[[576],[]]),(767,8388608,[[576],[]]),(2047,0,[])] ?_
 |refine dc 272 12 hf 43 [(0,8002,[]),(0,8001,[]),(3,8000,[]),(7,8000,[]),(15,8000,[]),(31,8000,[]),(0,7999,[]),(127,7936,[]),(0,3839,[]),(0,511,[]),(512,511,[]),(1536,511,[]),(3840,255,[]),(8191,0,[]),(16383,0,[])] ?_
 |(refine Xo hr ?_;rintro rfl;with_reducible refine XP ?_)
 |exact Yw hr
 |exact XV hr
 |(apply XW;assumption)
 |((first|refine Xx (c:=true) hr rfl ?_|refine Xx (c:=false) hr rfl ?_|refine Xx hr (by assumption) ?_);intro hr)
 |fail)
abbrev Qop:=g22.1
abbrev Qnf:=g22.2.1
abbrev Qoq:=g22.2.2.1
abbrev QoR:=g22.2.2.2.1
abbrev Qlw:=g22.2.2.2.2.1
abbrev Qng:=g22.2.2.2.2.2.1
abbrev QgM:=g22.2.2.2.2.2.2
attribute [instance] Qop Qnf Qoq QoR Qlw Qng QgM
def g21:(∀ N a0 a1,OK (Qbn N a0 a1) 80 [.agg (e27 a0),vu a1] [] (λ r=>.tup [.agg (e72 r.1),vi r.2]) λ r=>[])/\(∀ N a0 a1,OK (Qeu N a0 a1) 215 [.agg (e27 a0),.agg (e72 a1)] [] (λ r=>.tup [.agg (e27 r.1),vu r.2.1,vi r.2.2]) λ r=>[])/\(∀ N a0 a1,OK (Qev N a0 a1) 223 [.agg (e42 a0),vu a1] [] (λ r=>.tup [vu r.1,vi r.2]) λ r=>[])/\(∀ N a0 a1 a2,OK (QfP N a0 a1 a2) 165 [.agg (e42 a0),vi a1,vu a2] [] (λ r=>vi r) λ r=>[])/\(∀ N a0 a1 a2,OK (Qgk N a0 a1 a2) 167 [.agg (e42 a0),vi a1,vu a2] [] (λ r=>vi r) λ r=>[])/\(∀ N a0 c0,OK (QaS N a0 c0) 118 [s76 a0,.clo (.func 119) [] [.ept 1000000 0 1 0 0]] [.arr true 24 1 [[s76 c0]] 0] (λ r=>.v (.bool r)) λ r=>[.arr true 24 1 [[s76 c0]] 0])/\(∀ N a0,OK (Qhb N a0) 51 [.agg (e38 a0)] [] (λ r=>s76 r) λ r=>[]):=by
 refine ⟨λ N _ _=>rk Tryz.f80 [.cell 4 72,.tmp 5] [] 31 ?_,λ N _ _=>rk Tryz.f215 [.cell 4 27,.tmp 5,.tmp 6] [] 58 ?_,λ N _ _=>rk Tryz.f223 [.tmp 4,.tmp 5] [] 22 ?_,λ N _ _ _=>rk Tryz.f165 [.tmp 6] [] 36 ?_,λ N _ _ _=>rk Tryz.f167 [.tmp 6] [] 46 ?_,λ N _ _=>rk Tryz.f118 [.tmp 4] [] 9 ?_,λ N _=>rk Tryz.f51 [.tmp 2] [] 15 ?_⟩<;>(rintro _ hw r hr C _ rfl hwf hf;simp only[Tryz.f80,Tryz.f215,Tryz.f223,Tryz.f165,Tryz.f167,Tryz.f118,Tryz.f51,Option.get!];(first|rw[Qbn] at hr|rw[Qeu] at hr|rw[Qev] at hr|rw[QfP] at hr|rw[Qgk] at hr|rw[QaS] at hr|rw[Qhb] at hr);repeat' first
 |(refine El.el hr ?_;intro hr)
 |(with_reducible intro h;refine Xx hr h ?_;intro hr)
 |with_reducible intro _
 |simp only[go_sem,simprocAttr]
 |(with_reducible first|apply Xh|apply Xg|apply Xr|apply Xt|apply Xu)
 |(refine Xs ?_ ?_;·first|assumption|omega)
 |(with_reducible first|refine CallX.c ?_ _|refine OK.c hr hw ?_ (λ y hr=>?_) _|refine Ol hr hw ?_ (λ y hr=>?_) _)
 |refine dc 51 1 hf 3 [(0,1020,[]),(1,1020,[]),(0,355,[]),(4,355,[]),(12,355,[]),(0,287,[]),(32,287,[]),(124,259,[]),(0,255,[]),(508,3,[]),(1023,0,[[832],[]]),(2047,0,[[832],[]]),(4095,0,[])] ?_
 |(refine Xo hr ?_;rintro rfl;with_reducible refine XP ?_)
 |exact Yw hr
 |exact XV hr
 |(apply XW;assumption)
 |fail)
abbrev QoS:=g21.1
abbrev QoT:=g21.2.1
abbrev Qnh:=g21.2.2.1
abbrev Qlx:=g21.2.2.2.1
abbrev Qmh:=g21.2.2.2.2.1
abbrev Qfh:=g21.2.2.2.2.2.1
abbrev Qor:=g21.2.2.2.2.2.2
attribute [instance] QoS QoT Qnh Qlx Qmh Qfh Qor
end Go.Sx
