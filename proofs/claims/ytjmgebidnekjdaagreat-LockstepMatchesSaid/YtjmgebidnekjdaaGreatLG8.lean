import Derived.Test.YtjmgebidnekjdaaGreatLG6
import Derived.Test.YtjmgebidnekjdaaGreatLG7
set_option linter.all false
namespace Go.Sx
open Go.Proofs
set_option maxRecDepth 10000
set_option maxHeartbeats 100000000
abbrev Qjq:=λ N a0 (Q:(Ex Bool Unit)→Prop) n (st:St)=>∃ v3 v4 ex,Qau N a0 n v3 v4=some ex/\Q ex/\((∃ w64,st.n=157/\st.t 1=.ept 64 w64 6 0 0/\st.t 3=vi v3/\st.t 4=vi v4/\st.s 64=some (w64,.arr true 27 6 [e27 a0] 0)))
abbrev Qi6:=λ N a0 a1 (Q:(List WM)→Prop) n (st:St)=>∃ v10 v11 ex,Qdv N a0 a1 n v10 v11=some ex/\Q ex/\((∃ w5760 w128 w256,st.n=202/\st.s 5760=some (w5760,.arr false 136 4 (v11.map Yp) 0)/\st.t 1=vu a1/\st.t 2=.ept 128 w128 16 0 0/\st.t 4=.ept 256 w256 16 0 0/\st.t 14=vi v10/\st.s 128=some (w128,.arr true 216 16 [[vi a0.Heap.Conf.PageWords,vi a0.Heap.Conf.Pages,s76 a0.Heap.Words,.osl 5760 w5760 4 0 v11.length,vi a0.Heap.Space,vi a0.Heap.Bump,s76 a0.Old,s3 a0.Taken,s76 a0.Queue,vi a0.Scanned,vi a0.Report.Copied,vi a0.Report.Kept,vi a0.Report.Filled,vi a0.Report.Freed,vi a0.Report.Cleared,vi a0.Report.Steps]] 0)/\st.s 256=some (w256,.arr true 216 16 [[vi 0,vi 0,.nsl,.nsl,vi 0,vi 0,.nsl,.nsl,.nsl,vi 0,vi 0,vi 0,vi 0,vi 0,vi 0,vi 0]] 0)))
abbrev Qjr:=λ N a0 (Q:(List Int)→Prop) n (st:St)=>∃ v3 v4 ex,Qa3 N a0 n v3 v4=some ex/\Q ex/\((∃ w320 w64,st.n=35/\st.s 320=some (w320,.arr false 76 1 (v4.map e76) 0)/\st.t 1=.ept 64 w64 13 0 0/\st.t 3=.osl 320 w320 1 0 v4.length/\st.t 4=vi v3/\st.s 64=some (w64,.arr true 38 13 [e38 a0] 0)))
abbrev Qlj:=λ N a0 a1 (Q:(Ex (WD × Int) (List U1))→Prop) n (st:St)=>∃ v3 v4 v5 ex,Qbi N a0 a1 n v3 v4 v5=some ex/\Q ex/\((∃ w1280 w128 w256,st.n=57/\st.s 1280=some (w1280,.arr false 88 3 (v5.map e88) 0)/\st.t 1=s76 a1/\st.t 2=.ept 128 w128 3 0 0/\st.t 4=.ept 256 w256 3 0 0/\st.t 6=vi v3/\st.t 7=vi v4/\st.s 128=some (w128,.arr true 32 3 [[.osl 1280 w1280 3 0 v5.length,s94 a0.Scopes,s3 a0.Issued]] 0)/\st.s 256=some (w256,.arr true 32 3 [[.nsl,.nsl,.nsl]] 0)))
abbrev Qkf:=λ N a0 (Q:(Ex Bool Unit)→Prop) n (st:St)=>∃ v5 ex,Qdw N a0 n v5=some ex/\Q ex/\((∃ w64,st.n=154/\st.t 1=.ept 64 w64 10 0 0/\st.t 3=vi v5/\st.s 64=some (w64,.arr true 42 10 [e42 a0] 0)))
abbrev Qkg:=λ N a0 y11 (Q:(Ex Bool Unit)→Prop) n (st:St)=>∃ v12 ex,Qdx N a0 y11 n v12=some ex/\Q ex/\((∃ w4928 w64,st.n=154/\st.s 4928=some (w4928,.arr false 76 1 (y11.map e76) 0)/\st.t 1=.ept 64 w64 10 0 0/\st.t 5=.osl 4928 w4928 1 0 y11.length/\st.t 6=vi v12/\st.s 64=some (w64,.arr true 42 10 [e42 a0] 0)))
abbrev Qkh:=λ N a0 y11 (Q:(Ex Bool Unit)→Prop) n (st:St)=>∃ v15 ex,Qdy N a0 y11 n v15=some ex/\Q ex/\((∃ w4928 w64,st.n=154/\st.s 4928=some (w4928,.arr false 76 1 (y11.map e76) 0)/\st.t 1=.ept 64 w64 10 0 0/\st.t 5=.osl 4928 w4928 1 0 y11.length/\st.t 7=vi v15/\st.s 64=some (w64,.arr true 42 10 [e42 a0] 0)))
abbrev Qjs:=λ N a0 (Q:(List Int)→Prop) n (st:St)=>∃ v3 v4 ex,QdZ N a0 n v3 v4=some ex/\Q ex/\((∃ w320 w64,st.n=35/\st.s 320=some (w320,.arr false 76 1 (v4.map e76) 0)/\st.t 1=.ept 64 w64 10 0 0/\st.t 3=.osl 320 w320 1 0 v4.length/\st.t 4=vi v3/\st.s 64=some (w64,.arr true 42 10 [e42 a0] 0)))
abbrev Qio:=λ N a0 y1 (Q:(List Int)→Prop) n (st:St)=>∃ v2 v3 ex,Qb7 N a0 y1 n v2 v3=some ex/\Q ex/\((∃ w1024 w64,st.n=19/\st.s 1024=some (w1024,.arr false 3 1 (v3.map e3) 0)/\st.t 1=.ept 64 w64 3 0 0/\st.t 3=.osl 1024 w1024 1 0 v3.length/\st.t 6=vi y1/\st.t 7=vi v2/\st.s 64=some (w64,.arr true 72 3 [e72 a0] 0))\/(∃ w64,(st.n=19/\st.t 1=.ept 64 w64 3 0 0/\st.t 3=.nsl/\st.t 6=vi y1/\st.t 7=vi v2/\st.s 64=some (w64,.arr true 72 3 [e72 a0] 0))/\v3=[]))
abbrev Qki:=λ N a0 (Q:(Ex Bool Unit)→Prop) n (st:St)=>∃ v4 ex,QdC N a0 n v4=some ex/\Q ex/\((∃ w192,st.n=41/\st.t 3=.ept 192 w192 3 0 0/\st.t 27=s94 a0.Scopes/\st.t 28=vi a0.Scopes.length/\st.t 29=vi v4/\st.s 192=some (w192,.arr true 195 3 [e32 a0] 0)))
abbrev Qjt:=λ N a0 (Q:(List Int)→Prop) n (st:St)=>∃ v4 v5 ex,Qdd N a0 n v4 v5=some ex/\Q ex/\((∃ w320 w64,st.n=39/\st.s 320=some (w320,.arr false 76 1 (v5.map e76) 0)/\st.t 1=.ept 64 w64 13 0 0/\st.t 3=.osl 320 w320 1 0 v5.length/\st.t 4=vi v4/\st.s 64=some (w64,.arr true 38 13 [e38 a0] 0)))
abbrev Qkj:=λ N a0 (Q:(List Int)→Prop) n (st:St)=>∃ v4 v5 ex,QdG N a0 n v4 v5=some ex/\Q ex/\((∃ w320 w64,st.n=39/\st.s 320=some (w320,.arr false 76 1 (v5.map e76) 0)/\st.t 1=.ept 64 w64 10 0 0/\st.t 3=.osl 320 w320 1 0 v5.length/\st.t 4=vi v4/\st.s 64=some (w64,.arr true 42 10 [e42 a0] 0)))
def g18:(∀ N a0,OK (Qab N a0) 137 [.agg (e27 a0)] [] (λ r=>.v (.bool r)) λ r=>[])/\(∀ N a0 a1,OK (Qdk N a0 a1) 208 [.agg (KR a0),vu a1] [] (λ r=>.tup [.agg (KR r.1),vu r.2.1,vi r.2.2]) λ r=>[])/\(∀ N a0,OK (QeE N a0) 85 [.agg (e38 a0)] [] (λ r=>s76 r) λ r=>[])/\(∀ N a0 a1,OK (Qej N a0 a1) 86 [.agg (e32 a0),s76 a1] [] (λ r=>.tup [.agg (e32 r.1),vi r.2]) λ r=>[])/\(∀ N a0,OK (QdK N a0) 29 [.agg (e42 a0)] [] (λ r=>.v (.bool r)) λ r=>[])/\(∀ N a0,OK (Qgi N a0) 146 [.agg (e42 a0)] [] (λ r=>.fsl 76 1 (r.map e76)) λ r=>[])/\(∀ N a0,OK (Qd0 N a0) 123 [.agg (e72 a0)] [] (λ r=>s3 r) λ r=>[])/\(∀ N a0,OK (Qfb N a0) 45 [.agg (e32 a0)] [] (λ r=>.v (.bool r)) λ r=>[])/\(∀ N a0,OK (Qgo N a0) 32 [.agg (e38 a0)] [] (λ r=>s76 r) λ r=>[])/\(∀ N a0,OK (QgS N a0) 33 [.agg (e42 a0)] [] (λ r=>s76 r) λ r=>[]):=by
 refine ⟨λ N _=>rk Tryz.f137 [.tmp 2] [] 157 ?_,λ N _ _=>rk Tryz.f208 [.cell 4 216,.tmp 5,.tmp 6] [] 202 ?_,λ N _=>rk Tryz.f85 [.tmp 2] [] 35 ?_,λ N _ _=>rk Tryz.f86 [.cell 4 32,.tmp 5] [] 57 ?_,λ N _=>rk Tryz.f29 [.tmp 2] [] 154 ?_,λ N _=>rk Tryz.f146 [.tmp 2] [320] 35 ?_,λ N _=>rk Tryz.f123 [.tmp 2] [] 19 ?_,λ N _=>rk Tryz.f45 [.tmp 2] [] 41 ?_,λ N _=>rk Tryz.f32 [.tmp 2] [] 39 ?_,λ N _=>rk Tryz.f33 [.tmp 2] [] 39 ?_⟩<;>(rintro _ hw r hr C _ rfl hwf hf;simp only[Tryz.f137,Tryz.f208,Tryz.f85,Tryz.f86,Tryz.f29,Tryz.f146,Tryz.f123,Tryz.f45,Tryz.f32,Tryz.f33,Option.get!];(first|rw[Qab] at hr|rw[Qdk] at hr|rw[QeE] at hr|rw[Qej] at hr|rw[QdK] at hr|rw[Qgi] at hr|rw[Qd0] at hr|rw[Qfb] at hr|rw[Qgo] at hr|rw[QgS] at hr);repeat' first
 |(refine El.el hr ?_;intro hr)
 |(with_reducible intro h;refine Xx hr h ?_;intro hr)
 |with_reducible intro _
 |(refine Xo hr ?_;rintro rfl;have hr:=hk;clear hk)
 |simp only[go_sem,simprocAttr,E,Z6,XS,Y2,ZC,Kn,JO,XE]
 |(with_reducible first|apply Xh|apply Xg|apply Xr|apply Xt|apply Xu)
 |((first|with_reducible refine Yn hr (by assumption) ?_ ?_|(with_reducible refine Yk hr ?_ ?_;rotate_left;intro p;rotate_right));(·simp only[go_sem,simprocAttr]);intro hp hn hd hr;(try have Z6:=hd _ e74);(try simp only[go_sem,simprocAttr] at Z6);(try have XS:=hd _ e76);(try simp only[go_sem,simprocAttr] at XS);(try have Y2:=hd _ e88);(try simp only[go_sem,simprocAttr] at Y2);(try have ZC:=hd _ e92);(try simp only[go_sem,simprocAttr] at ZC);(try have Kn:=hd _ e94);(try simp only[go_sem,simprocAttr] at Kn);(try have JO:=hd _ e96);(try simp only[go_sem,simprocAttr] at JO);(try have XE:=hd _ Yp);(try simp only[go_sem,simprocAttr] at XE))
 |(refine Xs ?_ ?_;·first|assumption|omega)
 |(with_reducible first|refine CallX.c ?_ _|refine OK.c hr hw ?_ (λ y hr=>?_) _|refine Ol hr hw ?_ (λ y hr=>?_) _)
 |(with_reducible refine lp (Qjq N _) hr N ?_ (λ ex hq hk=>⟨_,_,ex,hq,hk,?_⟩) _;clear hr;(try clear E);rintro n1 st ⟨v3,v4,ex,hr,hk,⟨_,E⟩⟩<;>(obtain _|n1:=n1<;>rw[Qau] at hr))
 |refine ⟨_,WH _,_,_,_,hr,hk,?_⟩
 |(with_reducible refine lp (Qi6 N _ _) hr N ?_ (λ ex hq hk=>⟨_,_,ex,hq,hk,?_⟩) _;clear hr;(try clear E);rintro n1 st ⟨v10,v11,ex,hr,hk,⟨_,_,_,E⟩⟩<;>(obtain _|n1:=n1<;>rw[Qdv] at hr))
 |(with_reducible refine lp (Qjr N _) hr N ?_ (λ ex hq hk=>⟨_,_,ex,hq,hk,?_⟩) _;clear hr;(try clear E);rintro n1 st ⟨v3,v4,ex,hr,hk,⟨_,_,E⟩⟩<;>(obtain _|n1:=n1<;>rw[Qa3] at hr))
 |(with_reducible refine lp (Qlj N _ _) hr N ?_ (λ ex hq hk=>⟨_,_,_,ex,hq,hk,?_⟩) _;clear hr;(try clear E);rintro n1 st ⟨v3,v4,v5,ex,hr,hk,⟨_,_,_,E⟩⟩<;>(obtain _|n1:=n1<;>rw[Qbi] at hr))
 |refine ⟨_,WH _,_,_,_,_,hr,hk,?_⟩
 |(with_reducible refine lp (Qkf N _) hr N ?_ (λ ex hq hk=>⟨_,ex,hq,hk,?_⟩) _;clear hr;(try clear E);rintro n1 st ⟨v5,ex,hr,hk,⟨_,E⟩⟩<;>(obtain _|n1:=n1<;>rw[Qdw] at hr))
 |refine ⟨_,WH _,_,_,hr,hk,?_⟩
 |(with_reducible refine lp (Qkg N _ _) hr N ?_ (λ ex hq hk=>⟨_,ex,hq,hk,?_⟩) _;clear hr;(try clear E);rintro n2 st ⟨v12,ex,hr,hk,⟨_,_,E⟩⟩<;>(obtain _|n2:=n2<;>rw[Qdx] at hr))
 |(with_reducible refine lp (Qkh N _ _) hr N ?_ (λ ex hq hk=>⟨_,ex,hq,hk,?_⟩) _;clear hr;(try clear E);rintro n3 st ⟨v15,ex,hr,hk,⟨_,_,E⟩⟩<;>(obtain _|n3:=n3<;>rw[Qdy] at hr))
 |(with_reducible refine lp (Qjs N _) hr N ?_ (λ ex hq hk=>⟨_,_,ex,hq,hk,?_⟩) _;clear hr;(try clear E);rintro n1 st ⟨v3,v4,ex,hr,hk,⟨_,_,E⟩⟩<;>(obtain _|n1:=n1<;>rw[QdZ] at hr))
 |(with_reducible refine lp (Qio N _ _) hr N ?_ (λ ex hq hk=>⟨_,_,ex,hq,hk,?_⟩) _;clear hr;(try clear E);rintro n1 st ⟨v2,v3,ex,hr,hk,(⟨_,_,E⟩|⟨_,E,z0⟩)⟩<;>(try subst z0)<;>(obtain _|n1:=n1<;>rw[Qb7] at hr))
 |(with_reducible refine lp (Qki N _) hr N ?_ (λ ex hq hk=>⟨_,ex,hq,hk,?_⟩) _;clear hr;(try clear E);rintro n1 st ⟨v4,ex,hr,hk,⟨_,E⟩⟩<;>(obtain _|n1:=n1<;>rw[QdC] at hr))
 |(with_reducible refine lp (Qjt N _) hr N ?_ (λ ex hq hk=>⟨_,_,ex,hq,hk,?_⟩) _;clear hr;(try clear E);rintro n1 st ⟨v4,v5,ex,hr,hk,⟨_,_,E⟩⟩<;>(obtain _|n1:=n1<;>rw[Qdd] at hr))
 |(with_reducible refine lp (Qkj N _) hr N ?_ (λ ex hq hk=>⟨_,_,ex,hq,hk,?_⟩) _;clear hr;(try clear E);rintro n1 st ⟨v4,v5,ex,hr,hk,⟨_,_,E⟩⟩<;>(obtain _|n1:=n1<;>rw[QdG] at hr))
 |refine dc 85 1 hf 5 [(0,54,[[320],[]]),(0,49,[[],[320]]),(2,49,[[],[320]]),(7,48,[[320],[]]),(0,15,[[],[320]]),(16,15,[[],[320]]),(63,0,[]),(127,0,[[320],[]]),(255,0,[])] ?_
 |refine dc 86 11 hf 45 [(0,124,[]),(1,124,[]),(0,123,[]),(0,23,[]),(0,15,[]),(24,7,[]),(56,7,[]),(127,0,[]),(255,0,[]),(511,0,[[1280],[]])] ?_
 |refine dc 29 7 hf 60 [(0,0,[]),(1,0,[]),(3,0,[]),(7,0,[]),(15,0,[]),(31,0,[]),(63,0,[]),(127,0,[]),(255,0,[]),(511,0,[]),(1023,0,[]),(2047,56,[]),(4095,56,[]),(8191,56,[]),(2047,7,[]),(18431,7,[]),(51199,7,[]),(131071,0,[]),(262143,0,[]),(524287,0,[]),(1048575,3072,[]),(1048575,512,[]),(3145727,512,[]),(8388607,0,[]),(16777215,0,[]),(33554431,0,[])] ?_
 |refine dc 29 21 hf 131 [(0,6,[]),(0,1,[]),(2,1,[]),(7,0,[]),(15,0,[]),(31,448,[]),(31,32,[]),(95,32,[]),(223,32,[]),(511,0,[]),(1023,0,[]),(2047,0,[]),(4095,8192,[]),(4095,4096,[]),(16383,0,[]),(32767,0,[]),(65535,0,[]),(131071,1835008,[[],[9664]]),(131071,131072,[]),(393215,131072,[]),(917503,131072,[[9664],[]]),(2097151,0,[]),(4194303,0,[]),(8388607,0,[])] ?_
 |refine dc 146 1 hf 5 [(0,54,[[320],[]]),(0,49,[[],[320]]),(2,49,[[],[320]]),(7,48,[[320],[]]),(0,15,[[],[320]]),(16,15,[[],[320]]),(63,0,[]),(127,0,[[320],[]]),(255,0,[])] ?_
 |refine dc 45 9 hf 34 [(0,26,[]),(0,25,[]),(3,24,[]),(0,7,[]),(8,7,[]),(31,0,[])] ?_
 |refine dc 32 1 hf 5 [(0,54,[[320],[]]),(0,49,[[],[320]]),(2,49,[[],[320]]),(7,48,[[320],[]]),(0,15,[[],[320]]),(16,15,[[],[320]]),(63,0,[]),(127,0,[[320],[]]),(255,0,[])] ?_
 |refine dc 32 2 hf 13 [(0,110,[[],[1024]]),(0,97,[]),(2,97,[]),(6,97,[[1024],[]]),(15,96,[[320],[]]),(0,31,[[],[320,1024]]),(32,31,[[],[320,1024]]),(127,0,[[1280],[]]),(255,0,[[320],[]]),(511,0,[])] ?_
 |refine dc 33 1 hf 5 [(0,54,[[320],[]]),(0,49,[[],[320]]),(2,49,[[],[320]]),(7,48,[[320],[]]),(0,15,[[],[320]]),(16,15,[[],[320]]),(63,0,[]),(127,0,[[320],[]]),(255,0,[])] ?_
 |refine dc 33 2 hf 13 [(0,110,[[],[1024]]),(0,97,[]),(2,97,[]),(6,97,[[1024],[]]),(15,96,[[320],[]]),(0,31,[[],[320,1024]]),(32,31,[[],[320,1024]]),(127,0,[[1280],[]]),(255,0,[[320],[]]),(511,0,[])] ?_
 |(refine Xo hr ?_;rintro rfl;with_reducible refine XP ?_)
 |exact Yw hr
 |exact XV hr
 |(apply XW;assumption)
 |((first|refine Xx (c:=true) hr rfl ?_|refine Xx (c:=false) hr rfl ?_|refine Xx hr (by assumption) ?_);intro hr)
 |fail)
abbrev Ql9:=g18.1
abbrev Qlk:=g18.2.1
abbrev Qma:=g18.2.2.1
abbrev Qof:=g18.2.2.2.1
abbrev Qm3:=g18.2.2.2.2.1
abbrev Qmb:=g18.2.2.2.2.2.1
abbrev Qju:=g18.2.2.2.2.2.2.1
abbrev Qm4:=g18.2.2.2.2.2.2.2.1
abbrev Qmc:=g18.2.2.2.2.2.2.2.2.1
abbrev Qm5:=g18.2.2.2.2.2.2.2.2.2
attribute [instance] Ql9 Qlk Qma Qof Qm3 Qmb Qju Qm4 Qmc Qm5
end Go.Sx
