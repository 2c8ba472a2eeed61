import Derived.Test.YtjmgebidnekjdaaGreatLG0
import Derived.Test.YtjmgebidnekjdaaGreatLG1
import Derived.Test.YtjmgebidnekjdaaGreatLG2
set_option linter.all false
namespace Go.Sx
open Go.Proofs
set_option maxRecDepth 10000
set_option maxHeartbeats 100000000
abbrev Qk8:=λ N a0 (Q:(List Int)→Prop) n (st:St)=>∃ v1 v2 ex,Qbw N a0 n v1 v2=some ex/\Q ex/\((∃ w1920 w64,st.n=32/\st.s 1920=some (w1920,.arr false 76 1 (v2.map e76) 0)/\st.t 1=.ept 64 w64 1 0 0/\st.t 3=.osl 1920 w1920 1 0 v2.length/\st.t 4=vi v1/\st.s 64=some (w64,.arr true 35 1 [[s90 a0.Entries]] 0))\/(∃ w64,(st.n=32/\st.t 1=.ept 64 w64 1 0 0/\st.t 3=.nsl/\st.t 4=vi v1/\st.s 64=some (w64,.arr true 35 1 [[s90 a0.Entries]] 0))/\v2=[]))
abbrev Qj8:=λ N a1 y1 (Q:(Ex Int Unit)→Prop) n (st:St)=>∃ v2 ex,Qdu N a1 y1 n v2=some ex/\Q ex/\((st.n=31/\st.t 1=vi a1/\st.t 5=Xqy y1/\st.t 6=vi v2))
abbrev Qil:=λ N a0 y3 (Q:(List WM)→Prop) n (st:St)=>∃ v22 v23 ex,QbZ N a0 y3 n v22 v23=some ex/\Q ex/\((∃ w704 w960 w128 w256 w320,st.n=156/\st.s 704=some (w704,.arr false 76 1 (a0.Heap.Words.map e76) 0)/\st.s 960=some (w960,.arr false 136 4 (v23.map Yp) 0)/\st.t 2=.ept 128 w128 8 0 0/\st.t 4=.ept 256 w256 8 0 0/\st.t 5=.ept 320 w320 6 0 0/\st.t 8=vi v22/\st.s 128=some (w128,.arr true 85 8 [e85 a0] 0)/\st.s 256=some (w256,.arr true 85 8 [[vi 0,vi 0,.nsl,.nsl,vi 0,vi 0,.nsl,.nsl]] 0)/\st.s 320=some (w320,.arr true 27 6 [[vi a0.Heap.Conf.PageWords,vi a0.Heap.Conf.Pages,.osl 704 w704 1 0 a0.Heap.Words.length,.osl 960 w960 4 0 v23.length,vi a0.Heap.Space,vi a0.Heap.Bump]] 0)/\st.s 1000000=some (0,.arr true 50 2 [e50 y3.2] 0)))
abbrev Qfv:=λ N a0 (Q:(Ex Int Unit)→Prop) n (st:St)=>∃ v1 ex,Qat N a0 n v1=some ex/\Q ex/\((st.n=19/\st.t 0=s76 a0/\st.t 1=.clo (.func 269) [] []/\st.t 7=vi a0.length/\st.t 8=vi v1))
abbrev Qff:=λ N a0 c0 (Q:(Ex Int Unit)→Prop) n (st:St)=>∃ v1 ex,Qam N a0 c0 n v1=some ex/\Q ex/\((st.n=19/\st.t 0=s92 a0/\st.t 1=.clo (.func 227) [] [.ept 1000000 0 1 0 0]/\st.t 7=vi a0.length/\st.t 8=vi v1/\st.s 1000000=some (0,.arr true 76 1 [[vu c0]] 0)))
abbrev Qgq:=λ N a0 (Q:(Ex Int Unit)→Prop) n (st:St)=>∃ v1 ex,QaA N a0 n v1=some ex/\Q ex/\((st.n=19/\st.t 0=s3 a0/\st.t 1=.clo (.func 110) [] []/\st.t 7=vi a0.length/\st.t 8=vi v1))
abbrev QgW:=λ N a0 (Q:Int→Prop) n (st:St)=>∃ v1 v2 ex,QaN N a0 n v1 v2=some ex/\Q ex/\((st.n=36/\st.t 0=s24 a0/\st.t 3=vi v1/\st.t 9=s24 a0/\st.t 10=vi a0.length/\st.t 11=vi v2))
abbrev QgX:=λ N a0 (Q:(List Int)→Prop) n (st:St)=>∃ v6 v7 ex,QaO N a0 n v6 v7=some ex/\Q ex/\((∃ w1536,st.n=36/\st.s 1536=some (w1536,.arr false 76 1 (v7.map e76) 0)/\st.t 6=.osl 1536 w1536 1 0 v7.length/\st.t 25=s24 a0/\st.t 26=vi a0.length/\st.t 27=vi v6))
abbrev QeD:=λ N a0 c0 (Q:(Ex Int Unit)→Prop) n (st:St)=>∃ v1 ex,Qah N a0 c0 n v1=some ex/\Q ex/\((st.n=19/\st.t 0=KS a0/\st.t 1=.clo (.func 191) [] [.ept 1000000 0 1 0 0]/\st.t 7=vi a0.length/\st.t 8=vi v1/\st.s 1000000=some (0,.arr true 76 1 [[vu c0]] 0)))
def g11:(∀ N a0,OK (QaM N a0) 67 [.agg (e35 a0)] [] (λ r=>.fsl 76 1 (r.map e76)) λ r=>[])/\(∀ N a0 a1,OK (QcW N a0 a1) 262 [Y3 a0,vi a1] [] (λ r=>vi r) λ r=>[])/\(∀ N a0 a1,OK (QbJ N a0 a1) 20 [.agg (e85 a0),.ept 1000000 0 2 0 0] [.arr true 50 2 [[s3 a1.L,vi a1.at_]] 0] (λ r=>.agg (e85 r.1)) λ r=>[.arr true 50 2 [[s3 r.2.L,vi r.2.at_]] 0])/\(∀ N a0,OK (QaI N a0) 185 [s76 a0,.clo (.func 269) [] []] [] (λ r=>vi r) λ r=>[])/\(∀ N a0 c0,OK (Qa4 N a0 c0) 226 [s92 a0,.clo (.func 227) [] [.ept 1000000 0 1 0 0]] [.arr true 76 1 [[vu c0]] 0] (λ r=>vi r) λ r=>[.arr true 76 1 [[vu c0]] 0])/\(∀ N a0,OK (QbQ N a0) 178 [s3 a0,.clo (.func 110) [] []] [] (λ r=>vi r) λ r=>[])/\(∀ N a0,OK (Qa8 N a0) 55 [s24 a0] [] (λ r=>s76 r) λ r=>[])/\(∀ N a0 c0,OK (QaH N a0 c0) 190 [KS a0,.clo (.func 191) [] [.ept 1000000 0 1 0 0]] [.arr true 76 1 [[vu c0]] 0] (λ r=>vi r) λ r=>[.arr true 76 1 [[vu c0]] 0]):=by
 refine ⟨λ N _=>rk Tryz.f67 [.tmp 2] [1920] 32 ?_,λ N _ _=>rk Tryz.f262 [.tmp 4] [] 31 ?_,λ N _ _=>rk Tryz.f20 [.cell 4 85] [] 156 ?_,λ N _=>rk Tryz.f185 [.tmp 4] [] 19 ?_,λ N _ _=>rk Tryz.f226 [.tmp 4] [] 19 ?_,λ N _=>rk Tryz.f178 [.tmp 4] [] 19 ?_,λ N _=>rk Tryz.f55 [.tmp 2] [] 36 ?_,λ N _ _=>rk Tryz.f190 [.tmp 4] [] 19 ?_⟩<;>(rintro _ hw r hr C _ rfl hwf hf;simp only[Tryz.f67,Tryz.f262,Tryz.f20,Tryz.f185,Tryz.f226,Tryz.f178,Tryz.f55,Tryz.f190,Option.get!];(first|rw[QaM] at hr|rw[QcW] at hr|rw[QbJ] at hr|rw[QaI] at hr|rw[Qa4] at hr|rw[QbQ] at hr|rw[Qa8] at hr|rw[QaH] at hr);repeat' first
 |(refine El.el hr ?_;intro hr)
 |(with_reducible intro h;refine Xx hr h ?_;intro hr)
 |with_reducible intro _
 |(refine Xo hr ?_;rintro rfl;have hr:=hk;clear hk)
 |simp only[go_sem,simprocAttr,E,hl3,Xqk,XS,ZR,ZC,VH,XE,XdI,WC,WR,UM]
 |(with_reducible first|apply Xh|apply Xg|apply Xr|apply Xt|apply Xu)
 |((first|with_reducible refine Yn hr (by assumption) ?_ ?_|(with_reducible refine Yk hr ?_ ?_;rotate_left;intro p;rotate_right));(·simp only[go_sem,simprocAttr,WC,WR,UM]);intro hp hn hd hr;(try have hl3:=hd _ e3);(try simp only[go_sem,simprocAttr] at hl3);(try have Xqk:=hd _ e24);(try simp only[go_sem,simprocAttr] at Xqk);(try have XS:=hd _ e76);(try simp only[go_sem,simprocAttr] at XS);(try have ZR:=hd _ e90);(try simp only[go_sem,simprocAttr] at ZR);(try have ZC:=hd _ e92);(try simp only[go_sem,simprocAttr] at ZC);(try have VH:=hd _ XeH);(try simp only[go_sem,simprocAttr] at VH);(try have XE:=hd _ Yp);(try simp only[go_sem,simprocAttr] at XE);(try have XdI:=hd _ Xmw);(try simp only[go_sem,simprocAttr] at XdI))
 |(refine Xs ?_ ?_;·first|assumption|omega)
 |(with_reducible first|refine CallX.c ?_ _|refine OK.c hr hw ?_ (λ y hr=>?_) _|refine Ol hr hw ?_ (λ y hr=>?_) _)
 |(with_reducible refine lp (Qk8 N _) hr N ?_ (λ ex hq hk=>⟨_,_,ex,hq,hk,?_⟩) _;clear hr;(try clear E);rintro n1 st ⟨v1,v2,ex,hr,hk,(⟨_,_,E⟩|⟨_,E,z0⟩)⟩<;>(try subst z0)<;>(obtain _|n1:=n1<;>rw[Qbw] at hr))
 |refine ⟨_,WH _,_,_,_,hr,hk,?_⟩
 |(with_reducible refine lp (Qj8 N _ _) hr N ?_ (λ ex hq hk=>⟨_,ex,hq,hk,?_⟩) _;clear hr;(try clear E);rintro n1 st ⟨v2,ex,hr,hk,E⟩<;>(obtain _|n1:=n1<;>rw[Qdu] at hr))
 |refine ⟨_,WH _,_,_,hr,hk,?_⟩
 |(with_reducible refine lp (Qil N _ _) hr N ?_ (λ ex hq hk=>⟨_,_,ex,hq,hk,?_⟩) _;clear hr;(try clear E);rintro n1 st ⟨v22,v23,ex,hr,hk,⟨_,_,_,_,_,E⟩⟩<;>(obtain _|n1:=n1<;>rw[QbZ] at hr))
 |(with_reducible refine lp (Qfv N _) hr N ?_ (λ ex hq hk=>⟨_,ex,hq,hk,?_⟩) _;clear hr;(try clear E);rintro n1 st ⟨v1,ex,hr,hk,E⟩<;>(obtain _|n1:=n1<;>rw[Qat] at hr))
 |(with_reducible refine lp (Qff N _ _) hr N ?_ (λ ex hq hk=>⟨_,ex,hq,hk,?_⟩) _;clear hr;(try clear E);rintro n1 st ⟨v1,ex,hr,hk,E⟩<;>(obtain _|n1:=n1<;>rw[Qam] at hr))
 |(with_reducible refine lp (Qgq N _) hr N ?_ (λ ex hq hk=>⟨_,ex,hq,hk,?_⟩) _;clear hr;(try clear E);rintro n1 st ⟨v1,ex,hr,hk,E⟩<;>(obtain _|n1:=n1<;>rw[QaA] at hr))
 |(with_reducible refine lp (QgW N _) hr N ?_ (λ ex hq hk=>⟨_,_,ex,hq,hk,?_⟩) _;clear hr;(try clear E);rintro n1 st ⟨v1,v2,ex,hr,hk,E⟩<;>(obtain _|n1:=n1<;>rw[QaN] at hr))
 |(with_reducible refine lp (QgX N _) hr N ?_ (λ ex hq hk=>⟨_,_,ex,hq,hk,?_⟩) _;clear hr;(try clear E);rintro n2 st ⟨v6,v7,ex,hr,hk,⟨_,E⟩⟩<;>(obtain _|n2:=n2<;>rw[QaO] at hr))
 |(with_reducible refine lp (QeD N _ _) hr N ?_ (λ ex hq hk=>⟨_,ex,hq,hk,?_⟩) _;clear hr;(try clear E);rintro n1 st ⟨v1,ex,hr,hk,E⟩<;>(obtain _|n1:=n1<;>rw[Qah] at hr))
 |refine dc 20 2 hf 11 [(0,118,[[704],[960]]),(0,113,[[],[704,960]]),(2,113,[[],[704,960]]),(7,112,[[704],[960]]),(0,367,[[960],[704]]),(0,31,[[],[704,960]]),(32,31,[[],[704,960]]),(127,256,[[960],[]]),(111,144,[[],[960]]),(511,0,[[320],[]]),(1023,0,[]),(2047,0,[[320],[]])] ?_
 |refine dc 20 3 hf 21 [(0,494,[]),(0,481,[]),(2,481,[]),(6,481,[]),(15,480,[[1000000],[]]),(0,479,[[],[1000000]]),(0,63,[[],[1000000]]),(64,63,[[],[1000000]]),(192,63,[[],[1000000]]),(511,0,[[1000000],[]]),(1023,0,[]),(2047,0,[])] ?_
 |refine dc 20 7 hf 36 [(0,252,[[],[2496,1000000]]),(1,252,[[],[2496,1000000]]),(0,251,[[],[2496,1000000]]),(0,55,[[2496],[1000000]]),(0,15,[[],[2496]]),(16,15,[[1000000],[2496]]),(56,7,[]),(120,7,[]),(255,0,[]),(511,0,[[704],[]])] ?_
 |refine dc 20 9 hf 47 [(0,484,[[],[1000000]]),(1,484,[[],[1000000]]),(0,483,[[],[1000000]]),(7,480,[[],[1000000]]),(15,480,[[],[1000000]]),(0,31,[]),(32,31,[[1000000],[]]),(96,31,[]),(224,31,[]),(511,0,[]),(1023,0,[]),(2047,0,[[704],[]])] ?_
 |refine dc 20 11 hf 60 [(0,28,[[],[1000000]]),(1,28,[[],[1000000]]),(0,27,[[],[1000000]]),(0,7,[]),(8,7,[[1000000],[]]),(31,0,[]),(63,0,[]),(127,0,[[960],[]])] ?_
 |refine dc 20 13 hf 69 [(0,28,[[],[1000000]]),(1,28,[[],[1000000]]),(0,27,[[],[1000000]]),(0,7,[]),(8,7,[[1000000],[]]),(31,0,[]),(63,0,[]),(127,0,[[960],[]])] ?_
 |refine dc 20 15 hf 78 [(0,8188,[[],[1000000]]),(1,8188,[[],[1000000]]),(0,8187,[[],[1000000]]),(0,1575,[[],[1000000]]),(8,1575,[[],[1000000]]),(0,1567,[[],[1000000]]),(56,1543,[[],[1000000]]),(120,1543,[[],[1000000]]),(248,1543,[[],[1000000]]),(0,511,[]),(512,511,[[1000000],[]]),(2040,7,[]),(4088,7,[]),(8191,0,[]),(16383,0,[]),(32767,0,[[960],[]])] ?_
 |refine dc 20 17 hf 95 [(0,60,[[],[1000000]]),(1,60,[[],[1000000]]),(0,59,[[],[1000000]]),(0,7,[]),(8,7,[[1000000],[]]),(24,7,[]),(63,0,[]),(127,0,[]),(255,0,[[960],[]])] ?_
 |(refine Xo hr ?_;rintro rfl;with_reducible refine XP ?_)
 |exact Yw hr
 |exact XV hr
 |(apply XW;assumption)
 |((first|refine Xx (c:=true) hr rfl ?_|refine Xx (c:=false) hr rfl ?_|refine Xx hr (by assumption) ?_);intro hr)
 |fail)
abbrev QnZ:=g11.1
abbrev QmU:=g11.2.1
abbrev Qi2:=g11.2.2.1
abbrev Qf5:=g11.2.2.2.1
abbrev Qfw:=g11.2.2.2.2.1
abbrev QgT:=g11.2.2.2.2.2.1
abbrev Qhg:=g11.2.2.2.2.2.2.1
abbrev QeN:=g11.2.2.2.2.2.2.2
attribute [instance] QnZ QmU Qi2 Qf5 Qfw QgT Qhg QeN
def g8:(∀ N a0,OK (Qdq N a0) 35 [.ept 1000000 0 2 0 0] [.arr true 50 2 [[s3 a0.L,vi a0.at_]] 0] (λ r=>.agg (e23 r.1)) λ r=>[.arr true 50 2 [[s3 r.2.L,vi r.2.at_]] 0])/\(∀ N a0,OK (Qb1 N a0) 241 [.agg (e23 a0)] [] (λ r=>vi r) λ r=>[])/\(∀ N a0,OK (Qc1 N a0) 213 [.agg (e72 a0)] [] (λ r=>.tup [vu r.1,vi r.2]) λ r=>[])/\(∀ N a0 a1 a2,OK (Qc2 N a0 a1 a2) 139 [s76 a0,vu a1,vi a2] [] (λ r=>.tup [s76 r.1,vi r.2]) λ r=>[])/\(∀ N a0 a1 a2,OK (QcX N a0 a1 a2) 263 [Y3 a0,vi a1,vi a2] [] (λ r=>.tup [.fsl 136 4 (r.1.map Yp),vi r.2]) λ r=>[])/\(∀ N a0 a1 a2,OK (QdT N a0 a1 a2) 171 [.agg (e35 a0),vi a1,vi a2] [] (λ r=>.tup [vu r.1,vi r.2]) λ r=>[])/\(∀ N a0 a1,OK (QfI N a0 a1) 8 [.agg (e42 a0),.ept 1000000 0 2 0 0] [.arr true 50 2 [[s3 a1.L,vi a1.at_]] 0] (λ r=>.agg (e42 r.1)) λ r=>[.arr true 50 2 [[s3 r.2.L,vi r.2.at_]] 0])/\(∀ N a0 a1,OK (Qgx N a0 a1) 177 [.agg (e23 a0),vu a1] [] (λ r=>.tup [vi r.1,vi r.2.1,vi r.2.2]) λ r=>[])/\(∀ N a0 a1 a2,OK (Qfq N a0 a1 a2) 267 [.agg (e23 a0),vi a1,vi a2] [] (λ r=>.tup [vu r.1,vi r.2]) λ r=>[])/\(∀ N a0 a1,OK (QaW N a0 a1) 47 [s76 a0,vu a1] [] (λ r=>.v (.bool r)) λ r=>[]):=by
 refine ⟨λ N _=>rk Tryz.f35 [.cell 2 23] [] 14 ?_,λ N _=>rk Tryz.f241 [.tmp 2] [] 9 ?_,λ N _=>rk Tryz.f213 [.tmp 2,.tmp 3] [] 22 ?_,λ N _ _ _=>rk Tryz.f139 [.tmp 6,.tmp 7] [] 29 ?_,λ N _ _ _=>rk Tryz.f263 [.tmp 6,.tmp 7] [1216] 22 ?_,λ N _ _ _=>rk Tryz.f171 [.tmp 6,.tmp 7] [] 57 ?_,λ N _ _=>rk Tryz.f8 [.cell 4 42] [] 97 ?_,λ N _ _=>rk Tryz.f177 [.tmp 4,.tmp 5,.tmp 6] [] 37 ?_,λ N _ _ _=>rk Tryz.f267 [.tmp 6,.tmp 7] [] 39 ?_,λ N _ _=>rk Tryz.f47 [.tmp 4] [] 9 ?_⟩<;>(rintro _ hw r hr C _ rfl hwf hf;simp only[Tryz.f35,Tryz.f241,Tryz.f213,Tryz.f139,Tryz.f263,Tryz.f171,Tryz.f8,Tryz.f177,Tryz.f267,Tryz.f47,Option.get!];(first|rw[Qdq] at hr|rw[Qb1] at hr|rw[Qc1] at hr|rw[Qc2] at hr|rw[QcX] at hr|rw[QdT] at hr|rw[QfI] at hr|rw[Qgx] at hr|rw[Qfq] at hr|rw[QaW] at hr);repeat' first
 |(refine El.el hr ?_;intro hr)
 |(with_reducible intro h;refine Xx hr h ?_;intro hr)
 |with_reducible intro _
 |simp only[go_sem,simprocAttr,hl3,Z6,ZR,WC,WR,UM]
 |(with_reducible first|apply Xh|apply Xg|apply Xr|apply Xt|apply Xu)
 |((first|with_reducible refine Yn hr (by assumption) ?_ ?_|(with_reducible refine Yk hr ?_ ?_;rotate_left;intro p;rotate_right));(·simp only[go_sem,simprocAttr,WC,WR,UM]);intro hp hn hd hr;(try have hl3:=hd _ e3);(try simp only[go_sem,simprocAttr] at hl3);(try have Z6:=hd _ e74);(try simp only[go_sem,simprocAttr] at Z6);(try have ZR:=hd _ e90);(try simp only[go_sem,simprocAttr] at ZR))
 |(refine Xs ?_ ?_;·first|assumption|omega)
 |(with_reducible first|refine CallX.c ?_ _|refine OK.c hr hw ?_ (λ y hr=>?_) _|refine Ol hr hw ?_ (λ y hr=>?_) _)
 |refine dc 35 1 hf 3 [(0,998,[[192],[512,1000000]]),(0,97,[[],[192,512]]),(2,97,[[1000000],[192,512]]),(7,992,[[],[512,1000000]]),(15,992,[[],[512,1000000]]),(0,223,[[512],[192,1000000]]),(0,63,[[],[192,512,1000000]]),(70,57,[[1000000],[192,512]]),(230,25,[[],[192]]),(486,25,[[],[192]]),(1023,0,[]),(2047,0,[[128],[]])] ?_
 |refine dc 8 12 hf 48 [(0,28,[[],[1000000]]),(1,28,[[],[1000000]]),(0,27,[[],[1000000]]),(0,7,[]),(8,7,[[1000000],[]]),(31,0,[]),(63,0,[]),(127,0,[]),(255,0,[[2560],[]])] ?_
 |refine dc 177 6 hf 4 [(0,8254390272,[]),(0,8086618112,[]),(2,8086618112,[]),(7,8053063680,[]),(0,3724541953,[]),(0,1040187393,[]),(32,1040187393,[]),(112,503316481,[]),(15,8053063680,[]),(511,0,[]),(1023,0,[])] ?_
 |(refine Xo hr ?_;rintro rfl;with_reducible refine XP ?_)
 |exact Yw hr
 |exact XV hr
 |(apply XW;assumption)
 |fail)
abbrev Qj9:=g8.1
abbrev Qi3:=g8.2.1
abbrev Ql1:=g8.2.2.1
abbrev Qn0:=g8.2.2.2.1
abbrev QmV:=g8.2.2.2.2.1
abbrev QoG:=g8.2.2.2.2.2.1
abbrev Qn1:=g8.2.2.2.2.2.2.1
abbrev Qo6:=g8.2.2.2.2.2.2.2.1
abbrev Ql2:=g8.2.2.2.2.2.2.2.2.1
abbrev Qg4:=g8.2.2.2.2.2.2.2.2.2
attribute [instance] Qj9 Qi3 Ql1 Qn0 QmV QoG Qn1 Qo6 Ql2 Qg4
end Go.Sx
