import Derived.Test.YtjmgebidnekjdaaGreatLF
set_option linter.all false
namespace Go.Sx
open Go.Proofs
set_option maxRecDepth 10000
set_option maxHeartbeats 100000000
abbrev QlT:=λ N a0 a1 (Q:(Ex Bool Unit)→Prop) n (st:St)=>∃ v1 ex,Qfl N a0 a1 n v1=some ex/\Q ex/\((st.n=18/\st.t 0=s76 a0/\st.t 1=vu a1/\st.t 5=vi v1))
abbrev QmI:=λ N a0 a1 (Q:(Ex Int Unit)→Prop) n (st:St)=>∃ v1 ex,Qeq N a0 a1 n v1=some ex/\Q ex/\((st.n=20/\st.t 0=s92 a0/\st.t 1=vu a1/\st.t 5=vi v1))
abbrev QjT:=λ N a0 a1 (Q:(Ex Bool Unit)→Prop) n (st:St)=>∃ v1 ex,Qex N a0 a1 n v1=some ex/\Q ex/\((∃ w128,st.n=20/\st.t 1=vi a1/\st.t 2=.ept 128 w128 16 0 0/\st.t 5=vi v1/\st.s 128=some (w128,.arr true 216 16 [KR a0] 0)))
abbrev QkS:=λ N a0 v4 p5 v1 v2 (Q:(List Int)→Prop) n (st:St)=>∃ v7 v8 ex,Qcf N a0 v4 p5 v1 v2 n v7 v8=some ex/\Q ex/\((∃ w384 w832 w64 w128 w256,st.n=78/\st.s 384=some (w384,.arr false 136 4 ((v4.set v1.toNat (WM.mk 0 0 0 0)).map Yp) 0)/\st.s 832=some (w832,.arr false 76 1 (v8.map e76) 0)/\st.t 1=.ept 64 w64 16 0 0/\st.t 2=.ept 128 w128 16 0 0/\st.t 3=vi v1/\st.t 5=vi v7/\st.t 38=.ept 256 w256 4 0 1/\st.t 39=vi p5.Space/\st.t 40=.ept 64 w64 16 0 0/\st.t 41=.ept 64 w64 16 0 4/\st.t 42=vi a0.Heap.Space/\st.t 43=.v (.bool (p5.Space != a0.Heap.Space))/\st.s 64=some (w64,.arr true 216 16 [[vi a0.Heap.Conf.PageWords,vi a0.Heap.Conf.Pages,.osl 832 w832 1 0 v8.length,.osl 384 w384 4 0 v4.length,vi a0.Heap.Space,vi a0.Heap.Bump,s76 a0.Old,s3 a0.Taken,s76 a0.Queue,vi a0.Scanned,vi a0.Report.Copied,vi a0.Report.Kept,vi a0.Report.Filled,vi (wI (v2 + 1)),vi a0.Report.Cleared,vi a0.Report.Steps]] 0)/\st.s 128=some (w128,.arr true 216 16 [[vi 0,vi 0,.nsl,.nsl,vi 0,vi 0,.nsl,.nsl,.nsl,vi 0,vi 0,vi 0,vi 0,vi 0,vi 0,vi 0]] 0)/\st.s 256=some (w256,.arr true 136 4 [Yp p5] 0)))
abbrev QkT:=λ N a0 (Q:(Int × List Int × List WM)→Prop) n (st:St)=>∃ v1 v2 v3 v4 ex,Qby N a0 n v1 v2 v3 v4=some ex/\Q ex/\((∃ w384 w832 w64 w128,st.n=78/\st.s 384=some (w384,.arr false 136 4 (v4.map Yp) 0)/\st.s 832=some (w832,.arr false 76 1 (v3.map e76) 0)/\st.t 1=.ept 64 w64 16 0 0/\st.t 2=.ept 128 w128 16 0 0/\st.t 3=vi v1/\st.s 64=some (w64,.arr true 216 16 [[vi a0.Heap.Conf.PageWords,vi a0.Heap.Conf.Pages,.osl 832 w832 1 0 v3.length,.osl 384 w384 4 0 v4.length,vi a0.Heap.Space,vi a0.Heap.Bump,s76 a0.Old,s3 a0.Taken,s76 a0.Queue,vi a0.Scanned,vi a0.Report.Copied,vi a0.Report.Kept,vi a0.Report.Filled,vi v2,vi a0.Report.Cleared,vi a0.Report.Steps]] 0)/\st.s 128=some (w128,.arr true 216 16 [[vi 0,vi 0,.nsl,.nsl,vi 0,vi 0,.nsl,.nsl,.nsl,vi 0,vi 0,vi 0,vi 0,vi 0,vi 0,vi 0]] 0)))
abbrev QjU:=λ N a0 (Q:Int→Prop) n (st:St)=>∃ v1 v2 ex,Qdz N a0 n v1 v2=some ex/\Q ex/\((st.n=20/\st.t 0=Y3 a0/\st.t 3=vi v1/\st.t 4=vi v2))
abbrev QkU:=λ N a0 (Q:Int→Prop) n (st:St)=>∃ v1 ex,QeP N a0 n v1=some ex/\Q ex/\((∃ w128,st.n=19/\st.t 1=vi v1/\st.t 2=.ept 128 w128 6 0 0/\st.s 128=some (w128,.arr true 27 6 [e27 a0] 0)))
abbrev Qg2:=λ N a0 a1 (Q:(Ex Int Unit)→Prop) n (st:St)=>∃ v1 ex,QaV N a0 a1 n v1=some ex/\Q ex/\((st.n=19/\st.t 0=s76 a0/\st.t 1=vu a1/\st.t 7=vi a0.length/\st.t 8=vi v1))
abbrev QhG:=λ N a0 a1 (Q:(Ex Bool Unit)→Prop) n (st:St)=>∃ v1 ex,Qbd N a0 a1 n v1=some ex/\Q ex/\((st.n=26/\st.t 0=s3 a0/\st.t 1=s3 a1/\st.t 12=vi a0.length/\st.t 13=vi v1))
abbrev QkV:=λ N a0 (Q:(List U1)→Prop) n (st:St)=>∃ v1 v2 ex,Qec N a0 n v1 v2=some ex/\Q ex/\((∃ w256 w64 w128,st.n=22/\st.s 256=some (w256,.arr false 88 3 (v2.map e88) 0)/\st.t 1=.ept 64 w64 3 0 0/\st.t 2=.ept 128 w128 3 0 0/\st.t 3=vi v1/\st.s 64=some (w64,.arr true 32 3 [[.osl 256 w256 3 0 v2.length,s94 a0.Scopes,s3 a0.Issued]] 0)/\st.s 128=some (w128,.arr true 32 3 [[.nsl,.nsl,.nsl]] 0)))
abbrev QiZ:=λ N a1 a2 v1 v2 (Q:(Ex (List WE × Bool) Bool)→Prop) n (st:St)=>∃ v6 v7 ex,QbM N a1 a2 v1 v2 n v6 v7=some ex/\Q ex/\((∃ w5504,st.n=88/\st.s 5504=some (w5504,.arr false 115 2 (v2.map Xbq) 0)/\st.t 0=.osl 5504 w5504 2 0 v2.length/\st.t 1=s76 a1/\st.t 2=s76 a2/\st.t 8=vi v1/\st.t 9=.v (.bool v6)/\st.t 10=vi v7)\/((st.n=88/\st.t 0=.nsl/\st.t 1=s76 a1/\st.t 2=s76 a2/\st.t 8=vi v1/\st.t 9=.v (.bool v6)/\st.t 10=vi v7)/\v2=[]))
abbrev Qi0:=λ N a1 a2 (Q:(Ex (List WE × Bool) (List WE))→Prop) n (st:St)=>∃ v1 v2 ex,Qb9 N a1 a2 n v1 v2=some ex/\Q ex/\((∃ w5504,st.n=88/\st.s 5504=some (w5504,.arr false 115 2 (v2.map Xbq) 0)/\st.t 0=.osl 5504 w5504 2 0 v2.length/\st.t 1=s76 a1/\st.t 2=s76 a2/\st.t 8=vi v1)\/((st.n=88/\st.t 0=.nsl/\st.t 1=s76 a1/\st.t 2=s76 a2/\st.t 8=vi v1)/\v2=[]))
def g5:(∀ N a0 a1,OK (QcM N a0 a1) 68 [s76 a0,vu a1] [] (λ r=>.v (.bool r)) λ r=>[])/\(∀ N a0 a1,OK (QfA N a0 a1) 133 [s92 a0,vu a1] [] (λ r=>vi r) λ r=>[])/\(∀ N a0 a1,OK (Qhp N a0 a1) 248 [.agg (KR a0),vi a1] [] (λ r=>.v (.bool r)) λ r=>[])/\(∀ N a0,OK (Qei N a0) 144 [.agg (KR a0)] [] (λ r=>.agg (KR r)) λ r=>[])/\(∀ N a0,OK (Qf0 N a0) 265 [Y3 a0] [] (λ r=>vi r) λ r=>[])/\(∀ N a0 a1,OK (Qg9 N a0 a1) 268 [.agg (e27 a0),vi a1] [] (λ r=>vi r) λ r=>[])/\(∀ N a0 a1,OK (QcJ N a0 a1) 116 [s76 a0,vu a1] [] (λ r=>vi r) λ r=>[])/\(∀ N a0 a1,OK (Qcn N a0 a1) 59 [s3 a0,s3 a1] [] (λ r=>.v (.bool r)) λ r=>[])/\(∀ N a0,OK (QgE N a0) 77 [.agg (e32 a0)] [] (λ r=>.agg (e32 r)) λ r=>[])/\(∀ N a1 a2,OK (QfV N a1 a2) 31 [.nsl,s76 a1,s76 a2] [] (λ r=>.tup [.fsl 115 2 (r.1.map Xbq),.v (.bool r.2)]) λ r=>[]):=by
 refine ⟨λ N _ _=>rk Tryz.f68 [.tmp 4] [] 18 ?_,λ N _ _=>rk Tryz.f133 [.tmp 4] [] 20 ?_,λ N _ _=>rk Tryz.f248 [.tmp 4] [] 20 ?_,λ N _=>rk Tryz.f144 [.cell 2 216] [] 78 ?_,λ N _=>rk Tryz.f265 [.tmp 2] [] 20 ?_,λ N _ _=>rk Tryz.f268 [.tmp 4] [] 19 ?_,λ N _ _=>rk Tryz.f116 [.tmp 4] [] 19 ?_,λ N _ _=>rk Tryz.f59 [.tmp 4] [] 26 ?_,λ N _=>rk Tryz.f77 [.cell 2 32] [] 22 ?_,λ N _ _=>rk Tryz.f31 [.tmp 6,.tmp 7] [5504] 88 ?_⟩<;>(rintro _ hw r hr C _ rfl hwf hf;simp only[Tryz.f68,Tryz.f133,Tryz.f248,Tryz.f144,Tryz.f265,Tryz.f268,Tryz.f116,Tryz.f59,Tryz.f77,Tryz.f31,Option.get!];(first|rw[QcM] at hr|rw[QfA] at hr|rw[Qhp] at hr|rw[Qei] at hr|rw[Qf0] at hr|rw[Qg9] at hr|rw[QcJ] at hr|rw[Qcn] at hr|rw[QgE] at hr|rw[QfV] at hr);repeat' first
 |(refine El.el hr ?_;intro hr)
 |(with_reducible intro h;refine Xx hr h ?_;intro hr)
 |with_reducible intro _
 |(refine Xo hr ?_;rintro rfl;have hr:=hk;clear hk)
 |simp only[go_sem,simprocAttr,E,hl3,XS,Y2,ZC,XaF,XE]
 |(with_reducible first|apply Xh|apply Xg|apply Xr|apply Xt|apply Xu)
 |((first|with_reducible refine Yn hr (by assumption) ?_ ?_|(with_reducible refine Yk hr ?_ ?_;rotate_left;intro p;rotate_right));(·simp only[go_sem,simprocAttr]);intro hp hn hd hr;(try have hl3:=hd _ e3);(try simp only[go_sem,simprocAttr] at hl3);(try have XS:=hd _ e76);(try simp only[go_sem,simprocAttr] at XS);(try have Y2:=hd _ e88);(try simp only[go_sem,simprocAttr] at Y2);(try have ZC:=hd _ e92);(try simp only[go_sem,simprocAttr] at ZC);(try have XaF:=hd _ Xbq);(try simp only[go_sem,simprocAttr] at XaF);(try have XE:=hd _ Yp);(try simp only[go_sem,simprocAttr] at XE))
 |(refine Xs ?_ ?_;·first|assumption|omega)
 |(with_reducible refine lp (QlT N _ _) hr N ?_ (λ ex hq hk=>⟨_,ex,hq,hk,?_⟩) _;clear hr;(try clear E);rintro n1 st ⟨v1,ex,hr,hk,E⟩<;>(obtain _|n1:=n1<;>rw[Qfl] at hr))
 |refine ⟨_,WH _,_,_,hr,hk,?_⟩
 |(with_reducible refine lp (QmI N _ _) hr N ?_ (λ ex hq hk=>⟨_,ex,hq,hk,?_⟩) _;clear hr;(try clear E);rintro n1 st ⟨v1,ex,hr,hk,E⟩<;>(obtain _|n1:=n1<;>rw[Qeq] at hr))
 |(with_reducible refine lp (QjT N _ _) hr N ?_ (λ ex hq hk=>⟨_,ex,hq,hk,?_⟩) _;clear hr;(try clear E);rintro n1 st ⟨v1,ex,hr,hk,⟨_,E⟩⟩<;>(obtain _|n1:=n1<;>rw[Qex] at hr))
 |(with_reducible refine lp (QkS N _ _ _ _ _) hr N ?_ (λ ex hq hk=>⟨_,_,ex,hq,hk,?_⟩) _;clear hr;(try clear E);rintro n1 st ⟨v7,v8,ex,hr,hk,⟨_,_,_,_,_,E⟩⟩<;>(obtain _|n1:=n1<;>rw[Qcf] at hr))
 |refine ⟨_,WH _,_,_,_,hr,hk,?_⟩
 |(with_reducible refine lp (QkT N _) hr N ?_ (λ ex hq hk=>⟨_,_,_,_,ex,hq,hk,?_⟩) _;clear hr;(try clear E);rintro n2 st ⟨v1,v2,v3,v4,ex,hr,hk,⟨_,_,_,_,E⟩⟩<;>(obtain _|n2:=n2<;>rw[Qby] at hr))
 |refine ⟨_,WH _,_,_,_,_,_,hr,hk,?_⟩
 |(with_reducible refine lp (QjU N _) hr N ?_ (λ ex hq hk=>⟨_,_,ex,hq,hk,?_⟩) _;clear hr;(try clear E);rintro n1 st ⟨v1,v2,ex,hr,hk,E⟩<;>(obtain _|n1:=n1<;>rw[Qdz] at hr))
 |(with_reducible refine lp (QkU N _) hr N ?_ (λ ex hq hk=>⟨_,ex,hq,hk,?_⟩) _;clear hr;(try clear E);rintro n1 st ⟨v1,ex,hr,hk,⟨_,E⟩⟩<;>(obtain _|n1:=n1<;>rw[QeP] at hr))
 |(with_reducible refine lp (Qg2 N _ _) hr N ?_ (λ ex hq hk=>⟨_,ex,hq,hk,?_⟩) _;clear hr;(try clear E);rintro n1 st ⟨v1,ex,hr,hk,E⟩<;>(obtain _|n1:=n1<;>rw[QaV] at hr))
 |(with_reducible refine lp (QhG N _ _) hr N ?_ (λ ex hq hk=>⟨_,ex,hq,hk,?_⟩) _;clear hr;(try clear E);rintro n1 st ⟨v1,ex,hr,hk,E⟩<;>(obtain _|n1:=n1<;>rw[Qbd] at hr))
 |(with_reducible refine lp (QkV N _) hr N ?_ (λ ex hq hk=>⟨_,_,ex,hq,hk,?_⟩) _;clear hr;(try clear E);rintro n1 st ⟨v1,v2,ex,hr,hk,⟨_,_,_,E⟩⟩<;>(obtain _|n1:=n1<;>rw[Qec] at hr))
 |(with_reducible refine lp (QiZ N _ _ _ _) hr N ?_ (λ ex hq hk=>⟨_,_,ex,hq,hk,?_⟩) _;clear hr;(try clear E);rintro n1 st ⟨v6,v7,ex,hr,hk,(⟨_,E⟩|⟨E,z0⟩)⟩<;>(try subst z0)<;>(obtain _|n1:=n1<;>rw[QbM] at hr))
 |(with_reducible refine lp (Qi0 N _ _) hr N ?_ (λ ex hq hk=>⟨_,_,ex,hq,hk,?_⟩) _;clear hr;(try clear E);rintro n2 st ⟨v1,v2,ex,hr,hk,(⟨_,E⟩|⟨E,z0⟩)⟩<;>(try subst z0)<;>(obtain _|n2:=n2<;>rw[Qb9] at hr))
 |refine dc 59 6 hf 16 [(0,242,[]),(0,241,[]),(3,240,[]),(7,240,[]),(0,47,[]),(0,31,[]),(48,15,[]),(112,15,[]),(255,0,[])] ?_
 |refine dc 31 4 hf 17 [(0,994,[]),(0,993,[]),(3,992,[]),(7,992,[]),(15,992,[]),(0,95,[]),(0,63,[]),(96,31,[]),(224,31,[]),(480,31,[]),(1023,0,[])] ?_
 |refine dc 31 10 hf 39 [(0,1048034,[]),(0,1048033,[]),(3,1048032,[]),(7,1048032,[]),(15,1048032,[]),(0,1047647,[]),(0,1047615,[]),(96,1047583,[]),(224,1047583,[]),(511,1047552,[]),(0,494591,[]),(0,493567,[]),(3072,492543,[]),(7168,492543,[]),(15360,492543,[]),(0,98303,[]),(0,65535,[]),(98304,32767,[]),(229376,32767,[]),(523264,1023,[]),(1048575,0,[])] ?_
 |refine dc 31 12 hf 62 [(0,0,[]),(1,0,[]),(3,482,[]),(3,481,[]),(15,480,[]),(31,480,[]),(63,480,[]),(3,95,[]),(3,63,[]),(387,31,[]),(899,31,[]),(2047,0,[]),(4095,0,[]),(8191,0,[])] ?_
 |refine dc 31 14 hf 75 [(0,2046,[[],[5440]]),(0,485,[]),(0,483,[]),(6,481,[]),(14,481,[]),(0,95,[]),(0,63,[]),(96,31,[]),(224,31,[]),(510,1,[]),(1022,1,[[5440],[]]),(2047,0,[[5504],[]]),(4095,0,[])] ?_
 |(refine Xo hr ?_;rintro rfl;with_reducible refine XP ?_)
 |exact Yw hr
 |exact XV hr
 |(apply XW;assumption)
 |((first|refine Xx (c:=true) hr rfl ?_|refine Xx (c:=false) hr rfl ?_|refine Xx hr (by assumption) ?_);intro hr)
 |fail)
abbrev QoA:=g5.1
abbrev Qo1:=g5.2.1
abbrev QmJ:=g5.2.2.1
abbrev QnO:=g5.2.2.2.1
abbrev QmK:=g5.2.2.2.2.1
abbrev QnP:=g5.2.2.2.2.2.1
abbrev Qho:=g5.2.2.2.2.2.2.1
abbrev Qic:=g5.2.2.2.2.2.2.2.1
abbrev QnQ:=g5.2.2.2.2.2.2.2.2.1
abbrev QkW:=g5.2.2.2.2.2.2.2.2.2
attribute [instance] QoA Qo1 QmJ QnO QmK QnP Qho Qic QnQ QkW
def g3:(∀ N a0,OK (Qax N a0) 71 [.agg (e23 a0)] [] (λ r=>.v (.bool r)) λ r=>[])/\(∀ N a0 a1 a2,OK (QdH N a0 a1 a2) 207 [s76 a0,vu a1,vi a2] [] (λ r=>.tup [vi r.1,.v (.bool r.2)]) λ r=>[])/\(∀ N a0 a1,OK (QhI N a0 a1) 136 [.agg (e32 a0),vi a1] [] (λ r=>vi r) λ r=>[])/\(∀ N a0,OK (Qd2 N a0) 246 [vu a0] [] (λ r=>.tup [vu r.1,vi r.2]) λ r=>[])/\(∀ N a0,OK (QgN N a0) 217 [.agg (XoO a0)] [] (λ r=>.v (.bool r)) λ r=>[])/\(∀ N a0 a1 a2 a3 a4,OK (Qd4 N a0 a1 a2 a3 a4) 41 [.agg (e38 a0),.agg (e38 a1),vi a2,vu a3,vi a4] [] (λ r=>.agg (Xqj r)) λ r=>[])/\(∀ N a0 a1,OK (Qf7 N a0 a1) 231 [.agg (Xgh a0),.agg (e23 a1)] [] (λ r=>.v (.bool r)) λ r=>[])/\(∀ N a0 a1,OK (Qfi N a0 a1) 235 [.agg (Xgh a0),.agg (Xgh a1)] [] (λ r=>.v (.bool r)) λ r=>[])/\(∀ N a0,OK (QeA N a0) 184 [.agg (Vj a0)] [] (λ r=>.v (.bool r)) λ r=>[])/\(∀ N a0 a1,OK (Qfj N a0 a1) 227 [.agg (e92 a0),.ept 1000000 0 1 0 0] [.arr true 76 1 [[vu a1]] 0] (λ r=>.v (.bool r)) λ r=>[.arr true 76 1 [[vu a1]] 0])/\(∀ N a0,OK (QfU N a0) 115 [.agg (e90 a0)] [] (λ r=>.v (.bool r)) λ r=>[])/\(∀ N a0 a1,OK (Qen N a0 a1) 191 [.agg (XeH a0),.ept 1000000 0 1 0 0] [.arr true 76 1 [[vu a1]] 0] (λ r=>.v (.bool r)) λ r=>[.arr true 76 1 [[vu a1]] 0]):=by
 refine ⟨λ N _=>rk Tryz.f71 [.tmp 2] [] 27 ?_,λ N _ _ _=>rk Tryz.f207 [.tmp 6,.tmp 7] [] 29 ?_,λ N _ _=>rk Tryz.f136 [.tmp 4] [] 21 ?_,λ N _=>rk Tryz.f246 [.tmp 2,.tmp 3] [] 9 ?_,λ N _=>rk Tryz.f217 [.tmp 2] [] 31 ?_,λ N _ _ _ _ _=>rk Tryz.f41 [.cell 10 129] [] 44 ?_,λ N _ _=>rk Tryz.f231 [.tmp 4] [] 8 ?_,λ N _ _=>rk Tryz.f235 [.tmp 4] [] 10 ?_,λ N _=>rk Tryz.f184 [.tmp 2] [] 7 ?_,λ N _ _=>rk Tryz.f227 [.tmp 3] [] 8 ?_,λ N _=>rk Tryz.f115 [.tmp 2] [] 21 ?_,λ N _ _=>rk Tryz.f191 [.tmp 3] [] 8 ?_⟩<;>(rintro _ hw r hr C _ rfl hwf hf;simp only[Tryz.f71,Tryz.f207,Tryz.f136,Tryz.f246,Tryz.f217,Tryz.f41,Tryz.f231,Tryz.f235,Tryz.f184,Tryz.f227,Tryz.f115,Tryz.f191,Option.get!];(first|rw[Qax] at hr|rw[QdH] at hr|rw[QhI] at hr|rw[Qd2] at hr|rw[QgN] at hr|rw[Qd4] at hr|rw[Qf7] at hr|rw[Qfi] at hr|rw[QeA] at hr|rw[Qfj] at hr|rw[QfU] at hr|rw[Qen] at hr);repeat' first
 |(refine El.el hr ?_;intro hr)
 |(with_reducible intro h;refine Xx hr h ?_;intro hr)
 |with_reducible intro _
 |simp only[go_sem,simprocAttr,Kn]
 |(with_reducible first|apply Xh|apply Xg|apply Xr)
 |((first|with_reducible refine Yn hr (by assumption) ?_ ?_|(with_reducible refine Yk hr ?_ ?_;rotate_left;intro p;rotate_right));(·simp only[go_sem,simprocAttr]);intro hp hn hd hr;(try have Kn:=hd _ e94);(try simp only[go_sem,simprocAttr] at Kn))
 |(refine Xs ?_ ?_;·first|assumption|omega)
 |(refine Xo hr ?_;rintro rfl;with_reducible refine XP ?_)
 |exact Yw hr
 |exact XV hr
 |(apply XW;assumption)
 |fail)
abbrev Qjk:=g3.1
abbrev QnR:=g3.2.1
abbrev Qo2:=g3.2.2.1
abbrev QkX:=g3.2.2.2.1
abbrev QmL:=g3.2.2.2.2.1
abbrev QkY:=g3.2.2.2.2.2.1
abbrev Qjl:=g3.2.2.2.2.2.2.1
abbrev QiA:=g3.2.2.2.2.2.2.2.1
abbrev QjV:=g3.2.2.2.2.2.2.2.2.1
abbrev QiB:=g3.2.2.2.2.2.2.2.2.2.1
abbrev QkZ:=g3.2.2.2.2.2.2.2.2.2.2.1
abbrev Qid:=g3.2.2.2.2.2.2.2.2.2.2.2
attribute [instance] Qjk QnR Qo2 QkX QmL QkY Qjl QiA QjV QiB QkZ Qid
def g1:(∀ N a0,OK (QhD N a0) 14 [.agg (e27 a0)] [] (λ r=>.v (.bool r)) λ r=>[])/\(∀ N a0,OK (Qgs N a0) 16 [.ept 1000000 0 2 0 0] [.arr true 50 2 [[s3 a0.L,vi a0.at_]] 0] (λ r=>.v (.bool r)) λ r=>[.arr true 50 2 [[s3 a0.L,vi a0.at_]] 0])/\(∀ N a0,OK (QcU N a0) 72 [.agg (e72 a0)] [] (λ r=>.v (.bool r)) λ r=>[])/\(∀ N a0,OK (QdS N a0) 210 [vu a0] [] (λ r=>.tup [vu r.1,.v (.bool r.2)]) λ r=>[])/\(∀ N a0,OK (Qac N a0) 89 [vi a0] [] (λ r=>.tup [.agg (e38 r.1),vu r.2.1,vi r.2.2]) λ r=>[])/\(∀ N a0 a1 a2,OK (QgY N a0 a1 a2) 218 [.agg (e35 a0),vi a1,.agg (e90 a2)] [] (λ r=>.agg (e35 r)) λ r=>[])/\(∀ N a0 a1 a2 a3,OK (Qfy N a0 a1 a2 a3) 101 [.agg (e42 a0),vu a1,vi a2,vu a3] [] (λ r=>.agg (e42 r)) λ r=>[])/\(∀ N a0,OK (Qde N a0) 256 [.agg (Xgh a0)] [] (λ r=>.v (.bool r)) λ r=>[])/\(∀ N a0 a1 a2,OK (Qf1 N a0 a1 a2) 196 [s76 a0,vu a1,vi a2] [] (λ r=>.tup [vi r.1,.v (.bool r.2)]) λ r=>[])/\(∀ N a0,OK (QeH N a0) 230 [vu a0] [] (λ r=>.v (.bool r)) λ r=>[])/\(∀ N a0 a1,OK (QdW N a0 a1) 179 [.agg (Xmy a0),vi a1] [] (λ r=>s88 r) λ r=>[])/\(∀ N a1,OK (Qbq N a1) 126 [.nsl,vi a1] [] (λ r=>.fsl 76 1 (r.map e76)) λ r=>[]):=by
 refine ⟨λ N _=>rk Tryz.f14 [.tmp 2] [] 13 ?_,λ N _=>rk Tryz.f16 [.tmp 2] [] 13 ?_,λ N _=>rk Tryz.f72 [.tmp 2] [] 40 ?_,λ N _=>rk Tryz.f210 [.tmp 2,.tmp 3] [] 14 ?_,λ N _=>rk Tryz.f89 [.cell 2 38,.tmp 3,.tmp 4] [] 7 ?_,λ N _ _ _=>rk Tryz.f218 [.cell 6 35] [] 18 ?_,λ N _ _ _ _=>rk Tryz.f101 [.cell 8 42] [] 38 ?_,λ N _=>rk Tryz.f256 [.tmp 2] [] 11 ?_,λ N _ _ _=>rk Tryz.f196 [.tmp 6,.tmp 7] [] 29 ?_,λ N _=>rk Tryz.f230 [.tmp 2] [] 6 ?_,λ N _ _=>rk Tryz.f179 [.tmp 4] [] 42 ?_,λ N _=>rk Tryz.f126 [.tmp 4] [1408] 27 ?_⟩<;>(rintro _ hw r hr C _ rfl hwf hf;simp only[Tryz.f14,Tryz.f16,Tryz.f72,Tryz.f210,Tryz.f89,Tryz.f218,Tryz.f101,Tryz.f256,Tryz.f196,Tryz.f230,Tryz.f179,Tryz.f126,Option.get!];(first|rw[QhD] at hr|rw[Qgs] at hr|rw[QcU] at hr|rw[QdS] at hr|rw[Qac] at hr|rw[QgY] at hr|rw[Qfy] at hr|rw[Qde] at hr|rw[Qf1] at hr|rw[QeH] at hr|rw[QdW] at hr|rw[Qbq] at hr);repeat' first
 |(refine El.el hr ?_;intro hr)
 |(with_reducible intro h;refine Xx hr h ?_;intro hr)
 |with_reducible intro _
 |simp only[go_sem,simprocAttr,Z6,XS,ZR,Kn,WC,WR,UM]
 |(with_reducible first|apply Xh|apply Xg|apply Xr|apply Xt|apply Xu)
 |((first|with_reducible refine Yn hr (by assumption) ?_ ?_|(with_reducible refine Yk hr ?_ ?_;rotate_left;intro p;rotate_right));(·simp only[go_sem,simprocAttr,WC,WR,UM]);intro hp hn hd hr;(try have Z6:=hd _ e74);(try simp only[go_sem,simprocAttr] at Z6);(try have XS:=hd _ e76);(try simp only[go_sem,simprocAttr] at XS);(try have ZR:=hd _ e90);(try simp only[go_sem,simprocAttr] at ZR);(try have Kn:=hd _ e94);(try simp only[go_sem,simprocAttr] at Kn))
 |(refine Xs ?_ ?_;·first|assumption|omega)
 |refine dc 16 1 hf 3 [(0,496,[]),(1,496,[]),(3,496,[]),(7,496,[]),(0,15,[]),(16,15,[]),(48,15,[]),(112,15,[]),(240,15,[]),(511,0,[]),(1023,0,[])] ?_
 |refine dc 179 2 hf 12 [(0,262136,[]),(1,262136,[]),(3,262136,[]),(0,261191,[]),(8,261191,[]),(24,261191,[]),(0,261183,[]),(120,261127,[]),(248,261127,[]),(504,261127,[]),(0,25599,[]),(1024,25599,[]),(3072,25599,[]),(0,8191,[]),(8192,8191,[]),(31744,1023,[]),(64512,1023,[]),(130048,1023,[]),(262143,0,[]),(524287,0,[])] ?_
 |refine dc 179 3 hf 31 [(0,1016,[]),(1,1016,[]),(3,1016,[]),(0,71,[]),(8,71,[]),(24,71,[]),(0,63,[]),(120,7,[]),(248,7,[]),(504,7,[]),(1023,0,[]),(2047,0,[])] ?_
 |(refine Xo hr ?_;rintro rfl;with_reducible refine XP ?_)
 |exact Yw hr
 |exact XV hr
 |(apply XW;assumption)
 |fail)
abbrev QnS:=g1.1
abbrev QjW:=g1.2.1
abbrev QmM:=g1.2.2.1
abbrev QlU:=g1.2.2.2.1
abbrev QlV:=g1.2.2.2.2.1
abbrev QoB:=g1.2.2.2.2.2.1
abbrev QoC:=g1.2.2.2.2.2.2.1
abbrev QiC:=g1.2.2.2.2.2.2.2.1
abbrev QmN:=g1.2.2.2.2.2.2.2.2.1
abbrev Qi1:=g1.2.2.2.2.2.2.2.2.2.1
abbrev Qim:=g1.2.2.2.2.2.2.2.2.2.2.1
abbrev Qg3:=g1.2.2.2.2.2.2.2.2.2.2.2
attribute [instance] QnS QjW QmM QlU QlV QoB QoC QiC QmN Qi1 Qim Qg3
instance QlW:∀ N (a0:List Int),OK (QcI N a0) 197 [.isl 76 1 (a0.map e76)] [] (λ r=>.fsl 76 1 (r.map e76)) λ r=>[]:=by
 refine λ N a0=>⟨λ G hw r hr=>?_⟩
 rw[QcI] at hr
 obtain rfl:=Ug hr
 obtain _|⟨x,l⟩:=a0
 refine Xd4 λ a cap=>?_
 obtain _|a:=a
 all_goals
  refine VC (fn:=Tryz.f197) (body:=(Tryz.f197.body).get!) (rs:=[.tmp 2]) 1000 [320] 8 (by kernel_rfl) (by kernel_rfl) (by kernel_rfl) (by kernel_rfl) (by kernel_rfl) (by simp) λ C _ hG hwf=>?_;subst hG;have hw2:=hwf;simp only[WfL,Wf,W0,and_true,Uc,XeF,Xn] at hw2;simp only[Tryz.f197,Option.get!]
  simp only[go_sem,simprocAttr]
  try refine ⟨by omega,?_⟩
  with_reducible refine XP ?_
  simp only[go_sem,simprocAttr]
end Go.Sx
