import Derived.Test.YtjmgebidnekjdaaGreatLG8
import Derived.Test.YtjmgebidnekjdaaGreatLG9
set_option linter.all false
namespace Go.Sx
open Go.Proofs
set_option maxRecDepth 10000
set_option maxHeartbeats 100000000
abbrev Qkk:=λ N a1 (Q:(Ex (Uk × List Int × Int) (Int × Int × List Int × List WM × Int × Int × List Int × List Int × List Int × Int × Int × Int × Int × Int × Int × Int × List Int))→Prop) n (st:St)=>∃ v1 v2 v3 v4 v5 v6 v7 v8 v9 v10 v11 v12 v13 v14 v15 v16 v17 v18 ex,QbS N a1 n v1 v2 v3 v4 v5 v6 v7 v8 v9 v10 v11 v12 v13 v14 v15 v16 v17 v18=some ex/\Q ex/\((∃ w2304 w128 w256,st.n=39/\st.s 2304=some (w2304,.arr false 76 1 (v18.map e76) 0)/\st.t 1=s76 a1/\st.t 2=.ept 128 w128 16 0 0/\st.t 4=.ept 256 w256 16 0 0/\st.t 7=.osl 2304 w2304 1 0 v18.length/\st.t 8=vi v1/\st.s 128=some (w128,.arr true 216 16 [[vi v2,vi v3,s76 v4,Y3 v5,vi v6,vi v7,s76 v8,s3 v9,s76 v10,vi v11,vi v12,vi v13,vi v14,vi v15,vi v16,vi v17]] 0)/\st.s 256=some (w256,.arr true 216 16 [[vi 0,vi 0,.nsl,.nsl,vi 0,vi 0,.nsl,.nsl,.nsl,vi 0,vi 0,vi 0,vi 0,vi 0,vi 0,vi 0]] 0))\/(∃ w128 w256,(st.n=39/\st.t 1=s76 a1/\st.t 2=.ept 128 w128 16 0 0/\st.t 4=.ept 256 w256 16 0 0/\st.t 7=.nsl/\st.t 8=vi v1/\st.s 128=some (w128,.arr true 216 16 [[vi v2,vi v3,s76 v4,Y3 v5,vi v6,vi v7,s76 v8,s3 v9,s76 v10,vi v11,vi v12,vi v13,vi v14,vi v15,vi v16,vi v17]] 0)/\st.s 256=some (w256,.arr true 216 16 [[vi 0,vi 0,.nsl,.nsl,vi 0,vi 0,.nsl,.nsl,.nsl,vi 0,vi 0,vi 0,vi 0,vi 0,vi 0,vi 0]] 0))/\v18=[]))
abbrev Qlm:=λ N p1 y3 (Q:(Ex (Uk × Bool × Int) (Int × Int × List Int × List WM × Int × Int × List Int × List Int × List Int × Int × Int × Int × Int × Int × Int × Int))→Prop) n (st:St)=>∃ v4 v5 v6 v7 v8 v9 v10 v11 v12 v13 v14 v15 v16 v17 v18 v19 v20 ex,Qce N p1 y3 n v4 v5 v6 v7 v8 v9 v10 v11 v12 v13 v14 v15 v16 v17 v18 v19 v20=some ex/\Q ex/\((∃ w64 w128,st.n=90/\st.t 1=.ept 64 w64 16 0 0/\st.t 2=.ept 128 w128 16 0 0/\st.t 5=vu p1/\st.t 6=s3 y3/\st.t 7=vi v4/\st.s 64=some (w64,.arr true 216 16 [[vi v5,vi v6,s76 v7,Y3 v8,vi v9,vi v10,s76 v11,s3 v12,s76 v13,vi v14,vi v15,vi v16,vi v17,vi v18,vi v19,vi v20]] 0)/\st.s 128=some (w128,.arr true 216 16 [[vi 0,vi 0,.nsl,.nsl,vi 0,vi 0,.nsl,.nsl,.nsl,vi 0,vi 0,vi 0,vi 0,vi 0,vi 0,vi 0]] 0)))
abbrev Qln:=λ N a0 (Q:(List Int × Int)→Prop) n (st:St)=>∃ v1 v2 v3 ex,Qbh N a0 n v1 v2 v3=some ex/\Q ex/\((∃ w64 w128,st.n=84/\st.t 1=.ept 64 w64 16 0 0/\st.t 2=.ept 128 w128 16 0 0/\st.t 3=vi v1/\st.s 64=some (w64,.arr true 216 16 [[vi a0.Heap.Conf.PageWords,vi a0.Heap.Conf.Pages,s76 v2,Y3 a0.Heap.Pages,vi a0.Heap.Space,vi a0.Heap.Bump,s76 a0.Old,s3 a0.Taken,s76 a0.Queue,vi a0.Scanned,vi a0.Report.Copied,vi a0.Report.Kept,vi v3,vi a0.Report.Freed,vi a0.Report.Cleared,vi a0.Report.Steps]] 0)/\st.s 128=some (w128,.arr true 216 16 [[vi 0,vi 0,.nsl,.nsl,vi 0,vi 0,.nsl,.nsl,.nsl,vi 0,vi 0,vi 0,vi 0,vi 0,vi 0,vi 0]] 0)))
abbrev Qi9:=λ N a0 (Q:(List Bool)→Prop) n (st:St)=>∃ v3 v4 v5 ex,Qb3 N a0 n v3 v4 v5=some ex/\Q ex/\((∃ w768 w896 w64,st.n=56/\st.s 768=some (w768,.arr false 4 1 (v4.map e4) 0)/\st.s 896=some (w896,.arr false 76 1 (v5.map e76) 0)/\st.t 1=.ept 64 w64 10 0 0/\st.t 3=.osl 768 w768 1 0 v4.length/\st.t 4=.osl 896 w896 1 0 v5.length/\st.t 5=vi v3/\st.s 64=some (w64,.arr true 42 10 [e42 a0] 0)))
abbrev Qme:=λ N a1 a2 p1 x5 y6 (Q:(Ex Int Unit)→Prop) n (st:St)=>∃ v7 ex,Qfo N a1 a2 p1 x5 y6 n v7=some ex/\Q ex/\((∃ w512,st.n=66/\st.t 8=.ept 512 w512 4 0 0/\st.t 9=vi y6/\st.t 54=.isl 136 4 (((a1.drop (wI (a2 + 1)).toNat).take ((wI (a2 + y6)).toNat - (wI (a2 + 1)).toNat)).map Yp)/\st.t 55=vi (((min ((wI (a2 + y6)).toNat - (wI (a2 + 1)).toNat) (a1.length - (wI (a2 + 1)).toNat)):Nat):Int)/\st.t 56=vi v7/\st.s 512=some (w512,.arr true 310 4 [[vi x5,vi p1.Space,vi p1.Used,vi p1.Pins]] 0)))
abbrev Qlo:=λ N a0 (Q:(List Int)→Prop) n (st:St)=>∃ v2 v3 ex,Qd7 N a0 n v2 v3=some ex/\Q ex/\((∃ w1408,st.n=25/\st.s 1408=some (w1408,.arr false 76 1 (v3.map e76) 0)/\st.t 3=.osl 1408 w1408 1 0 v3.length/\st.t 10=s90 a0.Entries/\st.t 11=vi a0.Entries.length/\st.t 12=vi v2)\/((st.n=25/\st.t 3=.nsl/\st.t 10=s90 a0.Entries/\st.t 11=vi a0.Entries.length/\st.t 12=vi v2)/\v3=[]))
abbrev Qfg:=λ N a0 c0 (Q:(Ex Int Unit)→Prop) n (st:St)=>∃ v1 ex,Qap N a0 c0 n v1=some ex/\Q ex/\((st.n=19/\st.t 0=s76 a0/\st.t 1=.clo (.func 119) [] [.ept 1000000 0 1 0 0]/\st.t 7=vi a0.length/\st.t 8=vi v1/\st.s 1000000=some (0,.arr true 24 1 [[s76 c0]] 0)))
abbrev Qlp:=λ N a0 (Q:(List Int)→Prop) n (st:St)=>∃ v2 v3 ex,Qd8 N a0 n v2 v3=some ex/\Q ex/\((∃ w1408,st.n=25/\st.s 1408=some (w1408,.arr false 76 1 (v3.map e76) 0)/\st.t 3=.osl 1408 w1408 1 0 v3.length/\st.t 10=s88 a0.Slots/\st.t 11=vi a0.Slots.length/\st.t 12=vi v2)\/((st.n=25/\st.t 3=.nsl/\st.t 10=s88 a0.Slots/\st.t 11=vi a0.Slots.length/\st.t 12=vi v2)/\v3=[]))
abbrev Qh6:=λ N a0 (Q:(Ex Bool Unit)→Prop) n (st:St)=>∃ v1 ex,QbE N a0 n v1=some ex/\Q ex/\((∃ w64,st.n=47/\st.t 1=.ept 64 w64 10 0 0/\st.t 6=KS a0.Marks/\st.t 7=vi a0.Marks.length/\st.t 8=vi v1/\st.s 64=some (w64,.arr true 61 10 [e61 a0] 0)))
def g20:(∀ N a0 a1,OK (Qe8 N a0 a1) 141 [.agg (KR a0),s76 a1] [] (λ r=>.tup [.agg (KR r.1),s76 r.2.1,vi r.2.2]) λ r=>[])/\(∀ N a0,OK (QfD N a0) 209 [.agg (KR a0)] [] (λ r=>.tup [.agg (KR r.1),.v (.bool r.2.1),vi r.2.2]) λ r=>[])/\(∀ N a0,OK (QfE N a0) 145 [.agg (KR a0)] [] (λ r=>.agg (KR r)) λ r=>[])/\(∀ N a0,OK (QfN N a0) 88 [.agg (e42 a0)] [] (λ r=>s4 r) λ r=>[])/\(∀ N a0 a1 a2,OK (Qht N a0 a1 a2) 192 [.agg (e23 a0),Y3 a1,vi a2] [] (λ r=>vi r) λ r=>[])/\(∀ N a0,OK (QdQ N a0) 48 [.agg (e35 a0)] [] (λ r=>s76 r) λ r=>[])/\(∀ N a0 c0,OK (Qa7 N a0 c0) 185 [s76 a0,.clo (.func 119) [] [.ept 1000000 0 1 0 0]] [.arr true 24 1 [[s76 c0]] 0] (λ r=>vi r) λ r=>[.arr true 24 1 [[s76 c0]] 0])/\(∀ N a0,OK (QgD N a0) 56 [.agg (e32 a0)] [] (λ r=>s76 r) λ r=>[])/\(∀ N a0,OK (QdY N a0) 57 [.agg (e61 a0)] [] (λ r=>.v (.bool r)) λ r=>[]):=by
 refine ⟨λ N _ _=>rk Tryz.f141 [.cell 4 216,.tmp 5,.tmp 6] [] 39 ?_,λ N _=>rk Tryz.f209 [.cell 2 216,.tmp 3,.tmp 4] [] 90 ?_,λ N _=>rk Tryz.f145 [.cell 2 216] [] 84 ?_,λ N _=>rk Tryz.f88 [.tmp 2] [] 56 ?_,λ N _ _ _=>rk Tryz.f192 [.tmp 6] [] 66 ?_,λ N _=>rk Tryz.f48 [.tmp 2] [] 25 ?_,λ N _ _=>rk Tryz.f185 [.tmp 4] [] 19 ?_,λ N _=>rk Tryz.f56 [.tmp 2] [] 25 ?_,λ N _=>rk Tryz.f57 [.tmp 2] [] 47 ?_⟩<;>(rintro _ hw r hr C _ rfl hwf hf;simp only[Tryz.f141,Tryz.f209,Tryz.f145,Tryz.f88,Tryz.f192,Tryz.f48,Tryz.f185,Tryz.f56,Tryz.f57,Option.get!];(first|rw[Qe8] at hr|rw[QfD] at hr|rw[QfE] at hr|rw[QfN] at hr|rw[Qht] at hr|rw[QdQ] at hr|rw[Qa7] at hr|rw[QgD] at hr|rw[QdY] at hr);repeat' first
 |(refine El.el hr ?_;intro hr)
 |(with_reducible intro h;refine Xx hr h ?_;intro hr)
 |with_reducible intro _
 |(refine Xo hr ?_;rintro rfl;have hr:=hk;clear hk)
 |simp only[go_sem,simprocAttr,E,hK,hl3,hl4,Z6,XS,Y2,ZR,VH,XE,WC,WR,UM]
 |(with_reducible first|apply Xh|apply Xg|apply Xr|apply Xt|apply Xu)
 |((first|with_reducible refine Yn hr (by assumption) ?_ ?_|(with_reducible refine Yk hr ?_ ?_;rotate_left;intro p;rotate_right));(·simp only[go_sem,simprocAttr,WC,WR,UM]);intro hp hn hd hr;(try have hl3:=hd _ e3);(try simp only[go_sem,simprocAttr] at hl3);(try have hl4:=hd _ e4);(try simp only[go_sem,simprocAttr] at hl4);(try have Z6:=hd _ e74);(try simp only[go_sem,simprocAttr] at Z6);(try have XS:=hd _ e76);(try simp only[go_sem,simprocAttr] at XS);(try have Y2:=hd _ e88);(try simp only[go_sem,simprocAttr] at Y2);(try have ZR:=hd _ e90);(try simp only[go_sem,simprocAttr] at ZR);(try have VH:=hd _ XeH);(try simp only[go_sem,simprocAttr] at VH);(try have XE:=hd _ Yp);(try simp only[go_sem,simprocAttr] at XE))
 |(refine Xs ?_ ?_;·first|assumption|omega)
 |(with_reducible first|refine CallX.c ?_ _|refine OK.c hr hw ?_ (λ y hr=>?_) _|refine Ol hr hw ?_ (λ y hr=>?_) _)
 |(with_reducible refine lp (Qkk N _) hr N ?_ (λ ex hq hk=>⟨_,_,_,_,_,_,_,_,_,_,_,_,_,_,_,_,_,_,ex,hq,hk,?_⟩) _;clear hr;(try clear E);rintro n1 st ⟨v1,v2,v3,v4,v5,v6,v7,v8,v9,v10,v11,v12,v13,v14,v15,v16,v17,v18,ex,hr,hk,(⟨_,_,_,E⟩|⟨_,_,E,z0⟩)⟩<;>(try subst z0)<;>(obtain _|n1:=n1<;>rw[QbS] at hr))
 |refine ⟨_,WH _,_,_,_,_,_,_,_,_,_,_,_,_,_,_,_,_,_,_,_,hr,hk,?_⟩
 |(with_reducible refine lp (Qlm N _ _) hr N ?_ (λ ex hq hk=>⟨_,_,_,_,_,_,_,_,_,_,_,_,_,_,_,_,_,ex,hq,hk,?_⟩) _;clear hr;(try clear E);rintro n1 st ⟨v4,v5,v6,v7,v8,v9,v10,v11,v12,v13,v14,v15,v16,v17,v18,v19,v20,ex,hr,hk,⟨_,_,E⟩⟩<;>(obtain _|n1:=n1<;>rw[Qce] at hr))
 |refine ⟨_,WH _,_,_,_,_,_,_,_,_,_,_,_,_,_,_,_,_,_,_,hr,hk,?_⟩
 |(with_reducible refine lp (Qln N _) hr N ?_ (λ ex hq hk=>⟨_,_,_,ex,hq,hk,?_⟩) _;clear hr;(try clear E);rintro n1 st ⟨v1,v2,v3,ex,hr,hk,⟨_,_,E⟩⟩<;>(obtain _|n1:=n1<;>rw[Qbh] at hr))
 |refine ⟨_,WH _,_,_,_,_,hr,hk,?_⟩
 |(with_reducible refine lp (Qi9 N _) hr N ?_ (λ ex hq hk=>⟨_,_,_,ex,hq,hk,?_⟩) _;clear hr;(try clear E);rintro n1 st ⟨v3,v4,v5,ex,hr,hk,⟨_,_,_,E⟩⟩<;>(obtain _|n1:=n1<;>rw[Qb3] at hr))
 |(with_reducible refine lp (Qme N _ _ _ _ _) hr N ?_ (λ ex hq hk=>⟨_,ex,hq,hk,?_⟩) _;clear hr;(try clear E);rintro n1 st ⟨v7,ex,hr,hk,⟨_,E⟩⟩<;>(obtain _|n1:=n1<;>rw[Qfo] at hr))
 |refine ⟨_,WH _,_,_,hr,hk,?_⟩
 |(with_reducible refine lp (Qlo N _) hr N ?_ (λ ex hq hk=>⟨_,_,ex,hq,hk,?_⟩) _;clear hr;(try clear E);rintro n1 st ⟨v2,v3,ex,hr,hk,(⟨_,E⟩|⟨E,z0⟩)⟩<;>(try subst z0)<;>(obtain _|n1:=n1<;>rw[Qd7] at hr))
 |refine ⟨_,WH _,_,_,_,hr,hk,?_⟩
 |(with_reducible refine lp (Qfg N _ _) hr N ?_ (λ ex hq hk=>⟨_,ex,hq,hk,?_⟩) _;clear hr;(try clear E);rintro n1 st ⟨v1,ex,hr,hk,E⟩<;>(obtain _|n1:=n1<;>rw[Qap] at hr))
 |(with_reducible refine lp (Qlp N _) hr N ?_ (λ ex hq hk=>⟨_,_,ex,hq,hk,?_⟩) _;clear hr;(try clear E);rintro n1 st ⟨v2,v3,ex,hr,hk,(⟨_,E⟩|⟨E,z0⟩)⟩<;>(try subst z0)<;>(obtain _|n1:=n1<;>rw[Qd8] at hr))
 |(with_reducible refine lp (Qh6 N _) hr N ?_ (λ ex hq hk=>⟨_,ex,hq,hk,?_⟩) _;clear hr;(try clear E);rintro n1 st ⟨v1,ex,hr,hk,⟨_,E⟩⟩<;>(obtain _|n1:=n1<;>rw[QbE] at hr))
 |refine dc 141 5 hf 9 [(0,30721,[[],[576]]),(0,5121,[[],[576]]),(0,3073,[[],[576]]),(6,1025,[[],[576]]),(14,1025,[[],[576]]),(31,1,[[],[576]]),(63,1,[[],[576]]),(127,393217,[[],[576]]),(127,327681,[[],[576]]),(127,196611,[[],[576]]),(0,523776,[[576],[]]),(1279,393216,[[576],[]]),(3583,262144,[]),(8191,0,[])] ?_
 |refine dc 141 8 hf 32 [(0,30,[[],[2240,2304]]),(0,13,[[],[2240]]),(0,3,[]),(4,3,[[2240],[]]),(14,1,[[2304],[]]),(31,0,[[128],[]]),(63,0,[])] ?_
 |refine dc 145 4 hf 4 [(0,4063232,[]),(1,4063232,[]),(3,4063232,[]),(0,638976,[]),(8,638976,[]),(0,507904,[]),(56,114688,[]),(120,114688,[]),(255,0,[]),(511,0,[]),(1023,50331648,[]),(1023,41943041,[]),(1023,25165827,[]),(2047,50331648,[]),(12287,33554432,[]),(32767,0,[])] ?_
 |refine dc 145 5 hf 30 [(0,2,[]),(0,1,[]),(3,0,[]),(7,0,[]),(15,0,[]),(31,3968,[]),(63,3968,[]),(31,608,[]),(159,608,[]),(31,480,[]),(927,96,[]),(1951,96,[]),(4095,0,[]),(8191,0,[])] ?_
 |refine dc 145 6 hf 7 [(0,8521215115265,[[],[448]]),(0,1236950581249,[[],[448]]),(2,1236950581249,[[],[448]]),(0,962072674305,[[],[448]]),(14,137438953473,[[],[448]]),(30,137438953473,[[],[448]]),(63,1,[[],[448]]),(0,17454747090944,[[448],[]]),(255,0,[[448],[]])] ?_
 |refine dc 145 8 hf 59 [(0,8184,[[],[4352]]),(1,8184,[[],[4352]]),(3,8184,[[],[4352]]),(0,7975,[[],[4352]]),(8,7975,[[],[4352]]),(0,7967,[[],[4352]]),(56,7943,[[],[4352]]),(120,7943,[[],[4352]]),(0,3327,[]),(256,3327,[[4352],[]]),(0,1023,[[],[4352]]),(1024,1023,[[],[4352]]),(3840,255,[[4352],[]]),(8191,0,[[4352],[]]),(16383,0,[]),(32767,32768,[]),(32767,212992,[[],[64]]),(65535,32768,[]),(196607,32768,[]),(458751,32768,[[64],[]])] ?_
 |refine dc 88 10 hf 43 [(0,2046,[]),(0,249,[]),(2,249,[]),(0,23,[]),(0,15,[]),(24,7,[]),(56,7,[]),(120,7,[]),(254,1,[]),(510,1,[]),(1022,1,[]),(2047,0,[[896],[]]),(4095,0,[])] ?_
 |refine dc 192 3 hf 26 [(0,0,[]),(1,0,[]),(3,0,[]),(7,0,[]),(15,0,[]),(31,0,[]),(63,0,[]),(127,0,[]),(255,0,[]),(511,48,[]),(1023,48,[]),(2047,48,[]),(4095,48,[]),(511,47,[]),(511,31,[]),(32767,0,[]),(65535,0,[]),(131071,0,[])] ?_
 |(refine Xo hr ?_;rintro rfl;with_reducible refine XP ?_)
 |exact Yw hr
 |exact XV hr
 |(apply XW;assumption)
 |((first|refine Xx (c:=true) hr rfl ?_|refine Xx (c:=false) hr rfl ?_|refine Xx hr (by assumption) ?_);intro hr)
 |(with_reducible refine Xtf hr ?_ ?_<;>intro hK hr<;>try simp only[hK])
 |fail)
abbrev Qnd:=g20.1
abbrev Qoj:=g20.2.1
abbrev Qok:=g20.2.2.1
abbrev Qlq:=g20.2.2.2.1
abbrev QoQ:=g20.2.2.2.2.1
abbrev Qol:=g20.2.2.2.2.2.1
abbrev QfK:=g20.2.2.2.2.2.2.1
abbrev Qom:=g20.2.2.2.2.2.2.2.1
abbrev Qip:=g20.2.2.2.2.2.2.2.2
attribute [instance] Qnd Qoj Qok Qlq QoQ Qol QfK Qom Qip
end Go.Sx
