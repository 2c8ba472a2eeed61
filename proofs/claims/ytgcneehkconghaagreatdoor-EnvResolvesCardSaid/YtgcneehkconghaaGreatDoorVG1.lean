import Derived.Test.YtgcneehkconghaaGreatDoorVF
set_option linter.all false
namespace Go.Sx
open Go.Proofs
set_option maxRecDepth 10000
set_option maxHeartbeats 100000000
abbrev QjO:=λ N (a0:List Int) (a1:Int) (Q:(Ex Bool Unit)→Prop) n (st:St)=>∃ (v1:Int) (ex:_),QeA N a0 a1 n v1=some ex/\Q ex/\((st.n=18/\st.t 0=.isl 39 1 (a0.map e39)/\st.t 1=.v (.int .u64 a1)/\st.t 5=.v (.int .i64 v1)))
abbrev Qjf:=λ N (a0:Wn) (Q:Int→Prop) n (st:St)=>∃ (v1:Int) (ex:_),QcY N a0 n v1=some ex/\Q ex/\((∃ w128,st.n=15/\st.t 1=.v (.int .i64 v1)/\st.t 2=.ept 128 w128 6 0 0/\st.s 128=some (w128,.arr true 27 6 [e27 a0] 0)))
abbrev Qjg:=λ N (a0:Ww) (a2:Int) (Q:Int→Prop) n (st:St)=>∃ (v1:Int) (v2:Int) (ex:_),QcZ N a0 a2 n v1 v2=some ex/\Q ex/\((∃ w192,st.n=24/\st.t 2=.v (.int .i64 a2)/\st.t 3=.ept 192 w192 3 0 0/\st.t 7=.v (.int .i64 v1)/\st.t 8=.v (.int .i64 v2)/\st.s 192=some (w192,.arr true 32 3 [e32 a0] 0)))
abbrev Qiy:=λ N (a0:W0) (a1:Int) (Q:(Ex Bool Unit)→Prop) n (st:St)=>∃ (v1:Int) (ex:_),QdY N a0 a1 n v1=some ex/\Q ex/\((∃ w128,st.n=20/\st.t 1=.v (.int .i64 a1)/\st.t 2=.ept 128 w128 16 0 0/\st.t 5=.v (.int .i64 v1)/\st.s 128=some (w128,.arr true 232 16 [KC a0] 0)))
abbrev Qjh:=λ N (a1:Int) (a2:Int) (a3:Wv) (a4:Wv) (Q:(Ex (List Wv × Int) (List Wv))→Prop) n (st:St)=>∃ (v1:Int) (v2:List Wv) (ex:_),Qc0 N a1 a2 a3 a4 n v1 v2=some ex/\Q ex/\((∃ w1920 w512 w576,st.n=57/\st.s 1920=some (w1920,.arr false 175 4 (v2.map XG) 0)/\st.t 1=.v (.int .i64 a1)/\st.t 2=.v (.int .i64 a2)/\st.t 8=.ept 512 w512 4 0 0/\st.t 9=.ept 576 w576 4 0 0/\st.t 12=.osl 1920 w1920 4 0 v2.length/\st.t 13=.v (.int .i64 v1)/\st.s 512=some (w512,.arr true 175 4 [XG a3] 0)/\st.s 576=some (w576,.arr true 175 4 [XG a4] 0)))
abbrev Qh4:=λ N (a0:WM) (a1:List Int) (Q:(Ex Bool Unit)→Prop) n (st:St)=>∃ (v1:Int) (ex:_),QcN N a0 a1 n v1=some ex/\Q ex/\((∃ w128,st.n=21/\st.t 1=.isl 39 1 (a1.map e39)/\st.t 2=.ept 128 w128 10 0 0/\st.t 5=.v (.int .i64 v1)/\st.s 128=some (w128,.arr true 43 10 [e43 a0] 0)))
abbrev Qiz:=λ N (a0:List Wv) (Q:Int→Prop) n (st:St)=>∃ (v1:Int) (v2:Int) (ex:_),Qa3 N a0 n v1 v2=some ex/\Q ex/\((st.n=20/\st.t 0=.isl 175 4 (a0.map XG)/\st.t 3=.v (.int .i64 v1)/\st.t 4=.v (.int .i64 v2)))
abbrev QjP:=λ N (a0:Int) (Q:Int→Prop) n (st:St)=>∃ (v1:Int) (v2:Int) (ex:_),QeE N a0 n v1 v2=some ex/\Q ex/\((st.n=14/\st.t 3=.v (.int .u64 v1)/\st.t 6=.v (.int .i64 (if 64 < (if a0 < 0 then 0 else a0) then 64 else (if a0 < 0 then 0 else a0)))/\st.t 7=.v (.int .i64 v2)))
abbrev Qg8:=λ N (a0:Iz) (Q:(Ex Bool Unit)→Prop) n (st:St)=>∃ (v1:Int) (v2:Int) (ex:_),QaG N a0 n v1 v2=some ex/\Q ex/\((∃ w64,st.n=74/\st.t 1=.ept 64 w64 3 0 0/\st.t 3=.v (.int .i64 v1)/\st.t 27=.isl 98 3 (a0.Locals.Scopes.map e98)/\st.t 28=.v (.int .i64 ((a0.Locals.Scopes.length:Nat):Int))/\st.t 29=.v (.int .i64 v2)/\st.s 64=some (w64,.arr true 180 3 [e32 a0.Locals] 0)))
abbrev Qf7:=λ N (a0:List Int) (a1:Int) (Q:(Ex Int Unit)→Prop) n (st:St)=>∃ (v1:Int) (ex:_),QaP N a0 a1 n v1=some ex/\Q ex/\((st.n=19/\st.t 0=.isl 39 1 (a0.map e39)/\st.t 1=.v (.int .u64 a1)/\st.t 7=.v (.int .i64 ((a0.length:Nat):Int))/\st.t 8=.v (.int .i64 v1)))
abbrev Qji:=λ N (a0:List Wv) (Q:Int→Prop) n (st:St)=>∃ (v1:Int) (v2:Int) (ex:_),Qc5 N a0 n v1 v2=some ex/\Q ex/\((st.n=19/\st.t 3=.v (.int .i64 v1)/\st.t 6=.isl 175 4 (a0.map XG)/\st.t 7=.v (.int .i64 ((a0.length:Nat):Int))/\st.t 8=.v (.int .i64 v2)))
theorem g4:(∀ N (a0:List Int) (a1:Int),OK (QcA N a0 a1) 63 [.isl 39 1 (a0.map e39),.v (.int .u64 a1)] [] (λ r=>.v (.bool r)) λ r=>[])/\(∀ N (a0:Wn) (a1:Int),OK (Qei N a0 a1) 366 [.agg (e27 a0),.v (.int .i64 a1)] [] (λ r=>.v (.int .i64 r)) λ r=>[])/\(∀ N (a0:Ww) (a1:Int) (a2:Int),OK (Qfz N a0 a1 a2) 145 [.agg (e32 a0),.v (.int .i64 a1),.v (.int .i64 a2)] [] (λ r=>.v (.int .i64 r)) λ r=>[])/\(∀ N (a0:W0) (a1:Int),OK (Qgu N a0 a1) 330 [.agg (KC a0),.v (.int .i64 a1)] [] (λ r=>.v (.bool r)) λ r=>[])/\(∀ N (a0:List Wv) (a1:Int) (a2:Int) (a3:Wv) (a4:Wv),OK (Qcr N a0 a1 a2 a3 a4) 373 [.isl 175 4 (a0.map XG),.v (.int .i64 a1),.v (.int .i64 a2),.agg (XG a3),.agg (XG a4)] [] (λ r=>.tup [.fsl 175 4 (r.1.map XG),.v (.int .i64 r.2)]) λ r=>[])/\(∀ N (a0:WM) (a1:List Int),OK (QcO N a0 a1) 189 [.agg (e43 a0),.isl 39 1 (a1.map e39)] [] (λ r=>.v (.bool r)) λ r=>[])/\(∀ N (a0:List Wv),OK (Qci N a0) 360 [.isl 175 4 (a0.map XG)] [] (λ r=>.v (.int .i64 r)) λ r=>[])/\(∀ N (a0:Int),OK (Qbr N a0) 140 [.v (.int .i64 a0)] [] (λ r=>.v (.int .u64 r)) λ r=>[])/\(∀ N (a0:Iz),OK (Qc7 N a0) 127 [.agg (Xla a0)] [] (λ r=>.v (.bool r)) λ r=>[])/\(∀ N (a0:List Int) (a1:Int),OK (Qcv N a0 a1) 132 [.isl 39 1 (a0.map e39),.v (.int .u64 a1)] [] (λ r=>.v (.int .i64 r)) λ r=>[])/\(∀ N (a0:List Wv),OK (QfJ N a0) 303 [.isl 175 4 (a0.map XG)] [] (λ r=>.v (.int .i64 r)) λ r=>[]):=by
 refine ⟨λ N _ _=>rn Tryz.f63 [.tmp 4] [] 18 (by kernel_rfl) ?_,λ N _ _=>rn Tryz.f366 [.tmp 4] [] 15 (by kernel_rfl) ?_,λ N _ _ _=>rn Tryz.f145 [.tmp 6] [] 24 (by kernel_rfl) ?_,λ N _ _=>rn Tryz.f330 [.tmp 4] [] 20 (by kernel_rfl) ?_,λ N _ _ _ _ _=>rn Tryz.f373 [.tmp 10,.tmp 11] [1920] 57 (by kernel_rfl) ?_,λ N _ _=>rn Tryz.f189 [.tmp 4] [] 21 (by kernel_rfl) ?_,λ N _=>rn Tryz.f360 [.tmp 2] [] 20 (by kernel_rfl) ?_,λ N _=>rn Tryz.f140 [.tmp 2] [] 14 (by kernel_rfl) ?_,λ N _=>rn Tryz.f127 [.tmp 2] [] 74 (by kernel_rfl) ?_,λ N _ _=>rn Tryz.f132 [.tmp 4] [] 19 (by kernel_rfl) ?_,λ N _=>rn Tryz.f303 [.tmp 2] [] 19 (by kernel_rfl) ?_⟩<;>(rintro _ hw r hr C _ rfl hwf hf;simp only[Tryz.f63,Tryz.f366,Tryz.f145,Tryz.f330,Tryz.f373,Tryz.f189,Tryz.f360,Tryz.f140,Tryz.f127,Tryz.f132,Tryz.f303,Option.get!];(first|rw[QcA] at hr|rw[Qei] at hr|rw[Qfz] at hr|rw[Qgu] at hr|rw[Qcr] at hr|rw[QcO] at hr|rw[Qci] at hr|rw[Qbr] at hr|rw[Qc7] at hr|rw[Qcv] at hr|rw[QfJ] at hr);repeat' first
 |(refine El.el hr ?_;intro hr)
 |(with_reducible intro h;refine XA hr h ?_;intro hr)
 |with_reducible intro _
 |(refine Xn hr ?_;rintro rfl;have hr:=hk;clear hk)
 |simp only[go_sem,simprocAttr,E,hl3,XR,Js,Yk,XK]
 |(with_reducible first|apply Xk|apply Xj|apply Xo|apply Xt|apply Xu)
 |((first|with_reducible refine Ym hr (by assumption) ?_ ?_|(with_reducible refine Yi hr ?_ ?_;rotate_left;intro p;rotate_right));(·simp only[go_sem,simprocAttr]);intro hp hn hd hr;(try have hl3:=hd _ e3);(try simp only[go_sem,simprocAttr] at hl3);(try have XR:=hd _ e39);(try simp only[go_sem,simprocAttr] at XR);(try have Js:=hd _ e98);(try simp only[go_sem,simprocAttr] at Js);(try have Yk:=hd _ Zm);(try simp only[go_sem,simprocAttr] at Yk);(try have XK:=hd _ XG);(try simp only[go_sem,simprocAttr] at XK))
 |(refine Xp ?_ ?_;·first|assumption|omega)
 |(with_reducible refine Xf (I:=QjO N _ _) hr 1000 N (λ ex hq hk=>⟨_,ex,hq,hk,?_⟩) ?_ _;rotate_left;clear hr;(try clear E);rintro n1 st ⟨v1,ex,hr,hk,E⟩<;>(obtain _|n1:=n1<;>rw[QeA] at hr))
 |refine ⟨_,WD _,_,_,hr,hk,?_⟩
 |(with_reducible refine Xf (I:=Qjf N _) hr 1000 N (λ ex hq hk=>⟨_,ex,hq,hk,?_⟩) ?_ _;rotate_left;clear hr;(try clear E);rintro n1 st ⟨v1,ex,hr,hk,⟨_,E⟩⟩<;>(obtain _|n1:=n1<;>rw[QcY] at hr))
 |(with_reducible refine Xf (I:=Qjg N _ _) hr 1000 N (λ ex hq hk=>⟨_,_,ex,hq,hk,?_⟩) ?_ _;rotate_left;clear hr;(try clear E);rintro n1 st ⟨v1,v2,ex,hr,hk,⟨_,E⟩⟩<;>(obtain _|n1:=n1<;>rw[QcZ] at hr))
 |refine ⟨_,WD _,_,_,_,hr,hk,?_⟩
 |(with_reducible refine Xf (I:=Qiy N _ _) hr 1000 N (λ ex hq hk=>⟨_,ex,hq,hk,?_⟩) ?_ _;rotate_left;clear hr;(try clear E);rintro n1 st ⟨v1,ex,hr,hk,⟨_,E⟩⟩<;>(obtain _|n1:=n1<;>rw[QdY] at hr))
 |(with_reducible refine Xf (I:=Qjh N _ _ _ _) hr 1000 N (λ ex hq hk=>⟨_,_,ex,hq,hk,?_⟩) ?_ _;rotate_left;clear hr;(try clear E);rintro n1 st ⟨v1,v2,ex,hr,hk,⟨_,_,_,E⟩⟩<;>(obtain _|n1:=n1<;>rw[Qc0] at hr))
 |(with_reducible refine Xf (I:=Qh4 N _ _) hr 1000 N (λ ex hq hk=>⟨_,ex,hq,hk,?_⟩) ?_ _;rotate_left;clear hr;(try clear E);rintro n1 st ⟨v1,ex,hr,hk,⟨_,E⟩⟩<;>(obtain _|n1:=n1<;>rw[QcN] at hr))
 |(with_reducible refine Xf (I:=Qiz N _) hr 1000 N (λ ex hq hk=>⟨_,_,ex,hq,hk,?_⟩) ?_ _;rotate_left;clear hr;(try clear E);rintro n1 st ⟨v1,v2,ex,hr,hk,E⟩<;>(obtain _|n1:=n1<;>rw[Qa3] at hr))
 |(with_reducible refine Xf (I:=QjP N _) hr 1000 N (λ ex hq hk=>⟨_,_,ex,hq,hk,?_⟩) ?_ _;rotate_left;clear hr;(try clear E);rintro n1 st ⟨v1,v2,ex,hr,hk,E⟩<;>(obtain _|n1:=n1<;>rw[QeE] at hr))
 |(with_reducible refine Xf (I:=Qg8 N _) hr 1000 N (λ ex hq hk=>⟨_,_,ex,hq,hk,?_⟩) ?_ _;rotate_left;clear hr;(try clear E);rintro n1 st ⟨v1,v2,ex,hr,hk,⟨_,E⟩⟩<;>(obtain _|n1:=n1<;>rw[QaG] at hr))
 |(with_reducible refine Xf (I:=Qf7 N _ _) hr 1000 N (λ ex hq hk=>⟨_,ex,hq,hk,?_⟩) ?_ _;rotate_left;clear hr;(try clear E);rintro n1 st ⟨v1,ex,hr,hk,E⟩<;>(obtain _|n1:=n1<;>rw[QaP] at hr))
 |(with_reducible refine Xf (I:=Qji N _) hr 1000 N (λ ex hq hk=>⟨_,_,ex,hq,hk,?_⟩) ?_ _;rotate_left;clear hr;(try clear E);rintro n1 st ⟨v1,v2,ex,hr,hk,E⟩<;>(obtain _|n1:=n1<;>rw[Qc5] at hr))
 |refine db 189 4 hf 12 [(0,242,[]),(0,241,[]),(3,240,[]),(7,240,[]),(0,15,[]),(16,15,[]),(48,15,[]),(112,15,[]),(255,0,[])] rfl rfl (by kernel_rfl) ?_ _
 |(refine Xn hr ?_;rintro rfl;with_reducible refine XM ?_)
 |exact Yw hr
 |((first|refine XA (c:=true) hr rfl ?_|refine XA (c:=false) hr rfl ?_|refine XA hr (by assumption) ?_);intro hr)
 |fail)
@[reducible,instance] def QnQ:=g4.1
@[reducible,instance] def QmZ:=g4.2.1
@[reducible,instance] def Qm0:=g4.2.2.1
@[reducible,instance] def Ql2:=g4.2.2.2.1
@[reducible,instance] def Qm1:=g4.2.2.2.2.1
@[reducible,instance] def Qlw:=g4.2.2.2.2.2.1
@[reducible,instance] def Ql3:=g4.2.2.2.2.2.2.1
@[reducible,instance] def QnR:=g4.2.2.2.2.2.2.2.1
@[reducible,instance] def Qkq:=g4.2.2.2.2.2.2.2.2.1
@[reducible,instance] def QjQ:=g4.2.2.2.2.2.2.2.2.2.1
@[reducible,instance] def Qm2:=g4.2.2.2.2.2.2.2.2.2.2
theorem g1:(∀ N (a0:UU) (a1:Int),OK (Qaa N a0 a1) 39 [.ept 1000000 0 2 0 0,.v (.int .i64 a1)] [.arr true 60 2 [[.isl 3 1 (a0.L.map e3),.v (.int .i64 a0.at_)]] 0] (λ r=>.v (.int .i64 r.1)) λ r=>[.arr true 60 2 [[.isl 3 1 (r.2.L.map e3),.v (.int .i64 r.2.at_)]] 0])/\(∀ N (a0:Int),OK (Qf8 N a0) 267 [.v (.int .i64 a0)] [] (λ r=>.v (.bool r)) λ r=>[])/\(∀ N (a0:Wn) (a1:Int) (a2:Int),OK (QeX N a0 a1 a2) 369 [.agg (e27 a0),.v (.int .i64 a1),.v (.int .i64 a2)] [] (λ r=>.v (.int .u64 r)) λ r=>[])/\(∀ N (a0:W0) (a1:Int),OK (Qel N a0 a1) 324 [.agg (KC a0),.v (.int .u64 a1)] [] (λ r=>.agg (KC r)) λ r=>[])/\(∀ N (a0:Int) (a1:Int) (a2:Int),OK (Qb1 N a0 a1 a2) 115 [.v (.int .i64 a0),.v (.int .u64 a1),.v (.int .u64 a2)] [] (λ r=>.tup [.agg (e80 r.1),.v (.bool r.2)]) λ r=>[])/\(∀ N (a0:Ww) (a1:Int),OK (Qf3 N a0 a1) 215 [.agg (e32 a0),.v (.int .i64 a1)] [] (λ r=>.agg (e32 r)) λ r=>[])/\(∀ N (a0:Wn),OK (QgL N a0) 47 [.agg (e27 a0)] [] (λ r=>.v (.bool r)) λ r=>[])/\(∀ N (a0:Wv),OK (QbF N a0) 306 [.agg (Xfz a0)] [] (λ r=>.v (.bool r)) λ r=>[])/\(∀ N (a0:List Int) (a1:Int) (a2:Int),OK (Qet N a0 a1 a2) 309 [.isl 39 1 (a0.map e39),.v (.int .u64 a1),.v (.int .i64 a2)] [] (λ r=>.tup [.v (.int .i64 r.1),.v (.bool r.2)]) λ r=>[])/\(∀ N (a0:Int),OK (Qd7 N a0) 294 [.v (.int .u64 a0)] [] (λ r=>.v (.bool r)) λ r=>[])/\(∀ N (a0:Iz) (a1:Int),OK (Qdu N a0 a1) 221 [.agg (Xla a0),.v (.int .i64 a1)] [] (λ r=>.isl 115 3 (r.map Zm)) λ r=>[])/\(∀ N (a1:Int),OK (Qba N a1) 230 [.nsl,.v (.int .i64 a1)] [] (λ r=>.fsl 39 1 (r.map e39)) λ r=>[]):=by
 refine ⟨λ N _ _=>rn Tryz.f39 [.tmp 4] [] 48 (by kernel_rfl) ?_,λ N _=>rn Tryz.f267 [.tmp 2] [] 9 (by kernel_rfl) ?_,λ N _ _ _=>rn Tryz.f369 [.tmp 6] [] 16 (by kernel_rfl) ?_,λ N _ _=>rn Tryz.f324 [.cell 4 232] [] 20 (by kernel_rfl) ?_,λ N _ _ _=>rn Tryz.f115 [.cell 6 80,.tmp 7] [] 29 (by kernel_rfl) ?_,λ N _ _=>rn Tryz.f215 [.cell 4 32] [] 25 (by kernel_rfl) ?_,λ N _=>rn Tryz.f47 [.tmp 2] [] 13 (by kernel_rfl) ?_,λ N _=>rn Tryz.f306 [.tmp 2] [] 11 (by kernel_rfl) ?_,λ N _ _ _=>rn Tryz.f309 [.tmp 6,.tmp 7] [] 29 (by kernel_rfl) ?_,λ N _=>rn Tryz.f294 [.tmp 2] [] 6 (by kernel_rfl) ?_,λ N _ _=>rn Tryz.f221 [.tmp 4] [] 42 (by kernel_rfl) ?_,λ N _=>rn Tryz.f230 [.tmp 4] [1408] 27 (by kernel_rfl) ?_⟩<;>(rintro _ hw r hr C _ rfl hwf hf;simp only[Tryz.f39,Tryz.f267,Tryz.f369,Tryz.f324,Tryz.f115,Tryz.f215,Tryz.f47,Tryz.f306,Tryz.f309,Tryz.f294,Tryz.f221,Tryz.f230,Option.get!];(first|rw[Qaa] at hr|rw[Qf8] at hr|rw[QeX] at hr|rw[Qel] at hr|rw[Qb1] at hr|rw[Qf3] at hr|rw[QgL] at hr|rw[QbF] at hr|rw[Qet] at hr|rw[Qd7] at hr|rw[Qdu] at hr|rw[Qba] at hr);repeat' first
 |(refine El.el hr ?_;intro hr)
 |(with_reducible intro h;refine XA hr h ?_;intro hr)
 |with_reducible intro _
 |simp only[go_sem,simprocAttr,hl3,Js,Wz,WO,UL]
 |(with_reducible first|apply Xk|apply Xj|apply Xo|apply Xt|apply Xu)
 |((first|with_reducible refine Ym hr (by assumption) ?_ ?_|(with_reducible refine Yi hr ?_ ?_;rotate_left;intro p;rotate_right));(·simp only[go_sem,simprocAttr,Wz,WO,UL]);intro hp hn hd hr;(try have hl3:=hd _ e3);(try simp only[go_sem,simprocAttr] at hl3);(try have Js:=hd _ e98);(try simp only[go_sem,simprocAttr] at Js))
 |(refine Xp ?_ ?_;·first|assumption|omega)
 |refine db 39 4 hf 14 [(0,496,[]),(1,496,[]),(3,496,[]),(7,496,[]),(0,15,[]),(16,15,[]),(48,15,[]),(112,15,[]),(240,15,[]),(511,0,[])] rfl rfl (by kernel_rfl) ?_ _
 |refine db 39 5 hf 24 [(0,240,[]),(1,240,[]),(3,240,[]),(7,240,[]),(0,15,[]),(16,15,[]),(48,15,[]),(112,15,[]),(255,0,[]),(511,0,[]),(1023,0,[])] rfl rfl (by kernel_rfl) ?_ _
 |refine db 215 1 hf 5 [(0,1022,[[320],[]]),(0,505,[[],[320]]),(2,505,[[],[320]]),(0,39,[[],[320]]),(8,39,[[],[320]]),(0,31,[[],[320]]),(56,7,[[],[320]]),(120,7,[[],[320]]),(248,7,[[],[320]]),(510,1,[[],[320]]),(1023,0,[[320],[]]),(2047,0,[]),(4095,0,[[128],[]])] rfl rfl (by kernel_rfl) ?_ _
 |refine db 221 2 hf 12 [(0,262136,[]),(1,262136,[]),(3,262136,[]),(0,261191,[]),(8,261191,[]),(24,261191,[]),(0,261183,[]),(120,261127,[]),(248,261127,[]),(504,261127,[]),(0,25599,[]),(1024,25599,[]),(3072,25599,[]),(0,8191,[]),(8192,8191,[]),(31744,1023,[]),(64512,1023,[]),(130048,1023,[]),(262143,0,[]),(524287,0,[])] rfl rfl (by kernel_rfl) ?_ _
 |refine db 221 3 hf 31 [(0,1016,[]),(1,1016,[]),(3,1016,[]),(0,71,[]),(8,71,[]),(24,71,[]),(0,63,[]),(120,7,[]),(248,7,[]),(504,7,[]),(1023,0,[]),(2047,0,[])] rfl rfl (by kernel_rfl) ?_ _
 |(refine Xn hr ?_;rintro rfl;with_reducible refine XM ?_)
 |exact Yw hr
 |fail)
@[reducible,instance] def QkN:=g1.1
@[reducible,instance] def Qm3:=g1.2.1
@[reducible,instance] def Qk3:=g1.2.2.1
@[reducible,instance] def Qm4:=g1.2.2.2.1
@[reducible,instance] def Ql4:=g1.2.2.2.2.1
@[reducible,instance] def QnS:=g1.2.2.2.2.2.1
@[reducible,instance] def Qm5:=g1.2.2.2.2.2.2.1
@[reducible,instance] def Qkt:=g1.2.2.2.2.2.2.2.1
@[reducible,instance] def Ql5:=g1.2.2.2.2.2.2.2.2.1
@[reducible,instance] def Qkz:=g1.2.2.2.2.2.2.2.2.2.1
@[reducible,instance] def Qks:=g1.2.2.2.2.2.2.2.2.2.2.1
@[reducible,instance] def QiY:=g1.2.2.2.2.2.2.2.2.2.2.2
end Go.Sx
