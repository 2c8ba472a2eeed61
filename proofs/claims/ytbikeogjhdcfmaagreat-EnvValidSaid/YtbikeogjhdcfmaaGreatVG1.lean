import Derived.Test.YtbikeogjhdcfmaaGreatVF
set_option linter.all false
namespace Go.Sx
open Go.Proofs
set_option maxRecDepth 10000
set_option maxHeartbeats 100000000
abbrev Qhz:=λ N (a0:List Wv) (a1:List Wv) (Q:(Ex Bool Unit)→Prop) n (st:St)=>∃ (v1:Int) (ex:_),QbH N a0 a1 n v1=some ex/\Q ex/\((st.n=26/\st.t 0=.isl 108 4 (a0.map XF)/\st.t 1=.isl 108 4 (a1.map XF)/\st.t 5=.v (.int .i64 v1)))
abbrev Qjs:=λ N (a0:WG) (a1:WG) (Q:(Ex Bool Unit)→Prop) n (st:St)=>∃ (v1:Int) (ex:_),Qe3 N a0 a1 n v1=some ex/\Q ex/\((∃ w128 w192,st.n=31/\st.t 2=.ept 128 w128 1 0 0/\st.t 3=.ept 192 w192 1 0 0/\st.t 5=.v (.int .i64 v1)/\st.s 128=some (w128,.arr true 35 1 [e35 a0] 0)/\st.s 192=some (w192,.arr true 35 1 [e35 a1] 0)))
abbrev Qj4:=λ N (a0:List Int) (a1:Int) (Q:(Ex Bool Unit)→Prop) n (st:St)=>∃ (v1:Int) (ex:_),QeC N a0 a1 n v1=some ex/\Q ex/\((st.n=18/\st.t 0=.isl 71 1 (a0.map e71)/\st.t 1=.v (.int .u64 a1)/\st.t 5=.v (.int .i64 v1)))
abbrev Qjt:=λ N (a0:Wn) (Q:Int→Prop) n (st:St)=>∃ (v1:Int) (ex:_),QcZ N a0 n v1=some ex/\Q ex/\((∃ w128,st.n=15/\st.t 1=.v (.int .i64 v1)/\st.t 2=.ept 128 w128 6 0 0/\st.s 128=some (w128,.arr true 27 6 [e27 a0] 0)))
abbrev Qju:=λ N (a0:Ww) (a2:Int) (Q:Int→Prop) n (st:St)=>∃ (v1:Int) (v2:Int) (ex:_),Qc0 N a0 a2 n v1 v2=some ex/\Q ex/\((∃ w192,st.n=24/\st.t 2=.v (.int .i64 a2)/\st.t 3=.ept 192 w192 3 0 0/\st.t 7=.v (.int .i64 v1)/\st.t 8=.v (.int .i64 v2)/\st.s 192=some (w192,.arr true 32 3 [e32 a0] 0)))
abbrev QiG:=λ N (a0:WY) (a1:Int) (Q:(Ex Bool Unit)→Prop) n (st:St)=>∃ (v1:Int) (ex:_),QdY N a0 a1 n v1=some ex/\Q ex/\((∃ w128,st.n=20/\st.t 1=.v (.int .i64 a1)/\st.t 2=.ept 128 w128 16 0 0/\st.t 5=.v (.int .i64 v1)/\st.s 128=some (w128,.arr true 257 16 [Kv a0] 0)))
abbrev Qjv:=λ N (a1:Int) (a2:Int) (a3:Wv) (a4:Wv) (Q:(Ex (List Wv × Int) (List Wv))→Prop) n (st:St)=>∃ (v1:Int) (v2:List Wv) (ex:_),Qc1 N a1 a2 a3 a4 n v1 v2=some ex/\Q ex/\((∃ w1920 w512 w576,st.n=57/\st.s 1920=some (w1920,.arr false 108 4 (v2.map XF) 0)/\st.t 1=.v (.int .i64 a1)/\st.t 2=.v (.int .i64 a2)/\st.t 8=.ept 512 w512 4 0 0/\st.t 9=.ept 576 w576 4 0 0/\st.t 12=.osl 1920 w1920 4 0 v2.length/\st.t 13=.v (.int .i64 v1)/\st.s 512=some (w512,.arr true 108 4 [XF a3] 0)/\st.s 576=some (w576,.arr true 108 4 [XF a4] 0)))
abbrev Qid:=λ N (a0:WM) (a1:List Int) (Q:(Ex Bool Unit)→Prop) n (st:St)=>∃ (v1:Int) (ex:_),QcO N a0 a1 n v1=some ex/\Q ex/\((∃ w128,st.n=21/\st.t 1=.isl 71 1 (a1.map e71)/\st.t 2=.ept 128 w128 10 0 0/\st.t 5=.v (.int .i64 v1)/\st.s 128=some (w128,.arr true 59 10 [e59 a0] 0)))
abbrev QiH:=λ N (a0:List Wv) (Q:Int→Prop) n (st:St)=>∃ (v1:Int) (v2:Int) (ex:_),Qa1 N a0 n v1 v2=some ex/\Q ex/\((st.n=20/\st.t 0=.isl 108 4 (a0.map XF)/\st.t 3=.v (.int .i64 v1)/\st.t 4=.v (.int .i64 v2)))
abbrev QgV:=λ N (a0:Iu) (Q:(Ex Bool Unit)→Prop) n (st:St)=>∃ (v1:Int) (v2:Int) (ex:_),QaK N a0 n v1 v2=some ex/\Q ex/\((∃ w64,st.n=51/\st.t 1=.ept 64 w64 3 0 0/\st.t 3=.v (.int .i64 v1)/\st.t 8=.isl 88 3 (a0.Locals.Slots.map e88)/\st.t 9=.v (.int .i64 ((a0.Locals.Slots.length:Nat):Int))/\st.t 10=.v (.int .i64 v2)/\st.s 64=some (w64,.arr true 110 3 [Xgv a0] 0)))
abbrev QhK:=λ N (a0:List UJ) (Q:(List Int)→Prop) n (st:St)=>∃ (v1:Int) (v2:List Int) (ex:_),QcY N a0 n v1 v2=some ex/\Q ex/\((∃ w1024,st.n=19/\st.s 1024=some (w1024,.arr false 71 1 (v2.map e71) 0)/\st.t 3=.osl 1024 w1024 1 0 v2.length/\st.t 6=.isl 162 4 (a0.map KK)/\st.t 7=.v (.int .i64 ((a0.length:Nat):Int))/\st.t 8=.v (.int .i64 v1))\/((st.n=19/\st.t 3=.nsl/\st.t 6=.isl 162 4 (a0.map KK)/\st.t 7=.v (.int .i64 ((a0.length:Nat):Int))/\st.t 8=.v (.int .i64 v1))/\v2=[]))
abbrev Qjw:=λ N (a0:Wn) (Q:Int→Prop) n (st:St)=>∃ (v1:Int) (ex:_),Qed N a0 n v1=some ex/\Q ex/\((∃ w128,st.n=19/\st.t 1=.v (.int .i64 v1)/\st.t 2=.ept 128 w128 6 0 0/\st.s 128=some (w128,.arr true 27 6 [e27 a0] 0)))
abbrev Qjx:=λ N (a0:List Wv) (Q:Int→Prop) n (st:St)=>∃ (v1:Int) (v2:Int) (ex:_),Qc6 N a0 n v1 v2=some ex/\Q ex/\((st.n=19/\st.t 3=.v (.int .i64 v1)/\st.t 6=.isl 108 4 (a0.map XF)/\st.t 7=.v (.int .i64 ((a0.length:Nat):Int))/\st.t 8=.v (.int .i64 v2)))
theorem g5:(∀ N (a0:List Wv) (a1:List Wv),OK (Qeh N a0 a1) 43 [.isl 108 4 (a0.map XF),.isl 108 4 (a1.map XF)] [] (λ r=>.v (.bool r)) λ r=>[])/\(∀ N (a0:WG) (a1:WG),OK (QfE N a0 a1) 18 [.agg (e35 a0),.agg (e35 a1)] [] (λ r=>.v (.bool r)) λ r=>[])/\(∀ N (a0:List Int) (a1:Int),OK (QcC N a0 a1) 34 [.isl 71 1 (a0.map e71),.v (.int .u64 a1)] [] (λ r=>.v (.bool r)) λ r=>[])/\(∀ N (a0:Wn) (a1:Int),OK (Qej N a0 a1) 278 [.agg (e27 a0),.v (.int .i64 a1)] [] (λ r=>.v (.int .i64 r)) λ r=>[])/\(∀ N (a0:Ww) (a1:Int) (a2:Int),OK (QfH N a0 a1 a2) 70 [.agg (e32 a0),.v (.int .i64 a1),.v (.int .i64 a2)] [] (λ r=>.v (.int .i64 r)) λ r=>[])/\(∀ N (a0:WY) (a1:Int),OK (QgD N a0 a1) 299 [.agg (Kv a0),.v (.int .i64 a1)] [] (λ r=>.v (.bool r)) λ r=>[])/\(∀ N (a0:List Wv) (a1:Int) (a2:Int) (a3:Wv) (a4:Wv),OK (Qct N a0 a1 a2 a3 a4) 314 [.isl 108 4 (a0.map XF),.v (.int .i64 a1),.v (.int .i64 a2),.agg (XF a3),.agg (XF a4)] [] (λ r=>.tup [.fsl 108 4 (r.1.map XF),.v (.int .i64 r.2)]) λ r=>[])/\(∀ N (a0:WM) (a1:List Int),OK (QcP N a0 a1) 186 [.agg (e59 a0),.isl 71 1 (a1.map e71)] [] (λ r=>.v (.bool r)) λ r=>[])/\(∀ N (a0:List Wv),OK (Qck N a0) 310 [.isl 108 4 (a0.map XF)] [] (λ r=>.v (.int .i64 r)) λ r=>[])/\(∀ N (a0:Iu),OK (QcT N a0) 56 [.agg (Xgv a0)] [] (λ r=>.v (.bool r)) λ r=>[])/\(∀ N (a0:List UJ),OK (Qb8 N a0) 91 [.isl 162 4 (a0.map KK)] [] (λ r=>.isl 71 1 (r.map e71)) λ r=>[])/\(∀ N (a0:Wn) (a1:Int),OK (Qgq N a0 a1) 270 [.agg (e27 a0),.v (.int .i64 a1)] [] (λ r=>.v (.int .i64 r)) λ r=>[])/\(∀ N (a0:List Wv),OK (QfT N a0) 240 [.isl 108 4 (a0.map XF)] [] (λ r=>.v (.int .i64 r)) λ r=>[]):=by
 refine ⟨λ N _ _=>rn Tryz.f43 [.tmp 4] [] 26 (by kernel_rfl) ?_,λ N _ _=>rn Tryz.f18 [.tmp 4] [] 31 (by kernel_rfl) ?_,λ N _ _=>rn Tryz.f34 [.tmp 4] [] 18 (by kernel_rfl) ?_,λ N _ _=>rn Tryz.f278 [.tmp 4] [] 15 (by kernel_rfl) ?_,λ N _ _ _=>rn Tryz.f70 [.tmp 6] [] 24 (by kernel_rfl) ?_,λ N _ _=>rn Tryz.f299 [.tmp 4] [] 20 (by kernel_rfl) ?_,λ N _ _ _ _ _=>rn Tryz.f314 [.tmp 10,.tmp 11] [1920] 57 (by kernel_rfl) ?_,λ N _ _=>rn Tryz.f186 [.tmp 4] [] 21 (by kernel_rfl) ?_,λ N _=>rn Tryz.f310 [.tmp 2] [] 20 (by kernel_rfl) ?_,λ N _=>rn Tryz.f56 [.tmp 2] [] 51 (by kernel_rfl) ?_,λ N _=>rn Tryz.f91 [.tmp 2] [] 19 (by kernel_rfl) ?_,λ N _ _=>rn Tryz.f270 [.tmp 4] [] 19 (by kernel_rfl) ?_,λ N _=>rn Tryz.f240 [.tmp 2] [] 19 (by kernel_rfl) ?_⟩<;>(rintro _ hw r hr C _ rfl hwf hf;simp only[Tryz.f43,Tryz.f18,Tryz.f34,Tryz.f278,Tryz.f70,Tryz.f299,Tryz.f314,Tryz.f186,Tryz.f310,Tryz.f56,Tryz.f91,Tryz.f270,Tryz.f240,Option.get!];(first|rw[Qeh] at hr|rw[QfE] at hr|rw[QcC] at hr|rw[Qej] at hr|rw[QfH] at hr|rw[QgD] at hr|rw[Qct] at hr|rw[QcP] at hr|rw[Qck] at hr|rw[QcT] at hr|rw[Qb8] at hr|rw[Qgq] at hr|rw[QfT] at hr);repeat' first
 |(refine El.el hr ?_;intro hr)
 |(with_reducible intro h;refine XB hr h ?_;intro hr)
 |with_reducible intro _
 |(refine Xn hr ?_;rintro rfl;have hr:=hk;clear hk)
 |simp only[go_sem,simprocAttr,E,hl3,XU,ZB,Z8,XK,V3]
 |(with_reducible first|apply Xk|apply Xj|apply Xp|apply Xr|apply Xs)
 |((first|with_reducible refine Yk hr (by assumption) ?_ ?_|(with_reducible refine Yf hr ?_ ?_;rotate_left;intro p;rotate_right));(·simp only[go_sem,simprocAttr]);intro hp hn hd hr;(try have hl3:=hd _ e3);(try simp only[go_sem,simprocAttr] at hl3);(try have XU:=hd _ e71);(try simp only[go_sem,simprocAttr] at XU);(try have ZB:=hd _ e88);(try simp only[go_sem,simprocAttr] at ZB);(try have Z8:=hd _ e92);(try simp only[go_sem,simprocAttr] at Z8);(try have XK:=hd _ XF);(try simp only[go_sem,simprocAttr] at XK);(try have V3:=hd _ KK);(try simp only[go_sem,simprocAttr] at V3))
 |(refine Xq ?_ ?_;·first|assumption|omega)
 |(with_reducible refine Xf (I:=Qhz N _ _) hr 1000 N (λ ex hq hk=>⟨_,ex,hq,hk,?_⟩) ?_ _;rotate_left;clear hr;(try clear E);rintro n1 st ⟨v1,ex,hr,hk,E⟩<;>(obtain _|n1:=n1<;>rw[QbH] at hr))
 |refine ⟨_,WD _,_,_,hr,hk,?_⟩
 |(with_reducible refine Xf (I:=Qjs N _ _) hr 1000 N (λ ex hq hk=>⟨_,ex,hq,hk,?_⟩) ?_ _;rotate_left;clear hr;(try clear E);rintro n1 st ⟨v1,ex,hr,hk,⟨_,_,E⟩⟩<;>(obtain _|n1:=n1<;>rw[Qe3] at hr))
 |(with_reducible refine Xf (I:=Qj4 N _ _) hr 1000 N (λ ex hq hk=>⟨_,ex,hq,hk,?_⟩) ?_ _;rotate_left;clear hr;(try clear E);rintro n1 st ⟨v1,ex,hr,hk,E⟩<;>(obtain _|n1:=n1<;>rw[QeC] at hr))
 |(with_reducible refine Xf (I:=Qjt N _) hr 1000 N (λ ex hq hk=>⟨_,ex,hq,hk,?_⟩) ?_ _;rotate_left;clear hr;(try clear E);rintro n1 st ⟨v1,ex,hr,hk,⟨_,E⟩⟩<;>(obtain _|n1:=n1<;>rw[QcZ] at hr))
 |(with_reducible refine Xf (I:=Qju N _ _) hr 1000 N (λ ex hq hk=>⟨_,_,ex,hq,hk,?_⟩) ?_ _;rotate_left;clear hr;(try clear E);rintro n1 st ⟨v1,v2,ex,hr,hk,⟨_,E⟩⟩<;>(obtain _|n1:=n1<;>rw[Qc0] at hr))
 |refine ⟨_,WD _,_,_,_,hr,hk,?_⟩
 |(with_reducible refine Xf (I:=QiG N _ _) hr 1000 N (λ ex hq hk=>⟨_,ex,hq,hk,?_⟩) ?_ _;rotate_left;clear hr;(try clear E);rintro n1 st ⟨v1,ex,hr,hk,⟨_,E⟩⟩<;>(obtain _|n1:=n1<;>rw[QdY] at hr))
 |(with_reducible refine Xf (I:=Qjv N _ _ _ _) hr 1000 N (λ ex hq hk=>⟨_,_,ex,hq,hk,?_⟩) ?_ _;rotate_left;clear hr;(try clear E);rintro n1 st ⟨v1,v2,ex,hr,hk,⟨_,_,_,E⟩⟩<;>(obtain _|n1:=n1<;>rw[Qc1] at hr))
 |(with_reducible refine Xf (I:=Qid N _ _) hr 1000 N (λ ex hq hk=>⟨_,ex,hq,hk,?_⟩) ?_ _;rotate_left;clear hr;(try clear E);rintro n1 st ⟨v1,ex,hr,hk,⟨_,E⟩⟩<;>(obtain _|n1:=n1<;>rw[QcO] at hr))
 |(with_reducible refine Xf (I:=QiH N _) hr 1000 N (λ ex hq hk=>⟨_,_,ex,hq,hk,?_⟩) ?_ _;rotate_left;clear hr;(try clear E);rintro n1 st ⟨v1,v2,ex,hr,hk,E⟩<;>(obtain _|n1:=n1<;>rw[Qa1] at hr))
 |(with_reducible refine Xf (I:=QgV N _) hr 1000 N (λ ex hq hk=>⟨_,_,ex,hq,hk,?_⟩) ?_ _;rotate_left;clear hr;(try clear E);rintro n1 st ⟨v1,v2,ex,hr,hk,⟨_,E⟩⟩<;>(obtain _|n1:=n1<;>rw[QaK] at hr))
 |(with_reducible refine Xf (I:=QhK N _) hr 1000 N (λ ex hq hk=>⟨_,_,ex,hq,hk,?_⟩) ?_ _;rotate_left;clear hr;(try clear E);rintro n1 st ⟨v1,v2,ex,hr,hk,(⟨_,E⟩|⟨E,z0⟩)⟩<;>(try subst z0)<;>(obtain _|n1:=n1<;>rw[QcY] at hr))
 |(with_reducible refine Xf (I:=Qjw N _) hr 1000 N (λ ex hq hk=>⟨_,ex,hq,hk,?_⟩) ?_ _;rotate_left;clear hr;(try clear E);rintro n1 st ⟨v1,ex,hr,hk,⟨_,E⟩⟩<;>(obtain _|n1:=n1<;>rw[Qed] at hr))
 |(with_reducible refine Xf (I:=Qjx N _) hr 1000 N (λ ex hq hk=>⟨_,_,ex,hq,hk,?_⟩) ?_ _;rotate_left;clear hr;(try clear E);rintro n1 st ⟨v1,v2,ex,hr,hk,E⟩<;>(obtain _|n1:=n1<;>rw[Qc6] at hr))
 |refine db 43 6 hf 17 [(0,242,[]),(0,241,[]),(3,240,[]),(7,240,[]),(0,47,[]),(0,31,[]),(48,15,[]),(112,15,[]),(255,0,[])] rfl rfl (by kernel_rfl) ?_ _
 |refine db 18 6 hf 20 [(0,996,[]),(1,996,[]),(0,995,[]),(7,992,[]),(15,992,[]),(0,159,[]),(32,159,[]),(0,127,[]),(224,31,[]),(480,31,[]),(1023,0,[])] rfl rfl (by kernel_rfl) ?_ _
 |refine db 186 4 hf 12 [(0,242,[]),(0,241,[]),(3,240,[]),(7,240,[]),(0,15,[]),(16,15,[]),(48,15,[]),(112,15,[]),(255,0,[])] rfl rfl (by kernel_rfl) ?_ _
 |(refine Xn hr ?_;rintro rfl;with_reducible refine XM ?_)
 |exact Yw hr
 |((first|refine XB (c:=true) hr rfl ?_|refine XB (c:=false) hr rfl ?_|refine XB hr (by assumption) ?_);intro hr)
 |fail)
@[reducible,instance] def QkT:=g5.1
@[reducible,instance] def Qnd:=g5.2.1
@[reducible,instance] def Qn9:=g5.2.2.1
@[reducible,instance] def Qne:=g5.2.2.2.1
@[reducible,instance] def Qnf:=g5.2.2.2.2.1
@[reducible,instance] def Qmg:=g5.2.2.2.2.2.1
@[reducible,instance] def Qng:=g5.2.2.2.2.2.2.1
@[reducible,instance] def QlL:=g5.2.2.2.2.2.2.2.1
@[reducible,instance] def Qmh:=g5.2.2.2.2.2.2.2.2.1
@[reducible,instance] def QkB:=g5.2.2.2.2.2.2.2.2.2.1
@[reducible,instance] def Qk1:=g5.2.2.2.2.2.2.2.2.2.2.1
@[reducible,instance] def Qnh:=g5.2.2.2.2.2.2.2.2.2.2.2.1
@[reducible,instance] def Qni:=g5.2.2.2.2.2.2.2.2.2.2.2.2
theorem g1:(∀ N (a0:WQ),OK (QaT N a0) 40 [.agg (e23 a0)] [] (λ r=>.v (.bool r)) λ r=>[])/\(∀ N (a0:UU) (a1:Int),OK (Qaa N a0 a1) 48 [.ept 1000000 0 2 0 0,.v (.int .i64 a1)] [.arr true 66 2 [[.isl 3 1 (a0.L.map e3),.v (.int .i64 a0.at_)]] 0] (λ r=>.v (.int .i64 r.1)) λ r=>[.arr true 66 2 [[.isl 3 1 (r.2.L.map e3),.v (.int .i64 r.2.at_)]] 0])/\(∀ N (a0:List Int) (a1:Int) (a2:Int),OK (Qdl N a0 a1 a2) 283 [.isl 71 1 (a0.map e71),.v (.int .u64 a1),.v (.int .i64 a2)] [] (λ r=>.tup [.v (.int .i64 r.1),.v (.bool r.2)]) λ r=>[])/\(∀ N (a0:Ww) (a1:Int),OK (QgY N a0 a1) 71 [.agg (e32 a0),.v (.int .i64 a1)] [] (λ r=>.v (.int .i64 r)) λ r=>[])/\(∀ N (a0:Int),OK (Qdz N a0) 297 [.v (.int .u64 a0)] [] (λ r=>.tup [.v (.int .u64 r.1),.v (.int .i64 r.2)]) λ r=>[])/\(∀ N (a0:Iy),OK (Qf3 N a0) 262 [.agg (Xm5 a0)] [] (λ r=>.v (.bool r)) λ r=>[])/\(∀ N (a0:W8) (a1:W8) (a2:Int) (a3:Int) (a4:Int),OK (QdB N a0 a1 a2 a3 a4) 81 [.agg (e38 a0),.agg (e38 a1),.v (.int .i64 a2),.v (.int .u64 a3),.v (.int .i64 a4)] [] (λ r=>.agg (Xoo r)) λ r=>[])/\(∀ N (a0:Ua),OK (Qfb N a0) 59 [.agg (e92 a0)] [] (λ r=>.v (.bool r)) λ r=>[])/\(∀ N (a0:Int),OK (Qfc N a0) 54 [.v (.int .i64 a0)] [] (λ r=>.v (.bool r)) λ r=>[])/\(∀ N (a0:Wv),OK (QcX N a0) 284 [.agg (Xfy a0)] [] (λ r=>.v (.bool r)) λ r=>[])/\(∀ N (a0:Int),OK (Qgr N a0) 271 [.v (.int .u64 a0)] [] (λ r=>.v (.bool r)) λ r=>[])/\(∀ N (a0:Int),OK (Qc8 N a0) 96 [.v (.int .u64 a0)] [] (λ r=>.v (.bool r)) λ r=>[]):=by
 refine ⟨λ N _=>rn Tryz.f40 [.tmp 2] [] 27 (by kernel_rfl) ?_,λ N _ _=>rn Tryz.f48 [.tmp 4] [] 48 (by kernel_rfl) ?_,λ N _ _ _=>rn Tryz.f283 [.tmp 6,.tmp 7] [] 29 (by kernel_rfl) ?_,λ N _ _=>rn Tryz.f71 [.tmp 4] [] 21 (by kernel_rfl) ?_,λ N _=>rn Tryz.f297 [.tmp 2,.tmp 3] [] 9 (by kernel_rfl) ?_,λ N _=>rn Tryz.f262 [.tmp 2] [] 31 (by kernel_rfl) ?_,λ N _ _ _ _ _=>rn Tryz.f81 [.cell 10 140] [] 44 (by kernel_rfl) ?_,λ N _=>rn Tryz.f59 [.tmp 2] [] 21 (by kernel_rfl) ?_,λ N _=>rn Tryz.f54 [.tmp 2] [] 9 (by kernel_rfl) ?_,λ N _=>rn Tryz.f284 [.tmp 2] [] 11 (by kernel_rfl) ?_,λ N _=>rn Tryz.f271 [.tmp 2] [] 5 (by kernel_rfl) ?_,λ N _=>rn Tryz.f96 [.tmp 2] [] 6 (by kernel_rfl) ?_⟩<;>(rintro _ hw r hr C _ rfl hwf hf;simp only[Tryz.f40,Tryz.f48,Tryz.f283,Tryz.f71,Tryz.f297,Tryz.f262,Tryz.f81,Tryz.f59,Tryz.f54,Tryz.f284,Tryz.f271,Tryz.f96,Option.get!];(first|rw[QaT] at hr|rw[Qaa] at hr|rw[Qdl] at hr|rw[QgY] at hr|rw[Qdz] at hr|rw[Qf3] at hr|rw[QdB] at hr|rw[Qfb] at hr|rw[Qfc] at hr|rw[QcX] at hr|rw[Qgr] at hr|rw[Qc8] at hr);repeat' first
 |(refine El.el hr ?_;intro hr)
 |(with_reducible intro h;refine XB hr h ?_;intro hr)
 |with_reducible intro _
 |simp only[go_sem,simprocAttr,hl3,Jn]
 |(with_reducible first|apply Xk|apply Xj|apply Xp|apply Xr|apply Xs)
 |((first|with_reducible refine Yk hr (by assumption) ?_ ?_|(with_reducible refine Yf hr ?_ ?_;rotate_left;intro p;rotate_right));(·simp only[go_sem,simprocAttr]);intro hp hn hd hr;(try have hl3:=hd _ e3);(try simp only[go_sem,simprocAttr] at hl3);(try have Jn:=hd _ e90);(try simp only[go_sem,simprocAttr] at Jn))
 |(refine Xq ?_ ?_;·first|assumption|omega)
 |refine db 48 4 hf 14 [(0,496,[]),(1,496,[]),(3,496,[]),(7,496,[]),(0,15,[]),(16,15,[]),(48,15,[]),(112,15,[]),(240,15,[]),(511,0,[])] rfl rfl (by kernel_rfl) ?_ _
 |refine db 48 5 hf 24 [(0,240,[]),(1,240,[]),(3,240,[]),(7,240,[]),(0,15,[]),(16,15,[]),(48,15,[]),(112,15,[]),(255,0,[]),(511,0,[]),(1023,0,[])] rfl rfl (by kernel_rfl) ?_ _
 |(refine Xn hr ?_;rintro rfl;with_reducible refine XM ?_)
 |exact Yw hr
 |fail)
@[reducible,instance] def Qk2:=g1.1
@[reducible,instance] def Qk3:=g1.2.1
@[reducible,instance] def Qnj:=g1.2.2.1
@[reducible,instance] def QoF:=g1.2.2.2.1
@[reducible,instance] def Qlj:=g1.2.2.2.2.1
@[reducible,instance] def Qmi:=g1.2.2.2.2.2.1
@[reducible,instance] def Qlk:=g1.2.2.2.2.2.2.1
@[reducible,instance] def Qll:=g1.2.2.2.2.2.2.2.1
@[reducible,instance] def Qlm:=g1.2.2.2.2.2.2.2.2.1
@[reducible,instance] def QkI:=g1.2.2.2.2.2.2.2.2.2.1
@[reducible,instance] def QlM:=g1.2.2.2.2.2.2.2.2.2.2.1
@[reducible,instance] def QkG:=g1.2.2.2.2.2.2.2.2.2.2.2
theorem g3:(∀ N (a0:WQ),OK (Qaw N a0) 42 [.agg (e23 a0)] [] (λ r=>.v (.bool r)) λ r=>[])/\(∀ N (a0:Int),OK (Qgk N a0) 226 [.v (.int .i64 a0)] [] (λ r=>.v (.bool r)) λ r=>[])/\(∀ N (a0:Wn) (a1:Int) (a2:Int),OK (Qe5 N a0 a1 a2) 281 [.agg (e27 a0),.v (.int .i64 a1),.v (.int .i64 a2)] [] (λ r=>.v (.int .u64 r)) λ r=>[])/\(∀ N (a0:WY) (a1:Int),OK (Qem N a0 a1) 294 [.agg (Kv a0),.v (.int .u64 a1)] [] (λ r=>.agg (Kv r)) λ r=>[])/\(∀ N (a0:Int) (a1:Int) (a2:Int),OK (Qb0 N a0 a1 a2) 133 [.v (.int .i64 a0),.v (.int .u64 a1),.v (.int .u64 a2)] [] (λ r=>.tup [.agg (e82 r.1),.v (.bool r.2)]) λ r=>[])/\(∀ N (a0:Ww) (a1:Int),OK (Qgd N a0 a1) 217 [.agg (e32 a0),.v (.int .i64 a1)] [] (λ r=>.agg (e32 r)) λ r=>[])/\(∀ N (a0:Wn),OK (QgT N a0) 50 [.agg (e27 a0)] [] (λ r=>.v (.bool r)) λ r=>[])/\(∀ N (a0:Iu) (a1:Int),OK (Qdv N a0 a1) 88 [.agg (Xgv a0),.v (.int .i64 a1)] [] (λ r=>.isl 88 3 (r.map e88)) λ r=>[])/\(∀ N (a0:Wv),OK (QbD N a0) 243 [.agg (Xfy a0)] [] (λ r=>.v (.bool r)) λ r=>[])/\(∀ N (a0:List Int) (a1:Int) (a2:Int),OK (Qew N a0 a1 a2) 246 [.isl 71 1 (a0.map e71),.v (.int .u64 a1),.v (.int .i64 a2)] [] (λ r=>.tup [.v (.int .i64 r.1),.v (.bool r.2)]) λ r=>[])/\(∀ N (a0:Int),OK (Qd7 N a0) 147 [.v (.int .u64 a0)] [] (λ r=>.v (.bool r)) λ r=>[]):=by
 refine ⟨λ N _=>rn Tryz.f42 [.tmp 2] [] 27 (by kernel_rfl) ?_,λ N _=>rn Tryz.f226 [.tmp 2] [] 9 (by kernel_rfl) ?_,λ N _ _ _=>rn Tryz.f281 [.tmp 6] [] 16 (by kernel_rfl) ?_,λ N _ _=>rn Tryz.f294 [.cell 4 257] [] 20 (by kernel_rfl) ?_,λ N _ _ _=>rn Tryz.f133 [.cell 6 82,.tmp 7] [] 29 (by kernel_rfl) ?_,λ N _ _=>rn Tryz.f217 [.cell 4 32] [] 25 (by kernel_rfl) ?_,λ N _=>rn Tryz.f50 [.tmp 2] [] 13 (by kernel_rfl) ?_,λ N _ _=>rn Tryz.f88 [.tmp 4] [] 42 (by kernel_rfl) ?_,λ N _=>rn Tryz.f243 [.tmp 2] [] 11 (by kernel_rfl) ?_,λ N _ _ _=>rn Tryz.f246 [.tmp 6,.tmp 7] [] 29 (by kernel_rfl) ?_,λ N _=>rn Tryz.f147 [.tmp 2] [] 6 (by kernel_rfl) ?_⟩<;>(rintro _ hw r hr C _ rfl hwf hf;simp only[Tryz.f42,Tryz.f226,Tryz.f281,Tryz.f294,Tryz.f133,Tryz.f217,Tryz.f50,Tryz.f88,Tryz.f243,Tryz.f246,Tryz.f147,Option.get!];(first|rw[Qaw] at hr|rw[Qgk] at hr|rw[Qe5] at hr|rw[Qem] at hr|rw[Qb0] at hr|rw[Qgd] at hr|rw[QgT] at hr|rw[Qdv] at hr|rw[QbD] at hr|rw[Qew] at hr|rw[Qd7] at hr);repeat' first
 |(refine El.el hr ?_;intro hr)
 |(with_reducible intro h;refine XB hr h ?_;intro hr)
 |with_reducible intro _
 |simp only[go_sem,simprocAttr,Jn,Wy,WN,Uz]
 |(with_reducible first|apply Xk|apply Xj|apply Xp|apply Xr|apply Xs)
 |((first|with_reducible refine Yk hr (by assumption) ?_ ?_|(with_reducible refine Yf hr ?_ ?_;rotate_left;intro p;rotate_right));(·simp only[go_sem,simprocAttr,Wy,WN,Uz]);intro hp hn hd hr;(try have Jn:=hd _ e90);(try simp only[go_sem,simprocAttr] at Jn))
 |(refine Xq ?_ ?_;·first|assumption|omega)
 |refine db 217 1 hf 5 [(0,1022,[[320],[]]),(0,505,[[],[320]]),(2,505,[[],[320]]),(0,39,[[],[320]]),(8,39,[[],[320]]),(0,31,[[],[320]]),(56,7,[[],[320]]),(120,7,[[],[320]]),(248,7,[[],[320]]),(510,1,[[],[320]]),(1023,0,[[320],[]]),(2047,0,[]),(4095,0,[[128],[]])] rfl rfl (by kernel_rfl) ?_ _
 |refine db 88 2 hf 12 [(0,262136,[]),(1,262136,[]),(3,262136,[]),(0,261191,[]),(8,261191,[]),(24,261191,[]),(0,261183,[]),(120,261127,[]),(248,261127,[]),(504,261127,[]),(0,25599,[]),(1024,25599,[]),(3072,25599,[]),(0,8191,[]),(8192,8191,[]),(31744,1023,[]),(64512,1023,[]),(130048,1023,[]),(262143,0,[]),(524287,0,[])] rfl rfl (by kernel_rfl) ?_ _
 |refine db 88 3 hf 31 [(0,1016,[]),(1,1016,[]),(3,1016,[]),(0,71,[]),(8,71,[]),(24,71,[]),(0,63,[]),(120,7,[]),(248,7,[]),(504,7,[]),(1023,0,[]),(2047,0,[])] rfl rfl (by kernel_rfl) ?_ _
 |(refine Xn hr ?_;rintro rfl;with_reducible refine XM ?_)
 |exact Yw hr
 |fail)
@[reducible,instance] def QkU:=g3.1
@[reducible,instance] def Qnk:=g3.2.1
@[reducible,instance] def Qln:=g3.2.2.1
@[reducible,instance] def Qnl:=g3.2.2.2.1
@[reducible,instance] def Qmj:=g3.2.2.2.2.1
@[reducible,instance] def Qoa:=g3.2.2.2.2.2.1
@[reducible,instance] def Qnm:=g3.2.2.2.2.2.2.1
@[reducible,instance] def QkH:=g3.2.2.2.2.2.2.2.1
@[reducible,instance] def QkJ:=g3.2.2.2.2.2.2.2.2.1
@[reducible,instance] def Qmk:=g3.2.2.2.2.2.2.2.2.2.1
@[reducible,instance] def QkN:=g3.2.2.2.2.2.2.2.2.2.2
instance QiI:∀ N (a0:List UX),OK (QcW N a0) 158 [.isl 88 3 (a0.map e88)] [] (λ r=>.fsl 88 3 (r.map e88)) λ r=>[]:=by
 refine λ N a0=>⟨λ G hw r hr=>?_⟩
 rw[QcW] at hr
 obtain rfl:=WV hr
 obtain _|⟨x,l⟩:=a0
 refine YJ λ a cap=>?_
 obtain _|a:=a
 all_goals
  refine Yl (fn:=Tryz.f158) (body:=(Tryz.f158.body).get!) (rs:=[.tmp 2]) 1000 [320] 8 (by kernel_rfl) (by kernel_rfl) (by kernel_rfl) (by kernel_rfl) (by kernel_rfl) (by simp) λ C _ hG hwf=>?_;subst hG;have hw2:=hwf;simp only[WfL,Wf,W3,and_true,Ub,Xd0,Xl] at hw2;simp only[Tryz.f158,Option.get!]
  simp only[go_sem,simprocAttr]
  try refine ⟨by omega,?_⟩
  with_reducible refine XM ?_
  simp only[go_sem,simprocAttr]
instance Qj5:∀ N (a0:List Int),OK (Qay N a0) 109 [.isl 71 1 (a0.map e71)] [] (λ r=>.fsl 71 1 (r.map e71)) λ r=>[]:=by
 refine λ N a0=>⟨λ G hw r hr=>?_⟩
 rw[Qay] at hr
 obtain rfl:=WV hr
 obtain _|⟨x,l⟩:=a0
 refine YJ λ a cap=>?_
 obtain _|a:=a
 all_goals
  refine Yl (fn:=Tryz.f109) (body:=(Tryz.f109.body).get!) (rs:=[.tmp 2]) 1000 [320] 8 (by kernel_rfl) (by kernel_rfl) (by kernel_rfl) (by kernel_rfl) (by kernel_rfl) (by simp) λ C _ hG hwf=>?_;subst hG;have hw2:=hwf;simp only[WfL,Wf,W3,and_true,Ub,XdY,Xl] at hw2;simp only[Tryz.f109,Option.get!]
  simp only[go_sem,simprocAttr]
  try refine ⟨by omega,?_⟩
  with_reducible refine XM ?_
  simp only[go_sem,simprocAttr]
end Go.Sx
