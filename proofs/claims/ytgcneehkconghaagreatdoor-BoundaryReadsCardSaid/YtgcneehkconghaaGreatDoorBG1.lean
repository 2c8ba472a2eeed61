import Derived.Test.YtgcneehkconghaaGreatDoorBF
set_option linter.all false
namespace Go.Sx
open Go.Proofs
set_option maxRecDepth 10000
set_option maxHeartbeats 100000000
abbrev Qj2:=λ N (a0:List Int) (a1:Int) (Q:(Ex Bool Unit)→Prop) n (st:St)=>∃ (v1:Int) (ex:_),Qer N a0 a1 n v1=some ex/\Q ex/\((st.n=18/\st.t 0=.isl 39 1 (a0.map e39)/\st.t 1=.v (.int .u64 a1)/\st.t 5=.v (.int .i64 v1)))
abbrev Qjs:=λ N (a0:Wo) (Q:Int→Prop) n (st:St)=>∃ (v1:Int) (ex:_),QcB N a0 n v1=some ex/\Q ex/\((∃ w128,st.n=15/\st.t 1=.v (.int .i64 v1)/\st.t 2=.ept 128 w128 6 0 0/\st.s 128=some (w128,.arr true 27 6 [e27 a0] 0)))
abbrev Qjt:=λ N (a0:Wq) (a2:Int) (Q:Int→Prop) n (st:St)=>∃ (v1:Int) (v2:Int) (ex:_),QcC N a0 a2 n v1 v2=some ex/\Q ex/\((∃ w192,st.n=24/\st.t 2=.v (.int .i64 a2)/\st.t 3=.ept 192 w192 3 0 0/\st.t 7=.v (.int .i64 v1)/\st.t 8=.v (.int .i64 v2)/\st.s 192=some (w192,.arr true 32 3 [e32 a0] 0)))
abbrev QiG:=λ N (a0:WV) (a1:Int) (Q:(Ex Bool Unit)→Prop) n (st:St)=>∃ (v1:Int) (ex:_),QdD N a0 a1 n v1=some ex/\Q ex/\((∃ w128,st.n=20/\st.t 1=.v (.int .i64 a1)/\st.t 2=.ept 128 w128 16 0 0/\st.t 5=.v (.int .i64 v1)/\st.s 128=some (w128,.arr true 232 16 [Kg a0] 0)))
abbrev Qju:=λ N (a1:Int) (a2:Int) (a3:Wx) (a4:Wx) (Q:(Ex (List Wx × Int) (List Wx))→Prop) n (st:St)=>∃ (v1:Int) (v2:List Wx) (ex:_),QdU N a1 a2 a3 a4 n v1 v2=some ex/\Q ex/\((∃ w1920 w512 w576,st.n=57/\st.s 1920=some (w1920,.arr false 175 4 (v2.map XB) 0)/\st.t 1=.v (.int .i64 a1)/\st.t 2=.v (.int .i64 a2)/\st.t 8=.ept 512 w512 4 0 0/\st.t 9=.ept 576 w576 4 0 0/\st.t 12=.osl 1920 w1920 4 0 v2.length/\st.t 13=.v (.int .i64 v1)/\st.s 512=some (w512,.arr true 175 4 [XB a3] 0)/\st.s 576=some (w576,.arr true 175 4 [XB a4] 0)))
abbrev Qid:=λ N (a0:WI) (a1:List Int) (Q:(Ex Bool Unit)→Prop) n (st:St)=>∃ (v1:Int) (ex:_),Qcr N a0 a1 n v1=some ex/\Q ex/\((∃ w128,st.n=21/\st.t 1=.isl 39 1 (a1.map e39)/\st.t 2=.ept 128 w128 10 0 0/\st.t 5=.v (.int .i64 v1)/\st.s 128=some (w128,.arr true 43 10 [e43 a0] 0)))
abbrev QiH:=λ N (a0:List Wx) (Q:Int→Prop) n (st:St)=>∃ (v1:Int) (v2:Int) (ex:_),QcU N a0 n v1 v2=some ex/\Q ex/\((st.n=20/\st.t 0=.isl 175 4 (a0.map XB)/\st.t 3=.v (.int .i64 v1)/\st.t 4=.v (.int .i64 v2)))
abbrev Qj3:=λ N (a0:Int) (Q:Int→Prop) n (st:St)=>∃ (v1:Int) (v2:Int) (ex:_),Qev N a0 n v1 v2=some ex/\Q ex/\((st.n=14/\st.t 3=.v (.int .u64 v1)/\st.t 6=.v (.int .i64 (if 64 < (if a0 < 0 then 0 else a0) then 64 else (if a0 < 0 then 0 else a0)))/\st.t 7=.v (.int .i64 v2)))
abbrev Qhb:=λ N (a0:Ii) (Q:(Ex Bool Unit)→Prop) n (st:St)=>∃ (v1:Int) (v2:Int) (ex:_),QaE N a0 n v1 v2=some ex/\Q ex/\((∃ w64,st.n=74/\st.t 1=.ept 64 w64 3 0 0/\st.t 3=.v (.int .i64 v1)/\st.t 27=.isl 98 3 (a0.Locals.Scopes.map e98)/\st.t 28=.v (.int .i64 ((a0.Locals.Scopes.length:Nat):Int))/\st.t 29=.v (.int .i64 v2)/\st.s 64=some (w64,.arr true 180 3 [e32 a0.Locals] 0)))
abbrev Qf2:=λ N (a0:List Int) (a1:Int) (Q:(Ex Int Unit)→Prop) n (st:St)=>∃ (v1:Int) (ex:_),QaN N a0 a1 n v1=some ex/\Q ex/\((st.n=19/\st.t 0=.isl 39 1 (a0.map e39)/\st.t 1=.v (.int .u64 a1)/\st.t 7=.v (.int .i64 ((a0.length:Nat):Int))/\st.t 8=.v (.int .i64 v1)))
abbrev Qjv:=λ N (a0:List Wx) (Q:Int→Prop) n (st:St)=>∃ (v1:Int) (v2:Int) (ex:_),Qe2 N a0 n v1 v2=some ex/\Q ex/\((st.n=19/\st.t 3=.v (.int .i64 v1)/\st.t 6=.isl 175 4 (a0.map XB)/\st.t 7=.v (.int .i64 ((a0.length:Nat):Int))/\st.t 8=.v (.int .i64 v2)))
abbrev Qhy:=λ N (a0:List Wx) (a1:List Wx) (Q:(Ex Bool Unit)→Prop) n (st:St)=>∃ (v1:Int) (ex:_),QbB N a0 a1 n v1=some ex/\Q ex/\((st.n=26/\st.t 0=.isl 175 4 (a0.map XB)/\st.t 1=.isl 175 4 (a1.map XB)/\st.t 5=.v (.int .i64 v1)))
abbrev Qjw:=λ N (a0:Wy) (a1:Wy) (Q:(Ex Bool Unit)→Prop) n (st:St)=>∃ (v1:Int) (ex:_),Qdj N a0 a1 n v1=some ex/\Q ex/\((∃ w128 w192,st.n=31/\st.t 2=.ept 128 w128 1 0 0/\st.t 3=.ept 192 w192 1 0 0/\st.t 5=.v (.int .i64 v1)/\st.s 128=some (w128,.arr true 35 1 [[.isl 117 3 (a0.Entries.map Ym)]] 0)/\st.s 192=some (w192,.arr true 35 1 [[.isl 117 3 (a1.Entries.map Ym)]] 0)))
abbrev Qjx:=λ N (a0:List Int) (a1:List Int) (Q:(Ex Bool Unit)→Prop) n (st:St)=>∃ (v1:Int) (ex:_),Qdl N a0 a1 n v1=some ex/\Q ex/\((st.n=26/\st.t 0=.isl 39 1 (a0.map e39)/\st.t 1=.isl 39 1 (a1.map e39)/\st.t 5=.v (.int .i64 v1)))
theorem g4:(∀ N (a0:List Int) (a1:Int),OK (Qb8 N a0 a1) 63 [.isl 39 1 (a0.map e39),.v (.int .u64 a1)] [] (λ r=>.v (.bool r)) λ r=>[])/\(∀ N (a0:Wo) (a1:Int),OK (Qd0 N a0 a1) 366 [.agg (e27 a0),.v (.int .i64 a1)] [] (λ r=>.v (.int .i64 r)) λ r=>[])/\(∀ N (a0:Wq) (a1:Int) (a2:Int),OK (Qfw N a0 a1 a2) 145 [.agg (e32 a0),.v (.int .i64 a1),.v (.int .i64 a2)] [] (λ r=>.v (.int .i64 r)) λ r=>[])/\(∀ N (a0:WV) (a1:Int),OK (Qgv N a0 a1) 330 [.agg (Kg a0),.v (.int .i64 a1)] [] (λ r=>.v (.bool r)) λ r=>[])/\(∀ N (a0:List Wx) (a1:Int) (a2:Int) (a3:Wx) (a4:Wx),OK (Qfx N a0 a1 a2 a3 a4) 373 [.isl 175 4 (a0.map XB),.v (.int .i64 a1),.v (.int .i64 a2),.agg (XB a3),.agg (XB a4)] [] (λ r=>.tup [.fsl 175 4 (r.1.map XB),.v (.int .i64 r.2)]) λ r=>[])/\(∀ N (a0:WI) (a1:List Int),OK (Qcs N a0 a1) 189 [.agg (e43 a0),.isl 39 1 (a1.map e39)] [] (λ r=>.v (.bool r)) λ r=>[])/\(∀ N (a0:List Wx),OK (QfL N a0) 360 [.isl 175 4 (a0.map XB)] [] (λ r=>.v (.int .i64 r)) λ r=>[])/\(∀ N (a0:Int),OK (Qbe N a0) 140 [.v (.int .i64 a0)] [] (λ r=>.v (.int .u64 r)) λ r=>[])/\(∀ N (a0:Ii),OK (QcL N a0) 127 [.agg (Xjy a0)] [] (λ r=>.v (.bool r)) λ r=>[])/\(∀ N (a0:List Int) (a1:Int),OK (Qb7 N a0 a1) 132 [.isl 39 1 (a0.map e39),.v (.int .u64 a1)] [] (λ r=>.v (.int .i64 r)) λ r=>[])/\(∀ N (a0:List Wx),OK (QgO N a0) 303 [.isl 175 4 (a0.map XB)] [] (λ r=>.v (.int .i64 r)) λ r=>[])/\(∀ N (a0:List Wx) (a1:List Wx),OK (Qea N a0 a1) 96 [.isl 175 4 (a0.map XB),.isl 175 4 (a1.map XB)] [] (λ r=>.v (.bool r)) λ r=>[])/\(∀ N (a0:Wy) (a1:Wy),OK (QfF N a0 a1) 33 [.agg (e35 a0),.agg (e35 a1)] [] (λ r=>.v (.bool r)) λ r=>[])/\(∀ N (a0:List Int) (a1:List Int),OK (Qgj N a0 a1) 35 [.isl 39 1 (a0.map e39),.isl 39 1 (a1.map e39)] [] (λ r=>.v (.bool r)) λ r=>[]):=by
 refine ⟨λ N _ _=>rn Tryz.f63 [.tmp 4] [] 18 (by kernel_rfl) ?_,λ N _ _=>rn Tryz.f366 [.tmp 4] [] 15 (by kernel_rfl) ?_,λ N _ _ _=>rn Tryz.f145 [.tmp 6] [] 24 (by kernel_rfl) ?_,λ N _ _=>rn Tryz.f330 [.tmp 4] [] 20 (by kernel_rfl) ?_,λ N _ _ _ _ _=>rn Tryz.f373 [.tmp 10,.tmp 11] [1920] 57 (by kernel_rfl) ?_,λ N _ _=>rn Tryz.f189 [.tmp 4] [] 21 (by kernel_rfl) ?_,λ N _=>rn Tryz.f360 [.tmp 2] [] 20 (by kernel_rfl) ?_,λ N _=>rn Tryz.f140 [.tmp 2] [] 14 (by kernel_rfl) ?_,λ N _=>rn Tryz.f127 [.tmp 2] [] 74 (by kernel_rfl) ?_,λ N _ _=>rn Tryz.f132 [.tmp 4] [] 19 (by kernel_rfl) ?_,λ N _=>rn Tryz.f303 [.tmp 2] [] 19 (by kernel_rfl) ?_,λ N _ _=>rn Tryz.f96 [.tmp 4] [] 26 (by kernel_rfl) ?_,λ N _ _=>rn Tryz.f33 [.tmp 4] [] 31 (by kernel_rfl) ?_,λ N _ _=>rn Tryz.f35 [.tmp 4] [] 26 (by kernel_rfl) ?_⟩<;>(rintro _ hw r hr C _ rfl hwf hf;simp only[Tryz.f63,Tryz.f366,Tryz.f145,Tryz.f330,Tryz.f373,Tryz.f189,Tryz.f360,Tryz.f140,Tryz.f127,Tryz.f132,Tryz.f303,Tryz.f96,Tryz.f33,Tryz.f35,Option.get!];(first|rw[Qb8] at hr|rw[Qd0] at hr|rw[Qfw] at hr|rw[Qgv] at hr|rw[Qfx] at hr|rw[Qcs] at hr|rw[QfL] at hr|rw[Qbe] at hr|rw[QcL] at hr|rw[Qb7] at hr|rw[QgO] at hr|rw[Qea] at hr|rw[QfF] at hr|rw[Qgj] at hr);repeat' first
 |(refine El.el hr ?_;intro hr)
 |(with_reducible intro h;refine Xw hr h ?_;intro hr)
 |with_reducible intro _
 |(refine Xn hr ?_;rintro rfl;have hr:=hk;clear hk)
 |simp only[go_sem,simprocAttr,E,hl3,XQ,Zt,Yd,Ye,XE]
 |(with_reducible first|apply Xg|apply Xf|apply Xo|apply Xt|apply Xu)
 |((first|with_reducible refine Yb hr (by assumption) ?_ ?_|(with_reducible refine X7 hr ?_ ?_;rotate_left;intro p;rotate_right));(·simp only[go_sem,simprocAttr]);intro hp hn hd hr;(try have hl3:=hd _ e3);(try simp only[go_sem,simprocAttr] at hl3);(try have XQ:=hd _ e39);(try simp only[go_sem,simprocAttr] at XQ);(try have Zt:=hd _ e98);(try simp only[go_sem,simprocAttr] at Zt);(try have Yd:=hd _ Zg);(try simp only[go_sem,simprocAttr] at Yd);(try have Ye:=hd _ Ym);(try simp only[go_sem,simprocAttr] at Ye);(try have XE:=hd _ XB);(try simp only[go_sem,simprocAttr] at XE))
 |(refine Xp ?_ ?_;·first|assumption|omega)
 |(with_reducible refine Xe (I:=Qj2 N _ _) hr 1000 N (λ ex hq hk=>⟨_,ex,hq,hk,?_⟩) ?_ _;rotate_left;clear hr;(try clear E);rintro n1 st ⟨v1,ex,hr,hk,E⟩<;>(obtain _|n1:=n1<;>rw[Qer] at hr))
 |refine ⟨_,WA _,_,_,hr,hk,?_⟩
 |(with_reducible refine Xe (I:=Qjs N _) hr 1000 N (λ ex hq hk=>⟨_,ex,hq,hk,?_⟩) ?_ _;rotate_left;clear hr;(try clear E);rintro n1 st ⟨v1,ex,hr,hk,⟨_,E⟩⟩<;>(obtain _|n1:=n1<;>rw[QcB] at hr))
 |(with_reducible refine Xe (I:=Qjt N _ _) hr 1000 N (λ ex hq hk=>⟨_,_,ex,hq,hk,?_⟩) ?_ _;rotate_left;clear hr;(try clear E);rintro n1 st ⟨v1,v2,ex,hr,hk,⟨_,E⟩⟩<;>(obtain _|n1:=n1<;>rw[QcC] at hr))
 |refine ⟨_,WA _,_,_,_,hr,hk,?_⟩
 |(with_reducible refine Xe (I:=QiG N _ _) hr 1000 N (λ ex hq hk=>⟨_,ex,hq,hk,?_⟩) ?_ _;rotate_left;clear hr;(try clear E);rintro n1 st ⟨v1,ex,hr,hk,⟨_,E⟩⟩<;>(obtain _|n1:=n1<;>rw[QdD] at hr))
 |(with_reducible refine Xe (I:=Qju N _ _ _ _) hr 1000 N (λ ex hq hk=>⟨_,_,ex,hq,hk,?_⟩) ?_ _;rotate_left;clear hr;(try clear E);rintro n1 st ⟨v1,v2,ex,hr,hk,⟨_,_,_,E⟩⟩<;>(obtain _|n1:=n1<;>rw[QdU] at hr))
 |(with_reducible refine Xe (I:=Qid N _ _) hr 1000 N (λ ex hq hk=>⟨_,ex,hq,hk,?_⟩) ?_ _;rotate_left;clear hr;(try clear E);rintro n1 st ⟨v1,ex,hr,hk,⟨_,E⟩⟩<;>(obtain _|n1:=n1<;>rw[Qcr] at hr))
 |(with_reducible refine Xe (I:=QiH N _) hr 1000 N (λ ex hq hk=>⟨_,_,ex,hq,hk,?_⟩) ?_ _;rotate_left;clear hr;(try clear E);rintro n1 st ⟨v1,v2,ex,hr,hk,E⟩<;>(obtain _|n1:=n1<;>rw[QcU] at hr))
 |(with_reducible refine Xe (I:=Qj3 N _) hr 1000 N (λ ex hq hk=>⟨_,_,ex,hq,hk,?_⟩) ?_ _;rotate_left;clear hr;(try clear E);rintro n1 st ⟨v1,v2,ex,hr,hk,E⟩<;>(obtain _|n1:=n1<;>rw[Qev] at hr))
 |(with_reducible refine Xe (I:=Qhb N _) hr 1000 N (λ ex hq hk=>⟨_,_,ex,hq,hk,?_⟩) ?_ _;rotate_left;clear hr;(try clear E);rintro n1 st ⟨v1,v2,ex,hr,hk,⟨_,E⟩⟩<;>(obtain _|n1:=n1<;>rw[QaE] at hr))
 |(with_reducible refine Xe (I:=Qf2 N _ _) hr 1000 N (λ ex hq hk=>⟨_,ex,hq,hk,?_⟩) ?_ _;rotate_left;clear hr;(try clear E);rintro n1 st ⟨v1,ex,hr,hk,E⟩<;>(obtain _|n1:=n1<;>rw[QaN] at hr))
 |(with_reducible refine Xe (I:=Qjv N _) hr 1000 N (λ ex hq hk=>⟨_,_,ex,hq,hk,?_⟩) ?_ _;rotate_left;clear hr;(try clear E);rintro n1 st ⟨v1,v2,ex,hr,hk,E⟩<;>(obtain _|n1:=n1<;>rw[Qe2] at hr))
 |(with_reducible refine Xe (I:=Qhy N _ _) hr 1000 N (λ ex hq hk=>⟨_,ex,hq,hk,?_⟩) ?_ _;rotate_left;clear hr;(try clear E);rintro n1 st ⟨v1,ex,hr,hk,E⟩<;>(obtain _|n1:=n1<;>rw[QbB] at hr))
 |(with_reducible refine Xe (I:=Qjw N _ _) hr 1000 N (λ ex hq hk=>⟨_,ex,hq,hk,?_⟩) ?_ _;rotate_left;clear hr;(try clear E);rintro n1 st ⟨v1,ex,hr,hk,⟨_,_,E⟩⟩<;>(obtain _|n1:=n1<;>rw[Qdj] at hr))
 |(with_reducible refine Xe (I:=Qjx N _ _) hr 1000 N (λ ex hq hk=>⟨_,ex,hq,hk,?_⟩) ?_ _;rotate_left;clear hr;(try clear E);rintro n1 st ⟨v1,ex,hr,hk,E⟩<;>(obtain _|n1:=n1<;>rw[Qdl] at hr))
 |refine db 189 4 hf 12 [(0,242,[]),(0,241,[]),(3,240,[]),(7,240,[]),(0,15,[]),(16,15,[]),(48,15,[]),(112,15,[]),(255,0,[])] rfl rfl (by kernel_rfl) ?_ _
 |refine db 96 6 hf 17 [(0,242,[]),(0,241,[]),(3,240,[]),(7,240,[]),(0,47,[]),(0,31,[]),(48,15,[]),(112,15,[]),(255,0,[])] rfl rfl (by kernel_rfl) ?_ _
 |refine db 33 6 hf 20 [(0,996,[]),(1,996,[]),(0,995,[]),(7,992,[]),(15,992,[]),(0,159,[]),(32,159,[]),(0,127,[]),(224,31,[]),(480,31,[]),(1023,0,[])] rfl rfl (by kernel_rfl) ?_ _
 |refine db 35 6 hf 17 [(0,242,[]),(0,241,[]),(3,240,[]),(7,240,[]),(0,47,[]),(0,31,[]),(48,15,[]),(112,15,[]),(255,0,[])] rfl rfl (by kernel_rfl) ?_ _
 |(refine Xn hr ?_;rintro rfl;with_reducible refine XF ?_)
 |exact Yj hr
 |((first|refine Xw (c:=true) hr rfl ?_|refine Xw (c:=false) hr rfl ?_|refine Xw hr (by assumption) ?_);intro hr)
 |fail)
@[reducible,instance] def Qod:=g4.1
@[reducible,instance] def Qnj:=g4.2.1
@[reducible,instance] def Qnk:=g4.2.2.1
@[reducible,instance] def Qmj:=g4.2.2.2.1
@[reducible,instance] def Qnl:=g4.2.2.2.2.1
@[reducible,instance] def QlL:=g4.2.2.2.2.2.1
@[reducible,instance] def Qmk:=g4.2.2.2.2.2.2.1
@[reducible,instance] def Qoe:=g4.2.2.2.2.2.2.2.1
@[reducible,instance] def QkE:=g4.2.2.2.2.2.2.2.2.1
@[reducible,instance] def Qj4:=g4.2.2.2.2.2.2.2.2.2.1
@[reducible,instance] def Qnm:=g4.2.2.2.2.2.2.2.2.2.2.1
@[reducible,instance] def QkS:=g4.2.2.2.2.2.2.2.2.2.2.2.1
@[reducible,instance] def Qnn:=g4.2.2.2.2.2.2.2.2.2.2.2.2.1
@[reducible,instance] def Qno:=g4.2.2.2.2.2.2.2.2.2.2.2.2.2
theorem g3:(∀ N (a0:U7),OK (Qfu N a0) 14 [.ept 1000000 0 2 0 0] [.arr true 60 2 [[.isl 3 1 (a0.L.map e3),.v (.int .i64 a0.at_)]] 0] (λ r=>.v (.bool r)) λ r=>[.arr true 60 2 [[.isl 3 1 (a0.L.map e3),.v (.int .i64 a0.at_)]] 0])/\(∀ N (a0:Ww),OK (Qcg N a0) 188 [.agg (e80 a0)] [] (λ r=>.v (.bool r)) λ r=>[])/\(∀ N (a0:Int),OK (Qc2 N a0) 273 [.v (.int .u64 a0)] [] (λ r=>.tup [.v (.int .u64 r.1),.v (.bool r.2)]) λ r=>[])/\(∀ N (a0:Int),OK (Qaa N a0) 105 [.v (.int .i64 a0)] [] (λ r=>.tup [.agg (e38 r.1),.v (.int .u64 r.2.1),.v (.int .i64 r.2.2)]) λ r=>[])/\(∀ N (a0:Wy) (a1:Int) (a2:W6),OK (QfY N a0 a1 a2) 282 [.agg (e35 a0),.v (.int .i64 a1),.agg (Ym a2)] [] (λ r=>.agg (e35 r)) λ r=>[])/\(∀ N (a0:WI) (a1:Int) (a2:Int) (a3:Int),OK (QeB N a0 a1 a2 a3) 117 [.agg (e43 a0),.v (.int .u64 a1),.v (.int .i64 a2),.v (.int .u64 a3)] [] (λ r=>.agg (e43 r)) λ r=>[])/\(∀ N (a0:Wx),OK (Qbs N a0) 306 [.agg (Xeo a0)] [] (λ r=>.v (.bool r)) λ r=>[])/\(∀ N (a0:List Int) (a1:Int) (a2:Int),OK (Qek N a0 a1 a2) 309 [.isl 39 1 (a0.map e39),.v (.int .u64 a1),.v (.int .i64 a2)] [] (λ r=>.tup [.v (.int .i64 r.1),.v (.bool r.2)]) λ r=>[])/\(∀ N (a0:Int),OK (QdQ N a0) 294 [.v (.int .u64 a0)] [] (λ r=>.v (.bool r)) λ r=>[])/\(∀ N (a0:Ii) (a1:Int),OK (Qc5 N a0 a1) 221 [.agg (Xjy a0),.v (.int .i64 a1)] [] (λ r=>.isl 115 3 (r.map Zg)) λ r=>[])/\(∀ N (a1:Int),OK (Qa2 N a1) 230 [.nsl,.v (.int .i64 a1)] [] (λ r=>.fsl 39 1 (r.map e39)) λ r=>[]):=by
 refine ⟨λ N _=>rn Tryz.f14 [.tmp 2] [] 13 (by kernel_rfl) ?_,λ N _=>rn Tryz.f188 [.tmp 2] [] 40 (by kernel_rfl) ?_,λ N _=>rn Tryz.f273 [.tmp 2,.tmp 3] [] 14 (by kernel_rfl) ?_,λ N _=>rn Tryz.f105 [.cell 2 38,.tmp 3,.tmp 4] [] 7 (by kernel_rfl) ?_,λ N _ _ _=>rn Tryz.f282 [.cell 6 35] [] 18 (by kernel_rfl) ?_,λ N _ _ _ _=>rn Tryz.f117 [.cell 8 43] [] 38 (by kernel_rfl) ?_,λ N _=>rn Tryz.f306 [.tmp 2] [] 11 (by kernel_rfl) ?_,λ N _ _ _=>rn Tryz.f309 [.tmp 6,.tmp 7] [] 29 (by kernel_rfl) ?_,λ N _=>rn Tryz.f294 [.tmp 2] [] 6 (by kernel_rfl) ?_,λ N _ _=>rn Tryz.f221 [.tmp 4] [] 42 (by kernel_rfl) ?_,λ N _=>rn Tryz.f230 [.tmp 4] [1408] 27 (by kernel_rfl) ?_⟩<;>(rintro _ hw r hr C _ rfl hwf hf;simp only[Tryz.f14,Tryz.f188,Tryz.f273,Tryz.f105,Tryz.f282,Tryz.f117,Tryz.f306,Tryz.f309,Tryz.f294,Tryz.f221,Tryz.f230,Option.get!];(first|rw[Qfu] at hr|rw[Qcg] at hr|rw[Qc2] at hr|rw[Qaa] at hr|rw[QfY] at hr|rw[QeB] at hr|rw[Qbs] at hr|rw[Qek] at hr|rw[QdQ] at hr|rw[Qc5] at hr|rw[Qa2] at hr);repeat' first
 |(refine El.el hr ?_;intro hr)
 |(with_reducible intro h;refine Xw hr h ?_;intro hr)
 |with_reducible intro _
 |simp only[go_sem,simprocAttr,XQ,Zt,Ye,ZG,Wz,WM,Uv]
 |(with_reducible first|apply Xg|apply Xf|apply Xo|apply Xt|apply Xu)
 |((first|with_reducible refine Yb hr (by assumption) ?_ ?_|(with_reducible refine X7 hr ?_ ?_;rotate_left;intro p;rotate_right));(·simp only[go_sem,simprocAttr,Wz,WM,Uv]);intro hp hn hd hr;(try have XQ:=hd _ e39);(try simp only[go_sem,simprocAttr] at XQ);(try have Zt:=hd _ e98);(try simp only[go_sem,simprocAttr] at Zt);(try have Ye:=hd _ Ym);(try simp only[go_sem,simprocAttr] at Ye);(try have ZG:=hd _ VZ);(try simp only[go_sem,simprocAttr] at ZG))
 |(refine Xp ?_ ?_;·first|assumption|omega)
 |refine db 14 1 hf 3 [(0,496,[]),(1,496,[]),(3,496,[]),(7,496,[]),(0,15,[]),(16,15,[]),(48,15,[]),(112,15,[]),(240,15,[]),(511,0,[]),(1023,0,[])] rfl rfl (by kernel_rfl) ?_ _
 |refine db 221 2 hf 12 [(0,262136,[]),(1,262136,[]),(3,262136,[]),(0,261191,[]),(8,261191,[]),(24,261191,[]),(0,261183,[]),(120,261127,[]),(248,261127,[]),(504,261127,[]),(0,25599,[]),(1024,25599,[]),(3072,25599,[]),(0,8191,[]),(8192,8191,[]),(31744,1023,[]),(64512,1023,[]),(130048,1023,[]),(262143,0,[]),(524287,0,[])] rfl rfl (by kernel_rfl) ?_ _
 |refine db 221 3 hf 31 [(0,1016,[]),(1,1016,[]),(3,1016,[]),(0,71,[]),(8,71,[]),(24,71,[]),(0,63,[]),(120,7,[]),(248,7,[]),(504,7,[]),(1023,0,[]),(2047,0,[])] rfl rfl (by kernel_rfl) ?_ _
 |(refine Xn hr ?_;rintro rfl;with_reducible refine XF ?_)
 |exact Yj hr
 |fail)
@[reducible,instance] def Qk1:=g3.1
@[reducible,instance] def Qml:=g3.2.1
@[reducible,instance] def QlM:=g3.2.2.1
@[reducible,instance] def QlN:=g3.2.2.2.1
@[reducible,instance] def Qof:=g3.2.2.2.2.1
@[reducible,instance] def Qog:=g3.2.2.2.2.2.1
@[reducible,instance] def QkI:=g3.2.2.2.2.2.2.1
@[reducible,instance] def Qmm:=g3.2.2.2.2.2.2.2.1
@[reducible,instance] def QkN:=g3.2.2.2.2.2.2.2.2.1
@[reducible,instance] def QkH:=g3.2.2.2.2.2.2.2.2.2.1
@[reducible,instance] def Qi7:=g3.2.2.2.2.2.2.2.2.2.2
instance Qjy:∀ N (a0:List UE),OK (QbQ N a0) 74 [.isl 119 2 (a0.map YT)] [] (λ r=>.fsl 119 2 (r.map YT)) λ r=>[]:=by
 refine λ N a0=>⟨λ G hw r hr=>?_⟩
 rw[QbQ] at hr
 obtain rfl:=WO hr
 obtain _|⟨x,l⟩:=a0
 refine YG λ a cap=>?_
 obtain _|a:=a
 all_goals
  refine Yc (fn:=Tryz.f74) (body:=(Tryz.f74.body).get!) (rs:=[.tmp 2]) 1000 [320] 8 (by kernel_rfl) (by kernel_rfl) (by kernel_rfl) (by kernel_rfl) (by kernel_rfl) (by simp) λ C _ hG hwf=>?_;subst hG;have hw2:=hwf;simp only[WfL,Wf,Ug,and_true,W7,Xem,Xm] at hw2;simp only[Tryz.f74,Option.get!]
  simp only[go_sem,simprocAttr]
  try refine ⟨by omega,?_⟩
  with_reducible refine XF ?_
  simp only[go_sem,simprocAttr]
instance Qj5:∀ N (a0:List Int),OK (Qax N a0) 75 [.isl 39 1 (a0.map e39)] [] (λ r=>.fsl 39 1 (r.map e39)) λ r=>[]:=by
 refine λ N a0=>⟨λ G hw r hr=>?_⟩
 rw[Qax] at hr
 obtain rfl:=WO hr
 obtain _|⟨x,l⟩:=a0
 refine YG λ a cap=>?_
 obtain _|a:=a
 all_goals
  refine Yc (fn:=Tryz.f75) (body:=(Tryz.f75.body).get!) (rs:=[.tmp 2]) 1000 [320] 8 (by kernel_rfl) (by kernel_rfl) (by kernel_rfl) (by kernel_rfl) (by kernel_rfl) (by simp) λ C _ hG hwf=>?_;subst hG;have hw2:=hwf;simp only[WfL,Wf,Ug,and_true,W7,Xf2,Xm] at hw2;simp only[Tryz.f75,Option.get!]
  simp only[go_sem,simprocAttr]
  try refine ⟨by omega,?_⟩
  with_reducible refine XF ?_
  simp only[go_sem,simprocAttr]
end Go.Sx
