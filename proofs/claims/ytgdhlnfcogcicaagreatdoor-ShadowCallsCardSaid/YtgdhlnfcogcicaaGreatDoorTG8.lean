import Derived.Test.YtgdhlnfcogcicaaGreatDoorTF
import Derived.Test.YtgdhlnfcogcicaaGreatDoorTG1
import Derived.Test.YtgdhlnfcogcicaaGreatDoorTG3
import Derived.Test.YtgdhlnfcogcicaaGreatDoorTG4
set_option linter.all false
namespace Go.Sx
open Go.Proofs
set_option maxRecDepth 10000
set_option maxHeartbeats 100000000
abbrev QiR:=λ N (a0:Ws) (Q:(Ex Bool Unit)→Prop) n (st:St)=>∃ (v1:Int) (ex:_),QcK N a0 n v1=some ex/\Q ex/\((∃ w64,st.n=174/\st.t 1=.ept 64 w64 3 0 0/\st.t 3=.v (.int .i64 v1)/\st.s 64=some (w64,.arr true 29 3 [e29 a0] 0)))
abbrev QiS:=λ N (a0:Ws) (Q:(Ex Bool Unit)→Prop) n (st:St)=>∃ (v5:Int) (v6:Int) (ex:_),Qam N a0 n v5 v6=some ex/\Q ex/\((∃ w64,st.n=174/\st.t 1=.ept 64 w64 3 0 0/\st.t 4=.v (.int .i64 v5)/\st.t 5=.v (.int .i64 v6)/\st.s 64=some (w64,.arr true 29 3 [e29 a0] 0)))
abbrev QiT:=λ N (a0:Ws) (Q:(Ex Bool Unit)→Prop) n (st:St)=>∃ (v10:Int) (v11:Int) (ex:_),Qak N a0 n v10 v11=some ex/\Q ex/\((∃ w64,st.n=174/\st.t 1=.ept 64 w64 3 0 0/\st.t 7=.v (.int .i64 v10)/\st.t 8=.v (.int .i64 v11)/\st.s 64=some (w64,.arr true 29 3 [e29 a0] 0)))
abbrev QiU:=λ N (a0:Ws) (Q:(Ex Bool Unit)→Prop) n (st:St)=>∃ (v14:Int) (ex:_),Qcc N a0 n v14=some ex/\Q ex/\((∃ w64,st.n=174/\st.t 1=.ept 64 w64 3 0 0/\st.t 10=.v (.int .i64 v14)/\st.s 64=some (w64,.arr true 29 3 [e29 a0] 0)))
abbrev QiV:=λ N (a2:List Int) (y1:Int × Bool) (Q:(List Int)→Prop) n (st:St)=>∃ (v2:Int) (v3:List Int) (ex:_),Qbr N a2 y1 n v2 v3=some ex/\Q ex/\((∃ w1408,st.n=41/\st.s 1408=some (w1408,.arr false 37 1 (v3.map e37) 0)/\st.t 2=.isl 37 1 (a2.map e37)/\st.t 8=.v (.int .i64 y1.1)/\st.t 10=.osl 1408 w1408 1 0 v3.length/\st.t 11=.v (.int .i64 v2)))
abbrev Qgr:=λ N (a0:List (List Int)) (Q:Int→Prop) n (st:St)=>∃ (v1:Int) (v2:Int) (ex:_),QaG N a0 n v1 v2=some ex/\Q ex/\((st.n=36/\st.t 0=.isl 34 1 (a0.map e34)/\st.t 3=.v (.int .i64 v1)/\st.t 9=.isl 34 1 (a0.map e34)/\st.t 10=.v (.int .i64 ((a0.length:Nat):Int))/\st.t 11=.v (.int .i64 v2)))
abbrev Qgs:=λ N (a0:List (List Int)) (Q:(List Int)→Prop) n (st:St)=>∃ (v6:Int) (v7:List Int) (ex:_),QaH N a0 n v6 v7=some ex/\Q ex/\((∃ w1536,st.n=36/\st.s 1536=some (w1536,.arr false 37 1 (v7.map e37) 0)/\st.t 6=.osl 1536 w1536 1 0 v7.length/\st.t 25=.isl 34 1 (a0.map e34)/\st.t 26=.v (.int .i64 ((a0.length:Nat):Int))/\st.t 27=.v (.int .i64 v6)))
abbrev Qf5:=λ N (a0:List Int) (Q:(Ex Int Unit)→Prop) n (st:St)=>∃ (v1:Int) (ex:_),Qax N a0 n v1=some ex/\Q ex/\((st.n=19/\st.t 0=.isl 3 1 (a0.map e3)/\st.t 1=.clo (.func 193) [] []/\st.t 7=.v (.int .i64 ((a0.length:Nat):Int))/\st.t 8=.v (.int .i64 v1)))
abbrev Qfa:=λ N (a0:List Int) (c0:Wm) (Q:(Ex Int Unit)→Prop) n (st:St)=>∃ (v1:Int) (ex:_),Qap N a0 c0 n v1=some ex/\Q ex/\((st.n=19/\st.t 0=.isl 37 1 (a0.map e37)/\st.t 1=.clo (.func 203) [] [.ept 1000000 0 10 0 0]/\st.t 7=.v (.int .i64 ((a0.length:Nat):Int))/\st.t 8=.v (.int .i64 v1)/\st.s 1000000=some (0,.arr true 61 10 [e61 c0] 0)))
abbrev QiW:=λ N (a0:Int) (a1:List Int) (Q:(Ex (List Int × Int) Unit)→Prop) n (st:St)=>∃ (v1:Int) (v2:Int) (ex:_),QbQ N a0 a1 n v1 v2=some ex/\Q ex/\((st.n=49/\st.t 0=.v (.int .u64 a0)/\st.t 1=.isl 3 1 (a1.map e3)/\st.t 6=.v (.int .i64 v1)/\st.t 12=.isl 3 1 (a1.map e3)/\st.t 13=.v (.int .i64 ((a1.length:Nat):Int))/\st.t 14=.v (.int .i64 v2)))
abbrev QiX:=λ N (a1:List Int) (Q:(Int × List Int)→Prop) n (st:St)=>∃ (v5:Int) (v6:Int) (v7:List Int) (ex:_),QbR N a1 n v5 v6 v7=some ex/\Q ex/\((∃ w2624,st.n=49/\st.s 2624=some (w2624,.arr false 37 1 (v7.map e37) 0)/\st.t 0=.v (.int .u64 v5)/\st.t 9=.osl 2624 w2624 1 0 v7.length/\st.t 29=.isl 3 1 (a1.map e3)/\st.t 30=.v (.int .i64 ((a1.length:Nat):Int))/\st.t 31=.v (.int .i64 v6))\/((st.n=49/\st.t 0=.v (.int .u64 v5)/\st.t 9=.nsl/\st.t 29=.isl 3 1 (a1.map e3)/\st.t 30=.v (.int .i64 ((a1.length:Nat):Int))/\st.t 31=.v (.int .i64 v6))/\v7=[]))
abbrev QdH:=λ N (a0:List Uz) (Q:(Ex Int Unit)→Prop) n (st:St)=>∃ (v1:Int) (ex:_),Qad N a0 n v1=some ex/\Q ex/\((st.n=19/\st.t 0=.isl 116 3 (a0.map Yv)/\st.t 1=.clo (.func 184) [] []/\st.t 7=.v (.int .i64 ((a0.length:Nat):Int))/\st.t 8=.v (.int .i64 v1)))
theorem g8:(∀ N (a0:Ws),OK (QbH N a0) 110 [.agg (e29 a0)] [] (λ r=>.v (.bool r)) λ r=>[])/\(∀ N (a0:List Int) (a1:Int) (a2:List Int),OK (Qck N a0 a1 a2) 254 [.isl 37 1 (a0.map e37),.v (.int .u64 a1),.isl 37 1 (a2.map e37)] [] (λ r=>.tup [.isl 37 1 (r.1.map e37),.v (.int .i64 r.2)]) λ r=>[])/\(∀ N (a0:List (List Int)),OK (QaD N a0) 59 [.isl 34 1 (a0.map e34)] [] (λ r=>.isl 37 1 (r.map e37)) λ r=>[])/\(∀ N (a0:List Int),OK (Qbo N a0) 235 [.isl 3 1 (a0.map e3),.clo (.func 193) [] []] [] (λ r=>.v (.int .i64 r)) λ r=>[])/\(∀ N (a0:List Int) (c0:Wm),OK (QaR N a0 c0) 239 [.isl 37 1 (a0.map e37),.clo (.func 203) [] [.ept 1000000 0 10 0 0]] [.arr true 61 10 [[.v (.int .i64 c0.Conf.PageWords),.v (.int .i64 c0.Conf.Pages),.isl 77 4 (c0.Things.map e77),.isl 210 3 (c0.Locals.Slots.map X4),.isl 159 3 (c0.Locals.Scopes.map X9),.isl 3 1 (c0.Locals.Issued.map e3),.isl 132 3 (c0.Globals.Entries.map XC),.isl 132 3 (c0.Weaks.Entries.map XC),.isl 116 3 (c0.Marks.map Yv),.isl 37 1 (c0.Roots.map e37)]] 0] (λ r=>.v (.int .i64 r)) λ r=>[.arr true 61 10 [[.v (.int .i64 c0.Conf.PageWords),.v (.int .i64 c0.Conf.Pages),.isl 77 4 (c0.Things.map e77),.isl 210 3 (c0.Locals.Slots.map X4),.isl 159 3 (c0.Locals.Scopes.map X9),.isl 3 1 (c0.Locals.Issued.map e3),.isl 132 3 (c0.Globals.Entries.map XC),.isl 132 3 (c0.Weaks.Entries.map XC),.isl 116 3 (c0.Marks.map Yv),.isl 37 1 (c0.Roots.map e37)]] 0])/\(∀ N (a0:Int) (a1:List Int),OK (Qgo N a0 a1) 226 [.v (.int .u64 a0),.isl 3 1 (a1.map e3)] [] (λ r=>.tup [.isl 37 1 (r.1.map e37),.v (.int .i64 r.2)]) λ r=>[])/\(∀ N (a0:List Uz),OK (Qao N a0) 181 [.isl 116 3 (a0.map Yv),.clo (.func 184) [] []] [] (λ r=>.v (.int .i64 r)) λ r=>[]):=by
 refine ⟨λ N _=>rn Tryz.f110 [.tmp 2] [] 174 (by kernel_rfl) ?_,λ N _ _ _=>rn Tryz.f254 [.tmp 6,.tmp 7] [] 41 (by kernel_rfl) ?_,λ N _=>rn Tryz.f59 [.tmp 2] [] 36 (by kernel_rfl) ?_,λ N _=>rn Tryz.f235 [.tmp 4] [] 19 (by kernel_rfl) ?_,λ N _ _=>rn Tryz.f239 [.tmp 4] [] 19 (by kernel_rfl) ?_,λ N _ _=>rn Tryz.f226 [.tmp 4,.tmp 5] [] 49 (by kernel_rfl) ?_,λ N _=>rn Tryz.f181 [.tmp 4] [] 19 (by kernel_rfl) ?_⟩<;>(rintro _ hw r hr C _ rfl hwf hf;simp only[Tryz.f110,Tryz.f254,Tryz.f59,Tryz.f235,Tryz.f239,Tryz.f226,Tryz.f181,Option.get!];(first|rw[QbH] at hr|rw[Qck] at hr|rw[QaD] at hr|rw[Qbo] at hr|rw[QaR] at hr|rw[Qgo] at hr|rw[Qao] at hr);repeat' first
 |(refine El.el hr ?_;intro hr)
 |(with_reducible intro h;refine Xz hr h ?_;intro hr)
 |with_reducible intro _
 |(refine Xq hr ?_;rintro rfl;have hr:=hk;clear hk)
 |simp only[go_sem,simprocAttr,E,hl3,Xnj,XQ,ZA,YU,Yx]
 |(with_reducible first|apply Xg|apply Xf|apply Xs|apply Xx|apply Xy)
 |((first|with_reducible refine Ye hr (by assumption) ?_ ?_|(with_reducible refine Yd hr ?_ ?_;rotate_left;intro p;rotate_right));(·simp only[go_sem,simprocAttr]);intro hp hn hd hr;(try have hl3:=hd _ e3);(try simp only[go_sem,simprocAttr] at hl3);(try have Xnj:=hd _ e34);(try simp only[go_sem,simprocAttr] at Xnj);(try have XQ:=hd _ e37);(try simp only[go_sem,simprocAttr] at XQ);(try have ZA:=hd _ Yv);(try simp only[go_sem,simprocAttr] at ZA);(try have YU:=hd _ X9);(try simp only[go_sem,simprocAttr] at YU);(try have Yx:=hd _ X4);(try simp only[go_sem,simprocAttr] at Yx))
 |(refine Xl ?_ ?_;·first|assumption|omega)
 |(with_reducible first|refine CallX.c ?_ _|refine OK.c hr hw ?_ (λ y hr=>?_) _|refine Oy hr hw ?_ (λ y hr=>?_) _)
 |(with_reducible refine Xj (I:=QiR N _) hr 1000 N (λ ex hq hk=>⟨_,ex,hq,hk,?_⟩) ?_ _;rotate_left;clear hr;(try clear E);rintro n1 st ⟨v1,ex,hr,hk,⟨_,E⟩⟩<;>(obtain _|n1:=n1<;>rw[QcK] at hr))
 |refine ⟨_,WJ _,_,_,hr,hk,?_⟩
 |(with_reducible refine Xj (I:=QiS N _) hr 1000 N (λ ex hq hk=>⟨_,_,ex,hq,hk,?_⟩) ?_ _;rotate_left;clear hr;(try clear E);rintro n2 st ⟨v5,v6,ex,hr,hk,⟨_,E⟩⟩<;>(obtain _|n2:=n2<;>rw[Qam] at hr))
 |refine ⟨_,WJ _,_,_,_,hr,hk,?_⟩
 |(with_reducible refine Xj (I:=QiT N _) hr 1000 N (λ ex hq hk=>⟨_,_,ex,hq,hk,?_⟩) ?_ _;rotate_left;clear hr;(try clear E);rintro n3 st ⟨v10,v11,ex,hr,hk,⟨_,E⟩⟩<;>(obtain _|n3:=n3<;>rw[Qak] at hr))
 |(with_reducible refine Xj (I:=QiU N _) hr 1000 N (λ ex hq hk=>⟨_,ex,hq,hk,?_⟩) ?_ _;rotate_left;clear hr;(try clear E);rintro n4 st ⟨v14,ex,hr,hk,⟨_,E⟩⟩<;>(obtain _|n4:=n4<;>rw[Qcc] at hr))
 |(with_reducible refine Xj (I:=QiV N _ _) hr 1000 N (λ ex hq hk=>⟨_,_,ex,hq,hk,?_⟩) ?_ _;rotate_left;clear hr;(try clear E);rintro n1 st ⟨v2,v3,ex,hr,hk,⟨_,E⟩⟩<;>(obtain _|n1:=n1<;>rw[Qbr] at hr))
 |(with_reducible refine Xj (I:=Qgr N _) hr 1000 N (λ ex hq hk=>⟨_,_,ex,hq,hk,?_⟩) ?_ _;rotate_left;clear hr;(try clear E);rintro n1 st ⟨v1,v2,ex,hr,hk,E⟩<;>(obtain _|n1:=n1<;>rw[QaG] at hr))
 |(with_reducible refine Xj (I:=Qgs N _) hr 1000 N (λ ex hq hk=>⟨_,_,ex,hq,hk,?_⟩) ?_ _;rotate_left;clear hr;(try clear E);rintro n2 st ⟨v6,v7,ex,hr,hk,⟨_,E⟩⟩<;>(obtain _|n2:=n2<;>rw[QaH] at hr))
 |(with_reducible refine Xj (I:=Qf5 N _) hr 1000 N (λ ex hq hk=>⟨_,ex,hq,hk,?_⟩) ?_ _;rotate_left;clear hr;(try clear E);rintro n1 st ⟨v1,ex,hr,hk,E⟩<;>(obtain _|n1:=n1<;>rw[Qax] at hr))
 |(with_reducible refine Xj (I:=Qfa N _ _) hr 1000 N (λ ex hq hk=>⟨_,ex,hq,hk,?_⟩) ?_ _;rotate_left;clear hr;(try clear E);rintro n1 st ⟨v1,ex,hr,hk,E⟩<;>(obtain _|n1:=n1<;>rw[Qap] at hr))
 |(with_reducible refine Xj (I:=QiW N _ _) hr 1000 N (λ ex hq hk=>⟨_,_,ex,hq,hk,?_⟩) ?_ _;rotate_left;clear hr;(try clear E);rintro n1 st ⟨v1,v2,ex,hr,hk,E⟩<;>(obtain _|n1:=n1<;>rw[QbQ] at hr))
 |(with_reducible refine Xj (I:=QiX N _) hr 1000 N (λ ex hq hk=>⟨_,_,_,ex,hq,hk,?_⟩) ?_ _;rotate_left;clear hr;(try clear E);rintro n2 st ⟨v5,v6,v7,ex,hr,hk,(⟨_,E⟩|⟨E,z0⟩)⟩<;>(try subst z0)<;>(obtain _|n2:=n2<;>rw[QbR] at hr))
 |refine ⟨_,WJ _,_,_,_,_,hr,hk,?_⟩
 |(with_reducible refine Xj (I:=QdH N _) hr 1000 N (λ ex hq hk=>⟨_,ex,hq,hk,?_⟩) ?_ _;rotate_left;clear hr;(try clear E);rintro n1 st ⟨v1,ex,hr,hk,E⟩<;>(obtain _|n1:=n1<;>rw[Qad] at hr))
 |refine db 110 27 hf 156 [(0,130046,[]),(0,129929,[]),(2,129929,[]),(0,129927,[]),(14,129921,[]),(30,129921,[]),(62,129921,[]),(0,129407,[]),(0,129279,[]),(384,129151,[]),(1023,129024,[]),(0,10239,[]),(2048,10239,[]),(0,8191,[]),(14336,2047,[]),(30720,2047,[]),(63488,2047,[]),(131071,0,[])] rfl rfl (by kernel_rfl) ?_ _
 |(refine Xq hr ?_;rintro rfl;with_reducible refine XG ?_)
 |exact Yo hr
 |((first|refine Xz (c:=true) hr rfl ?_|refine Xz (c:=false) hr rfl ?_|refine Xz hr (by assumption) ?_);intro hr)
 |fail)
@[reducible,instance] def Qm2:=g8.1
@[reducible,instance] def Qm3:=g8.2.1
@[reducible,instance] def QjR:=g8.2.2.1
@[reducible,instance] def Qiq:=g8.2.2.2.1
@[reducible,instance] def QhN:=g8.2.2.2.2.1
@[reducible,instance] def Qm4:=g8.2.2.2.2.2.1
@[reducible,instance] def Qg6:=g8.2.2.2.2.2.2
end Go.Sx
