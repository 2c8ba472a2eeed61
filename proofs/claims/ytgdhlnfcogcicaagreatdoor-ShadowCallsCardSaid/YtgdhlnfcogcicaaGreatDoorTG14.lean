import Derived.Test.YtgdhlnfcogcicaaGreatDoorTF
import Derived.Test.YtgdhlnfcogcicaaGreatDoorTG3
import Derived.Test.YtgdhlnfcogcicaaGreatDoorTG4
import Derived.Test.YtgdhlnfcogcicaaGreatDoorTG6
import Derived.Test.YtgdhlnfcogcicaaGreatDoorTG7
import Derived.Test.YtgdhlnfcogcicaaGreatDoorTG8
import Derived.Test.YtgdhlnfcogcicaaGreatDoorTG9
import Derived.Test.YtgdhlnfcogcicaaGreatDoorTG10
import Derived.Test.YtgdhlnfcogcicaaGreatDoorTG11
import Derived.Test.YtgdhlnfcogcicaaGreatDoorTG12
import Derived.Test.YtgdhlnfcogcicaaGreatDoorTG13
set_option linter.all false
namespace Go.Sx
open Go.Proofs
set_option maxRecDepth 10000
set_option maxHeartbeats 100000000
instance QoI:∀ N (a0:WC) (a1:Int),OK (Qfd N a0 a1) 176 [.agg (e32 a0),.v (.int .u64 a1)] [] (λ r=>.tup [.agg (e32 r.1),.v (.int .i64 r.2.1),.v (.int .i64 r.2.2.1),.v (.int .i64 r.2.2.2)]) λ r=>[]:=by
 refine λ N _ _=>rn Tryz.f176 [.cell 4 32,.tmp 5,.tmp 6,.tmp 7] [] 63 (by kernel_rfl) ?_<;>(rintro _ hw r hr C _ rfl hwf hf;simp only[Tryz.f176,Option.get!];(rw[Qfd] at hr);repeat' first
 |(refine El.el hr ?_;intro hr)
 |(with_reducible intro h;refine Xz hr h ?_;intro hr)
 |with_reducible intro _
 |simp only[go_sem,simprocAttr,Xke,Ov,Yw]
 |(with_reducible first|apply Xg|apply Xf|apply Xs|apply Xx|apply Xy)
 |(with_reducible refine XhY hr ?_ ?_;(·first|(simp only[go_sem,simprocAttr];done)|(simp only[Wr,WM,Ub,Wv]<;>omega));intro p hp hn hd hx hr;(try have Yw:=hd _ XC);(try simp only[go_sem,simprocAttr] at Yw);(try have Xke:=hx _ XC);(try simp only[go_sem,simprocAttr] at Xke);(try simp only[Wr,WM,Ub,Wv] at hn))
 |(refine Xl ?_ ?_;·first|assumption|omega)
 |(with_reducible first|refine CallX.c ?_ _|refine OK.c hr hw ?_ (λ y hr=>?_) _)
 |refine db 176 12 hf 5 [(0,279223176896970752,[]),(0,274719577269600256,[[],[256]]),(0,13510798882111489,[[],[256]]),(4,13510798882111489,[[],[256]]),(12,13510798882111489,[[],[256]]),(28,13510798882111489,[[],[256]]),(1,279223176896970752,[[256],[]]),(67,270215977642229760,[]),(255,0,[]),(511,0,[])] rfl rfl (by kernel_rfl) ?_ _
 |(refine Xq hr ?_;rintro rfl;with_reducible refine XG ?_)
 |exact Yo hr
 |fail)
abbrev Qh8:=λ N (a0:Wm) (Q:(List Bool)→Prop) n (st:St)=>∃ (v3:Int) (v4:List Bool) (v5:List Int) (ex:_),Qar N a0 n v3 v4 v5=some ex/\Q ex/\((∃ w768 w896 w64,st.n=56/\st.s 768=some (w768,.arr false 4 1 (v4.map e4) 0)/\st.s 896=some (w896,.arr false 37 1 (v5.map e37) 0)/\st.t 1=.ept 64 w64 10 0 0/\st.t 3=.osl 768 w768 1 0 v4.length/\st.t 4=.osl 896 w896 1 0 v5.length/\st.t 5=.v (.int .i64 v3)/\st.s 64=some (w64,.arr true 36 10 [e36 a0] 0)))
abbrev Qi3:=λ N (a1:List Int) (Q:(Ex (W9 × List Int × Int) (Int × Int × List Int × List W4 × Int × Int × List Int × List Int × List Int × Int × Int × Int × Int × Int × Int × Int × List Int))→Prop) n (st:St)=>∃ (v1:Int) (v2:Int) (v3:Int) (v4:List Int) (v5:List W4) (v6:Int) (v7:Int) (v8:List Int) (v9:List Int) (v10:List Int) (v11:Int) (v12:Int) (v13:Int) (v14:Int) (v15:Int) (v16:Int) (v17:Int) (v18:List Int) (ex:_),Qbs N a1 n v1 v2 v3 v4 v5 v6 v7 v8 v9 v10 v11 v12 v13 v14 v15 v16 v17 v18=some ex/\Q ex/\((∃ w2304 w128 w256,st.n=39/\st.s 2304=some (w2304,.arr false 37 1 (v18.map e37) 0)/\st.t 1=.isl 37 1 (a1.map e37)/\st.t 2=.ept 128 w128 16 0 0/\st.t 4=.ept 256 w256 16 0 0/\st.t 7=.osl 2304 w2304 1 0 v18.length/\st.t 8=.v (.int .i64 v1)/\st.s 128=some (w128,.arr true 265 16 [[.v (.int .i64 v2),.v (.int .i64 v3),.isl 37 1 (v4.map e37),.isl 306 4 (v5.map Ym),.v (.int .i64 v6),.v (.int .i64 v7),.isl 37 1 (v8.map e37),.isl 3 1 (v9.map e3),.isl 37 1 (v10.map e37),.v (.int .i64 v11),.v (.int .i64 v12),.v (.int .i64 v13),.v (.int .i64 v14),.v (.int .i64 v15),.v (.int .i64 v16),.v (.int .i64 v17)]] 0)/\st.s 256=some (w256,.arr true 265 16 [[.v (.int .i64 0),.v (.int .i64 0),.nsl,.nsl,.v (.int .i64 0),.v (.int .i64 0),.nsl,.nsl,.nsl,.v (.int .i64 0),.v (.int .i64 0),.v (.int .i64 0),.v (.int .i64 0),.v (.int .i64 0),.v (.int .i64 0),.v (.int .i64 0)]] 0))\/(∃ w128 w256,(st.n=39/\st.t 1=.isl 37 1 (a1.map e37)/\st.t 2=.ept 128 w128 16 0 0/\st.t 4=.ept 256 w256 16 0 0/\st.t 7=.nsl/\st.t 8=.v (.int .i64 v1)/\st.s 128=some (w128,.arr true 265 16 [[.v (.int .i64 v2),.v (.int .i64 v3),.isl 37 1 (v4.map e37),.isl 306 4 (v5.map Ym),.v (.int .i64 v6),.v (.int .i64 v7),.isl 37 1 (v8.map e37),.isl 3 1 (v9.map e3),.isl 37 1 (v10.map e37),.v (.int .i64 v11),.v (.int .i64 v12),.v (.int .i64 v13),.v (.int .i64 v14),.v (.int .i64 v15),.v (.int .i64 v16),.v (.int .i64 v17)]] 0)/\st.s 256=some (w256,.arr true 265 16 [[.v (.int .i64 0),.v (.int .i64 0),.nsl,.nsl,.v (.int .i64 0),.v (.int .i64 0),.nsl,.nsl,.nsl,.v (.int .i64 0),.v (.int .i64 0),.v (.int .i64 0),.v (.int .i64 0),.v (.int .i64 0),.v (.int .i64 0),.v (.int .i64 0)]] 0))/\v18=[]))
abbrev QjJ:=λ N (p1:Int) (y3:List Int) (Q:(Ex (W9 × Bool × Int) (Int × Int × List Int × List W4 × Int × Int × List Int × List Int × List Int × Int × Int × Int × Int × Int × Int × Int))→Prop) n (st:St)=>∃ (v4:Int) (v5:Int) (v6:Int) (v7:List Int) (v8:List W4) (v9:Int) (v10:Int) (v11:List Int) (v12:List Int) (v13:List Int) (v14:Int) (v15:Int) (v16:Int) (v17:Int) (v18:Int) (v19:Int) (v20:Int) (ex:_),QbK N p1 y3 n v4 v5 v6 v7 v8 v9 v10 v11 v12 v13 v14 v15 v16 v17 v18 v19 v20=some ex/\Q ex/\((∃ w64 w128,st.n=90/\st.t 1=.ept 64 w64 16 0 0/\st.t 2=.ept 128 w128 16 0 0/\st.t 5=.v (.int .u64 p1)/\st.t 6=.isl 3 1 (y3.map e3)/\st.t 7=.v (.int .i64 v4)/\st.s 64=some (w64,.arr true 265 16 [[.v (.int .i64 v5),.v (.int .i64 v6),.isl 37 1 (v7.map e37),.isl 306 4 (v8.map Ym),.v (.int .i64 v9),.v (.int .i64 v10),.isl 37 1 (v11.map e37),.isl 3 1 (v12.map e3),.isl 37 1 (v13.map e37),.v (.int .i64 v14),.v (.int .i64 v15),.v (.int .i64 v16),.v (.int .i64 v17),.v (.int .i64 v18),.v (.int .i64 v19),.v (.int .i64 v20)]] 0)/\st.s 128=some (w128,.arr true 265 16 [[.v (.int .i64 0),.v (.int .i64 0),.nsl,.nsl,.v (.int .i64 0),.v (.int .i64 0),.nsl,.nsl,.nsl,.v (.int .i64 0),.v (.int .i64 0),.v (.int .i64 0),.v (.int .i64 0),.v (.int .i64 0),.v (.int .i64 0),.v (.int .i64 0)]] 0)))
abbrev QjK:=λ N (a0:W9) (Q:(List Int × Int)→Prop) n (st:St)=>∃ (v1:Int) (v2:List Int) (v3:Int) (ex:_),QaT N a0 n v1 v2 v3=some ex/\Q ex/\((∃ w64 w128,st.n=84/\st.t 1=.ept 64 w64 16 0 0/\st.t 2=.ept 128 w128 16 0 0/\st.t 3=.v (.int .i64 v1)/\st.s 64=some (w64,.arr true 265 16 [[.v (.int .i64 a0.Heap.Conf.PageWords),.v (.int .i64 a0.Heap.Conf.Pages),.isl 37 1 (v2.map e37),.isl 306 4 (a0.Heap.Pages.map Ym),.v (.int .i64 a0.Heap.Space),.v (.int .i64 a0.Heap.Bump),.isl 37 1 (a0.Old.map e37),.isl 3 1 (a0.Taken.map e3),.isl 37 1 (a0.Queue.map e37),.v (.int .i64 a0.Scanned),.v (.int .i64 a0.Report.Copied),.v (.int .i64 a0.Report.Kept),.v (.int .i64 v3),.v (.int .i64 a0.Report.Freed),.v (.int .i64 a0.Report.Cleared),.v (.int .i64 a0.Report.Steps)]] 0)/\st.s 128=some (w128,.arr true 265 16 [[.v (.int .i64 0),.v (.int .i64 0),.nsl,.nsl,.v (.int .i64 0),.v (.int .i64 0),.nsl,.nsl,.nsl,.v (.int .i64 0),.v (.int .i64 0),.v (.int .i64 0),.v (.int .i64 0),.v (.int .i64 0),.v (.int .i64 0),.v (.int .i64 0)]] 0)))
abbrev QjL:=λ N (a0:Ws) (Q:(List Int)→Prop) n (st:St)=>∃ (v2:Int) (v3:List Int) (ex:_),Qdy N a0 n v2 v3=some ex/\Q ex/\((∃ w1408,st.n=25/\st.s 1408=some (w1408,.arr false 37 1 (v3.map e37) 0)/\st.t 3=.osl 1408 w1408 1 0 v3.length/\st.t 10=.isl 210 3 (a0.Slots.map X4)/\st.t 11=.v (.int .i64 ((a0.Slots.length:Nat):Int))/\st.t 12=.v (.int .i64 v2))\/((st.n=25/\st.t 3=.nsl/\st.t 10=.isl 210 3 (a0.Slots.map X4)/\st.t 11=.v (.int .i64 ((a0.Slots.length:Nat):Int))/\st.t 12=.v (.int .i64 v2))/\v3=[]))
abbrev QjM:=λ N (a0:WC) (Q:(List Int)→Prop) n (st:St)=>∃ (v2:Int) (v3:List Int) (ex:_),Qdz N a0 n v2 v3=some ex/\Q ex/\((∃ w1408,st.n=25/\st.s 1408=some (w1408,.arr false 37 1 (v3.map e37) 0)/\st.t 3=.osl 1408 w1408 1 0 v3.length/\st.t 10=.isl 132 3 (a0.Entries.map XC)/\st.t 11=.v (.int .i64 ((a0.Entries.length:Nat):Int))/\st.t 12=.v (.int .i64 v2))\/((st.n=25/\st.t 3=.nsl/\st.t 10=.isl 132 3 (a0.Entries.map XC)/\st.t 11=.v (.int .i64 ((a0.Entries.length:Nat):Int))/\st.t 12=.v (.int .i64 v2))/\v3=[]))
abbrev Qhs:=λ N (a0:Wm) (Q:(Ex Bool Unit)→Prop) n (st:St)=>∃ (v1:Int) (ex:_),Qbb N a0 n v1=some ex/\Q ex/\((∃ w64,st.n=47/\st.t 1=.ept 64 w64 10 0 0/\st.t 6=.isl 116 3 (a0.Marks.map Yv)/\st.t 7=.v (.int .i64 ((a0.Marks.length:Nat):Int))/\st.t 8=.v (.int .i64 v1)/\st.s 64=some (w64,.arr true 61 10 [e61 a0] 0)))
theorem g17:(∀ N (a0:Wm),OK (Qdq N a0) 22 [.agg (e36 a0)] [] (λ r=>.isl 4 1 (r.map e4)) λ r=>[])/\(∀ N (a0:W9) (a1:List Int),OK (QeO N a0 a1) 209 [.agg (KH a0),.isl 37 1 (a1.map e37)] [] (λ r=>.tup [.agg (KH r.1),.isl 37 1 (r.2.1.map e37),.v (.int .i64 r.2.2)]) λ r=>[])/\(∀ N (a0:W9),OK (Qfj N a0) 247 [.agg (KH a0)] [] (λ r=>.tup [.agg (KH r.1),.v (.bool r.2.1),.v (.int .i64 r.2.2)]) λ r=>[])/\(∀ N (a0:W9),OK (Qfl N a0) 213 [.agg (KH a0)] [] (λ r=>.agg (KH r)) λ r=>[])/\(∀ N (a0:Ws),OK (Qgb N a0) 60 [.agg (e29 a0)] [] (λ r=>.isl 37 1 (r.map e37)) λ r=>[])/\(∀ N (a0:WC),OK (QeI N a0) 61 [.agg (e32 a0)] [] (λ r=>.isl 37 1 (r.map e37)) λ r=>[])/\(∀ N (a0:Wm),OK (Qc8 N a0) 118 [.agg (e61 a0)] [] (λ r=>.v (.bool r)) λ r=>[]):=by
 refine ⟨λ N _=>rn Tryz.f22 [.tmp 2] [] 56 (by kernel_rfl) ?_,λ N _ _=>rn Tryz.f209 [.cell 4 265,.tmp 5,.tmp 6] [] 39 (by kernel_rfl) ?_,λ N _=>rn Tryz.f247 [.cell 2 265,.tmp 3,.tmp 4] [] 90 (by kernel_rfl) ?_,λ N _=>rn Tryz.f213 [.cell 2 265] [] 84 (by kernel_rfl) ?_,λ N _=>rn Tryz.f60 [.tmp 2] [] 25 (by kernel_rfl) ?_,λ N _=>rn Tryz.f61 [.tmp 2] [] 25 (by kernel_rfl) ?_,λ N _=>rn Tryz.f118 [.tmp 2] [] 47 (by kernel_rfl) ?_⟩<;>(rintro _ hw r hr C _ rfl hwf hf;simp only[Tryz.f22,Tryz.f209,Tryz.f247,Tryz.f213,Tryz.f60,Tryz.f61,Tryz.f118,Option.get!];(first|rw[Qdq] at hr|rw[QeO] at hr|rw[Qfj] at hr|rw[Qfl] at hr|rw[Qgb] at hr|rw[QeI] at hr|rw[Qc8] at hr);repeat' first
 |(refine El.el hr ?_;intro hr)
 |(with_reducible intro h;refine Xz hr h ?_;intro hr)
 |with_reducible intro _
 |(refine Xq hr ?_;rintro rfl;have hr:=hk;clear hk)
 |simp only[go_sem,simprocAttr,E,hl3,hl4,XQ,YR,ZA,Yw,Yx]
 |(with_reducible first|apply Xg|apply Xf|apply Xs|apply Xx|apply Xy)
 |((first|with_reducible refine Ye hr (by assumption) ?_ ?_|(with_reducible refine Yd hr ?_ ?_;rotate_left;intro p;rotate_right));(·simp only[go_sem,simprocAttr]);intro hp hn hd hr;(try have hl3:=hd _ e3);(try simp only[go_sem,simprocAttr] at hl3);(try have hl4:=hd _ e4);(try simp only[go_sem,simprocAttr] at hl4);(try have XQ:=hd _ e37);(try simp only[go_sem,simprocAttr] at XQ);(try have YR:=hd _ KG);(try simp only[go_sem,simprocAttr] at YR);(try have ZA:=hd _ Yv);(try simp only[go_sem,simprocAttr] at ZA);(try have Yw:=hd _ XC);(try simp only[go_sem,simprocAttr] at Yw);(try have Yx:=hd _ X4);(try simp only[go_sem,simprocAttr] at Yx))
 |(refine Xl ?_ ?_;·first|assumption|omega)
 |(with_reducible first|refine CallX.c ?_ _|refine OK.c hr hw ?_ (λ y hr=>?_) _|refine Oy hr hw ?_ (λ y hr=>?_) _)
 |(with_reducible refine Xj (I:=Qh8 N _) hr 1000 N (λ ex hq hk=>⟨_,_,_,ex,hq,hk,?_⟩) ?_ _;rotate_left;clear hr;(try clear E);rintro n1 st ⟨v3,v4,v5,ex,hr,hk,⟨_,_,_,E⟩⟩<;>(obtain _|n1:=n1<;>rw[Qar] at hr))
 |refine ⟨_,WJ _,_,_,_,_,hr,hk,?_⟩
 |(with_reducible refine Xj (I:=Qi3 N _) hr 1000 N (λ ex hq hk=>⟨_,_,_,_,_,_,_,_,_,_,_,_,_,_,_,_,_,_,ex,hq,hk,?_⟩) ?_ _;rotate_left;clear hr;(try clear E);rintro n1 st ⟨v1,v2,v3,v4,v5,v6,v7,v8,v9,v10,v11,v12,v13,v14,v15,v16,v17,v18,ex,hr,hk,(⟨_,_,_,E⟩|⟨_,_,E,z0⟩)⟩<;>(try subst z0)<;>(obtain _|n1:=n1<;>rw[Qbs] at hr))
 |refine ⟨_,WJ _,_,_,_,_,_,_,_,_,_,_,_,_,_,_,_,_,_,_,_,hr,hk,?_⟩
 |(with_reducible refine Xj (I:=QjJ N _ _) hr 1000 N (λ ex hq hk=>⟨_,_,_,_,_,_,_,_,_,_,_,_,_,_,_,_,_,ex,hq,hk,?_⟩) ?_ _;rotate_left;clear hr;(try clear E);rintro n1 st ⟨v4,v5,v6,v7,v8,v9,v10,v11,v12,v13,v14,v15,v16,v17,v18,v19,v20,ex,hr,hk,⟨_,_,E⟩⟩<;>(obtain _|n1:=n1<;>rw[QbK] at hr))
 |refine ⟨_,WJ _,_,_,_,_,_,_,_,_,_,_,_,_,_,_,_,_,_,_,hr,hk,?_⟩
 |(with_reducible refine Xj (I:=QjK N _) hr 1000 N (λ ex hq hk=>⟨_,_,_,ex,hq,hk,?_⟩) ?_ _;rotate_left;clear hr;(try clear E);rintro n1 st ⟨v1,v2,v3,ex,hr,hk,⟨_,_,E⟩⟩<;>(obtain _|n1:=n1<;>rw[QaT] at hr))
 |(with_reducible refine Xj (I:=QjL N _) hr 1000 N (λ ex hq hk=>⟨_,_,ex,hq,hk,?_⟩) ?_ _;rotate_left;clear hr;(try clear E);rintro n1 st ⟨v2,v3,ex,hr,hk,(⟨_,E⟩|⟨E,z0⟩)⟩<;>(try subst z0)<;>(obtain _|n1:=n1<;>rw[Qdy] at hr))
 |refine ⟨_,WJ _,_,_,_,hr,hk,?_⟩
 |(with_reducible refine Xj (I:=QjM N _) hr 1000 N (λ ex hq hk=>⟨_,_,ex,hq,hk,?_⟩) ?_ _;rotate_left;clear hr;(try clear E);rintro n1 st ⟨v2,v3,ex,hr,hk,(⟨_,E⟩|⟨E,z0⟩)⟩<;>(try subst z0)<;>(obtain _|n1:=n1<;>rw[Qdz] at hr))
 |(with_reducible refine Xj (I:=Qhs N _) hr 1000 N (λ ex hq hk=>⟨_,ex,hq,hk,?_⟩) ?_ _;rotate_left;clear hr;(try clear E);rintro n1 st ⟨v1,ex,hr,hk,⟨_,E⟩⟩<;>(obtain _|n1:=n1<;>rw[Qbb] at hr))
 |refine ⟨_,WJ _,_,_,hr,hk,?_⟩
 |refine db 22 10 hf 43 [(0,2046,[]),(0,249,[]),(2,249,[]),(0,23,[]),(0,15,[]),(24,7,[]),(56,7,[]),(120,7,[]),(254,1,[]),(510,1,[]),(1022,1,[]),(2047,0,[[896],[]]),(4095,0,[])] rfl rfl (by kernel_rfl) ?_ _
 |refine db 209 5 hf 9 [(0,30721,[[],[576]]),(0,5121,[[],[576]]),(0,3073,[[],[576]]),(6,1025,[[],[576]]),(14,1025,[[],[576]]),(31,1,[[],[576]]),(63,1,[[],[576]]),(127,393217,[[],[576]]),(127,327681,[[],[576]]),(127,196611,[[],[576]]),(0,523776,[[576],[]]),(1279,393216,[[576],[]]),(3583,262144,[]),(8191,0,[])] rfl rfl (by kernel_rfl) ?_ _
 |refine db 209 8 hf 32 [(0,30,[[],[2240,2304]]),(0,13,[[],[2240]]),(0,3,[]),(4,3,[[2240],[]]),(14,1,[[2304],[]]),(31,0,[[128],[]]),(63,0,[])] rfl rfl (by kernel_rfl) ?_ _
 |refine db 213 4 hf 4 [(0,4063232,[]),(1,4063232,[]),(3,4063232,[]),(0,638976,[]),(8,638976,[]),(0,507904,[]),(56,114688,[]),(120,114688,[]),(255,0,[]),(511,0,[]),(1023,50331648,[]),(1023,41943041,[]),(1023,25165827,[]),(2047,50331648,[]),(12287,33554432,[]),(32767,0,[])] rfl rfl (by kernel_rfl) ?_ _
 |refine db 213 5 hf 30 [(0,2,[]),(0,1,[]),(3,0,[]),(7,0,[]),(15,0,[]),(31,3968,[]),(63,3968,[]),(31,608,[]),(159,608,[]),(31,480,[]),(927,96,[]),(1951,96,[]),(4095,0,[]),(8191,0,[])] rfl rfl (by kernel_rfl) ?_ _
 |refine db 213 6 hf 7 [(0,8521215115265,[[],[448]]),(0,1236950581249,[[],[448]]),(2,1236950581249,[[],[448]]),(0,962072674305,[[],[448]]),(14,137438953473,[[],[448]]),(30,137438953473,[[],[448]]),(63,1,[[],[448]]),(0,17454747090944,[[448],[]]),(255,0,[[448],[]])] rfl rfl (by kernel_rfl) ?_ _
 |refine db 213 8 hf 59 [(0,8184,[[],[4352]]),(1,8184,[[],[4352]]),(3,8184,[[],[4352]]),(0,7975,[[],[4352]]),(8,7975,[[],[4352]]),(0,7967,[[],[4352]]),(56,7943,[[],[4352]]),(120,7943,[[],[4352]]),(0,3327,[]),(256,3327,[[4352],[]]),(0,1023,[[],[4352]]),(1024,1023,[[],[4352]]),(3840,255,[[4352],[]]),(8191,0,[[4352],[]]),(16383,0,[]),(32767,32768,[]),(32767,212992,[[],[64]]),(65535,32768,[]),(196607,32768,[]),(458751,32768,[[64],[]])] rfl rfl (by kernel_rfl) ?_ _
 |(refine Xq hr ?_;rintro rfl;with_reducible refine XG ?_)
 |exact Yo hr
 |((first|refine Xz (c:=true) hr rfl ?_|refine Xz (c:=false) hr rfl ?_|refine Xz hr (by assumption) ?_);intro hr)
 |fail)
@[reducible,instance] def QlU:=g17.1
@[reducible,instance] def Qnj:=g17.2.1
@[reducible,instance] def Qoa:=g17.2.2.1
@[reducible,instance] def Qob:=g17.2.2.2.1
@[reducible,instance] def Qoc:=g17.2.2.2.2.1
@[reducible,instance] def Qod:=g17.2.2.2.2.2.1
@[reducible,instance] def QkH:=g17.2.2.2.2.2.2
end Go.Sx
