import Derived.Test.YtgdhlnfcogcicaaGreatDoorTF
import Derived.Test.YtgdhlnfcogcicaaGreatDoorTG1
import Derived.Test.YtgdhlnfcogcicaaGreatDoorTG3
import Derived.Test.YtgdhlnfcogcicaaGreatDoorTG4
import Derived.Test.YtgdhlnfcogcicaaGreatDoorTG6
import Derived.Test.YtgdhlnfcogcicaaGreatDoorTG7
import Derived.Test.YtgdhlnfcogcicaaGreatDoorTG8
import Derived.Test.YtgdhlnfcogcicaaGreatDoorTG9
import Derived.Test.YtgdhlnfcogcicaaGreatDoorTG10
set_option linter.all false
namespace Go.Sx
open Go.Proofs
set_option maxRecDepth 10000
set_option maxHeartbeats 100000000
abbrev QiZ:=λ N (a0:Wm) (Q:(Ex Bool Unit)→Prop) n (st:St)=>∃ (v5:Int) (ex:_),QcL N a0 n v5=some ex/\Q ex/\((∃ w64,st.n=154/\st.t 1=.ept 64 w64 10 0 0/\st.t 3=.v (.int .i64 v5)/\st.s 64=some (w64,.arr true 36 10 [e36 a0] 0)))
abbrev Qi0:=λ N (a0:Wm) (y11:List Int) (Q:(Ex Bool Unit)→Prop) n (st:St)=>∃ (v12:Int) (ex:_),QcM N a0 y11 n v12=some ex/\Q ex/\((∃ w4928 w64,st.n=154/\st.s 4928=some (w4928,.arr false 37 1 (y11.map e37) 0)/\st.t 1=.ept 64 w64 10 0 0/\st.t 5=.osl 4928 w4928 1 0 y11.length/\st.t 6=.v (.int .i64 v12)/\st.s 64=some (w64,.arr true 36 10 [e36 a0] 0)))
abbrev Qi1:=λ N (a0:Wm) (y11:List Int) (Q:(Ex Bool Unit)→Prop) n (st:St)=>∃ (v15:Int) (ex:_),QcN N a0 y11 n v15=some ex/\Q ex/\((∃ w4928 w64,st.n=154/\st.s 4928=some (w4928,.arr false 37 1 (y11.map e37) 0)/\st.t 1=.ept 64 w64 10 0 0/\st.t 5=.osl 4928 w4928 1 0 y11.length/\st.t 7=.v (.int .i64 v15)/\st.s 64=some (w64,.arr true 36 10 [e36 a0] 0)))
abbrev Qik:=λ N (a0:Wm) (Q:(List Int)→Prop) n (st:St)=>∃ (v3:Int) (v4:List Int) (ex:_),QbY N a0 n v3 v4=some ex/\Q ex/\((∃ w320 w64,st.n=35/\st.s 320=some (w320,.arr false 37 1 (v4.map e37) 0)/\st.t 1=.ept 64 w64 10 0 0/\st.t 3=.osl 320 w320 1 0 v4.length/\st.t 4=.v (.int .i64 v3)/\st.s 64=some (w64,.arr true 36 10 [e36 a0] 0)))
abbrev Qil:=λ N (a0:Wz) (Q:(Ex Bool Unit)→Prop) n (st:St)=>∃ (v3:Int) (v4:Int) (ex:_),Qb0 N a0 n v3 v4=some ex/\Q ex/\((∃ w64,st.n=157/\st.t 1=.ept 64 w64 6 0 0/\st.t 3=.v (.int .i64 v3)/\st.t 4=.v (.int .i64 v4)/\st.s 64=some (w64,.arr true 42 6 [e42 a0] 0)))
abbrev Qh7:=λ N (a0:W9) (a1:Int) (Q:(List W4)→Prop) n (st:St)=>∃ (v10:Int) (v11:List W4) (ex:_),QcQ N a0 a1 n v10 v11=some ex/\Q ex/\((∃ w5760 w128 w256,st.n=202/\st.s 5760=some (w5760,.arr false 306 4 (v11.map Ym) 0)/\st.t 1=.v (.int .u64 a1)/\st.t 2=.ept 128 w128 16 0 0/\st.t 4=.ept 256 w256 16 0 0/\st.t 14=.v (.int .i64 v10)/\st.s 128=some (w128,.arr true 265 16 [[.v (.int .i64 a0.Heap.Conf.PageWords),.v (.int .i64 a0.Heap.Conf.Pages),.isl 37 1 (a0.Heap.Words.map e37),.osl 5760 w5760 4 0 v11.length,.v (.int .i64 a0.Heap.Space),.v (.int .i64 a0.Heap.Bump),.isl 37 1 (a0.Old.map e37),.isl 3 1 (a0.Taken.map e3),.isl 37 1 (a0.Queue.map e37),.v (.int .i64 a0.Scanned),.v (.int .i64 a0.Report.Copied),.v (.int .i64 a0.Report.Kept),.v (.int .i64 a0.Report.Filled),.v (.int .i64 a0.Report.Freed),.v (.int .i64 a0.Report.Cleared),.v (.int .i64 a0.Report.Steps)]] 0)/\st.s 256=some (w256,.arr true 265 16 [[.v (.int .i64 0),.v (.int .i64 0),.nsl,.nsl,.v (.int .i64 0),.v (.int .i64 0),.nsl,.nsl,.nsl,.v (.int .i64 0),.v (.int .i64 0),.v (.int .i64 0),.v (.int .i64 0),.v (.int .i64 0),.v (.int .i64 0),.v (.int .i64 0)]] 0)))
abbrev Qim:=λ N (a0:UX) (Q:(List Int)→Prop) n (st:St)=>∃ (v3:Int) (v4:List Int) (ex:_),Qbe N a0 n v3 v4=some ex/\Q ex/\((∃ w320 w64,st.n=35/\st.s 320=some (w320,.arr false 37 1 (v4.map e37) 0)/\st.t 1=.ept 64 w64 13 0 0/\st.t 3=.osl 320 w320 1 0 v4.length/\st.t 4=.v (.int .i64 v3)/\st.s 64=some (w64,.arr true 45 13 [e45 a0] 0)))
abbrev QjI:=λ N (a0:Ws) (a1:List Int) (Q:(Ex (Ws × Int) (List UR))→Prop) n (st:St)=>∃ (v3:Int) (v4:Int) (v5:List UR) (ex:_),Qbl N a0 a1 n v3 v4 v5=some ex/\Q ex/\((∃ w1280 w128 w256,st.n=57/\st.s 1280=some (w1280,.arr false 210 3 (v5.map X4) 0)/\st.t 1=.isl 37 1 (a1.map e37)/\st.t 2=.ept 128 w128 3 0 0/\st.t 4=.ept 256 w256 3 0 0/\st.t 6=.v (.int .i64 v3)/\st.t 7=.v (.int .i64 v4)/\st.s 128=some (w128,.arr true 29 3 [[.osl 1280 w1280 3 0 v5.length,.isl 159 3 (a0.Scopes.map X9),.isl 3 1 (a0.Issued.map e3)]] 0)/\st.s 256=some (w256,.arr true 29 3 [[.nsl,.nsl,.nsl]] 0)))
abbrev Qi2:=λ N (a0:Ws) (Q:(Ex Bool Unit)→Prop) n (st:St)=>∃ (v4:Int) (ex:_),QcS N a0 n v4=some ex/\Q ex/\((∃ w192,st.n=41/\st.t 3=.ept 192 w192 3 0 0/\st.t 27=.isl 159 3 (a0.Scopes.map X9)/\st.t 28=.v (.int .i64 ((a0.Scopes.length:Nat):Int))/\st.t 29=.v (.int .i64 v4)/\st.s 192=some (w192,.arr true 255 3 [e29 a0] 0)))
abbrev QhJ:=λ N (a0:WE) (y1:Int) (Q:(List Int)→Prop) n (st:St)=>∃ (v2:Int) (v3:List Int) (ex:_),QbD N a0 y1 n v2 v3=some ex/\Q ex/\((∃ w1024 w64,st.n=19/\st.s 1024=some (w1024,.arr false 3 1 (v3.map e3) 0)/\st.t 1=.ept 64 w64 3 0 0/\st.t 3=.osl 1024 w1024 1 0 v3.length/\st.t 6=.v (.int .i64 y1)/\st.t 7=.v (.int .i64 v2)/\st.s 64=some (w64,.arr true 75 3 [e75 a0] 0))\/(∃ w64,(st.n=19/\st.t 1=.ept 64 w64 3 0 0/\st.t 3=.nsl/\st.t 6=.v (.int .i64 y1)/\st.t 7=.v (.int .i64 v2)/\st.s 64=some (w64,.arr true 75 3 [e75 a0] 0))/\v3=[]))
theorem g14:(∀ N (a0:Wm),OK (QdO N a0) 65 [.agg (e36 a0)] [] (λ r=>.v (.bool r)) λ r=>[])/\(∀ N (a0:Wm),OK (Qem N a0) 66 [.agg (e36 a0)] [] (λ r=>.fsl 37 1 (r.map e37)) λ r=>[])/\(∀ N (a0:Wz),OK (QaL N a0) 207 [.agg (e42 a0)] [] (λ r=>.v (.bool r)) λ r=>[])/\(∀ N (a0:W9) (a1:Int),OK (QcC N a0 a1) 246 [.agg (KH a0),.v (.int .u64 a1)] [] (λ r=>.tup [.agg (KH r.1),.v (.int .u64 r.2.1),.v (.int .i64 r.2.2)]) λ r=>[])/\(∀ N (a0:UX),OK (Qep N a0) 132 [.agg (e45 a0)] [] (λ r=>.isl 37 1 (r.map e37)) λ r=>[])/\(∀ N (a0:Ws) (a1:List Int),OK (Qfm N a0 a1) 133 [.agg (e29 a0),.isl 37 1 (a1.map e37)] [] (λ r=>.tup [.agg (e29 r.1),.v (.int .i64 r.2)]) λ r=>[])/\(∀ N (a0:Ws),OK (Qco N a0) 113 [.agg (e29 a0)] [] (λ r=>.v (.bool r)) λ r=>[])/\(∀ N (a0:WE),OK (Qbz N a0) 64 [.agg (e75 a0)] [] (λ r=>.isl 3 1 (r.map e3)) λ r=>[]):=by
 refine ⟨λ N _=>rn Tryz.f65 [.tmp 2] [] 154 (by kernel_rfl) ?_,λ N _=>rn Tryz.f66 [.tmp 2] [320] 35 (by kernel_rfl) ?_,λ N _=>rn Tryz.f207 [.tmp 2] [] 157 (by kernel_rfl) ?_,λ N _ _=>rn Tryz.f246 [.cell 4 265,.tmp 5,.tmp 6] [] 202 (by kernel_rfl) ?_,λ N _=>rn Tryz.f132 [.tmp 2] [] 35 (by kernel_rfl) ?_,λ N _ _=>rn Tryz.f133 [.cell 4 29,.tmp 5] [] 57 (by kernel_rfl) ?_,λ N _=>rn Tryz.f113 [.tmp 2] [] 41 (by kernel_rfl) ?_,λ N _=>rn Tryz.f64 [.tmp 2] [] 19 (by kernel_rfl) ?_⟩<;>(rintro _ hw r hr C _ rfl hwf hf;simp only[Tryz.f65,Tryz.f66,Tryz.f207,Tryz.f246,Tryz.f132,Tryz.f133,Tryz.f113,Tryz.f64,Option.get!];(first|rw[QdO] at hr|rw[Qem] at hr|rw[QaL] at hr|rw[QcC] at hr|rw[Qep] at hr|rw[Qfm] at hr|rw[Qco] at hr|rw[Qbz] at hr);repeat' first
 |(refine El.el hr ?_;intro hr)
 |(with_reducible intro h;refine Xz hr h ?_;intro hr)
 |with_reducible intro _
 |(refine Xq hr ?_;rintro rfl;have hr:=hk;clear hk)
 |simp only[go_sem,simprocAttr,E,XQ,Jg,YR,YU,Yx,KI,Yn]
 |(with_reducible first|apply Xg|apply Xf|apply Xs|apply Xx|apply Xy)
 |((first|with_reducible refine Ye hr (by assumption) ?_ ?_|(with_reducible refine Yd hr ?_ ?_;rotate_left;intro p;rotate_right));(·simp only[go_sem,simprocAttr]);intro hp hn hd hr;(try have XQ:=hd _ e37);(try simp only[go_sem,simprocAttr] at XQ);(try have Jg:=hd _ e96);(try simp only[go_sem,simprocAttr] at Jg);(try have YR:=hd _ KG);(try simp only[go_sem,simprocAttr] at YR);(try have YU:=hd _ X9);(try simp only[go_sem,simprocAttr] at YU);(try have Yx:=hd _ X4);(try simp only[go_sem,simprocAttr] at Yx);(try have KI:=hd _ JA);(try simp only[go_sem,simprocAttr] at KI);(try have Yn:=hd _ Ym);(try simp only[go_sem,simprocAttr] at Yn))
 |(refine Xl ?_ ?_;·first|assumption|omega)
 |(with_reducible first|refine CallX.c ?_ _|refine OK.c hr hw ?_ (λ y hr=>?_) _|refine Oy hr hw ?_ (λ y hr=>?_) _)
 |(with_reducible refine Xj (I:=QiZ N _) hr 1000 N (λ ex hq hk=>⟨_,ex,hq,hk,?_⟩) ?_ _;rotate_left;clear hr;(try clear E);rintro n1 st ⟨v5,ex,hr,hk,⟨_,E⟩⟩<;>(obtain _|n1:=n1<;>rw[QcL] at hr))
 |refine ⟨_,WJ _,_,_,hr,hk,?_⟩
 |(with_reducible refine Xj (I:=Qi0 N _ _) hr 1000 N (λ ex hq hk=>⟨_,ex,hq,hk,?_⟩) ?_ _;rotate_left;clear hr;(try clear E);rintro n2 st ⟨v12,ex,hr,hk,⟨_,_,E⟩⟩<;>(obtain _|n2:=n2<;>rw[QcM] at hr))
 |(with_reducible refine Xj (I:=Qi1 N _ _) hr 1000 N (λ ex hq hk=>⟨_,ex,hq,hk,?_⟩) ?_ _;rotate_left;clear hr;(try clear E);rintro n3 st ⟨v15,ex,hr,hk,⟨_,_,E⟩⟩<;>(obtain _|n3:=n3<;>rw[QcN] at hr))
 |(with_reducible refine Xj (I:=Qik N _) hr 1000 N (λ ex hq hk=>⟨_,_,ex,hq,hk,?_⟩) ?_ _;rotate_left;clear hr;(try clear E);rintro n1 st ⟨v3,v4,ex,hr,hk,⟨_,_,E⟩⟩<;>(obtain _|n1:=n1<;>rw[QbY] at hr))
 |refine ⟨_,WJ _,_,_,_,hr,hk,?_⟩
 |(with_reducible refine Xj (I:=Qil N _) hr 1000 N (λ ex hq hk=>⟨_,_,ex,hq,hk,?_⟩) ?_ _;rotate_left;clear hr;(try clear E);rintro n1 st ⟨v3,v4,ex,hr,hk,⟨_,E⟩⟩<;>(obtain _|n1:=n1<;>rw[Qb0] at hr))
 |(with_reducible refine Xj (I:=Qh7 N _ _) hr 1000 N (λ ex hq hk=>⟨_,_,ex,hq,hk,?_⟩) ?_ _;rotate_left;clear hr;(try clear E);rintro n1 st ⟨v10,v11,ex,hr,hk,⟨_,_,_,E⟩⟩<;>(obtain _|n1:=n1<;>rw[QcQ] at hr))
 |(with_reducible refine Xj (I:=Qim N _) hr 1000 N (λ ex hq hk=>⟨_,_,ex,hq,hk,?_⟩) ?_ _;rotate_left;clear hr;(try clear E);rintro n1 st ⟨v3,v4,ex,hr,hk,⟨_,_,E⟩⟩<;>(obtain _|n1:=n1<;>rw[Qbe] at hr))
 |(with_reducible refine Xj (I:=QjI N _ _) hr 1000 N (λ ex hq hk=>⟨_,_,_,ex,hq,hk,?_⟩) ?_ _;rotate_left;clear hr;(try clear E);rintro n1 st ⟨v3,v4,v5,ex,hr,hk,⟨_,_,_,E⟩⟩<;>(obtain _|n1:=n1<;>rw[Qbl] at hr))
 |refine ⟨_,WJ _,_,_,_,_,hr,hk,?_⟩
 |(with_reducible refine Xj (I:=Qi2 N _) hr 1000 N (λ ex hq hk=>⟨_,ex,hq,hk,?_⟩) ?_ _;rotate_left;clear hr;(try clear E);rintro n1 st ⟨v4,ex,hr,hk,⟨_,E⟩⟩<;>(obtain _|n1:=n1<;>rw[QcS] at hr))
 |(with_reducible refine Xj (I:=QhJ N _ _) hr 1000 N (λ ex hq hk=>⟨_,_,ex,hq,hk,?_⟩) ?_ _;rotate_left;clear hr;(try clear E);rintro n1 st ⟨v2,v3,ex,hr,hk,(⟨_,_,E⟩|⟨_,E,z0⟩)⟩<;>(try subst z0)<;>(obtain _|n1:=n1<;>rw[QbD] at hr))
 |refine db 65 7 hf 60 [(0,0,[]),(1,0,[]),(3,0,[]),(7,0,[]),(15,0,[]),(31,0,[]),(63,0,[]),(127,0,[]),(255,0,[]),(511,0,[]),(1023,0,[]),(2047,56,[]),(4095,56,[]),(8191,56,[]),(2047,7,[]),(18431,7,[]),(51199,7,[]),(131071,0,[]),(262143,0,[]),(524287,0,[]),(1048575,3072,[]),(1048575,512,[]),(3145727,512,[]),(8388607,0,[]),(16777215,0,[]),(33554431,0,[])] rfl rfl (by kernel_rfl) ?_ _
 |refine db 65 21 hf 131 [(0,6,[]),(0,1,[]),(2,1,[]),(7,0,[]),(15,0,[]),(31,448,[]),(31,32,[]),(95,32,[]),(223,32,[]),(511,0,[]),(1023,0,[]),(2047,0,[]),(4095,8192,[]),(4095,4096,[]),(16383,0,[]),(32767,0,[]),(65535,0,[]),(131071,1835008,[[],[9664]]),(131071,131072,[]),(393215,131072,[]),(917503,131072,[[9664],[]]),(2097151,0,[]),(4194303,0,[]),(8388607,0,[])] rfl rfl (by kernel_rfl) ?_ _
 |refine db 66 1 hf 5 [(0,54,[[320],[]]),(0,49,[[],[320]]),(2,49,[[],[320]]),(7,48,[[320],[]]),(0,15,[[],[320]]),(16,15,[[],[320]]),(63,0,[]),(127,0,[[320],[]]),(255,0,[])] rfl rfl (by kernel_rfl) ?_ _
 |refine db 132 1 hf 5 [(0,54,[[320],[]]),(0,49,[[],[320]]),(2,49,[[],[320]]),(7,48,[[320],[]]),(0,15,[[],[320]]),(16,15,[[],[320]]),(63,0,[]),(127,0,[[320],[]]),(255,0,[])] rfl rfl (by kernel_rfl) ?_ _
 |refine db 133 11 hf 45 [(0,124,[]),(1,124,[]),(0,123,[]),(0,23,[]),(0,15,[]),(24,7,[]),(56,7,[]),(127,0,[]),(255,0,[]),(511,0,[[1280],[]])] rfl rfl (by kernel_rfl) ?_ _
 |refine db 113 9 hf 34 [(0,26,[]),(0,25,[]),(3,24,[]),(0,7,[]),(8,7,[]),(31,0,[])] rfl rfl (by kernel_rfl) ?_ _
 |(refine Xq hr ?_;rintro rfl;with_reducible refine XG ?_)
 |exact Yo hr
 |((first|refine Xz (c:=true) hr rfl ?_|refine Xz (c:=false) hr rfl ?_|refine Xz hr (by assumption) ?_);intro hr)
 |fail)
@[reducible,instance] def Qnf:=g14.1
@[reducible,instance] def Qmx:=g14.2.1
@[reducible,instance] def Qmy:=g14.2.2.1
@[reducible,instance] def QlS:=g14.2.2.2.1
@[reducible,instance] def Qmz:=g14.2.2.2.2.1
@[reducible,instance] def Qn7:=g14.2.2.2.2.2.1
@[reducible,instance] def Qng:=g14.2.2.2.2.2.2.1
@[reducible,instance] def Qk1:=g14.2.2.2.2.2.2.2
end Go.Sx
