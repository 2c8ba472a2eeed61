import Derived.Test.YtgcneehkconghaaGreatDoorBF
import Derived.Test.YtgcneehkconghaaGreatDoorBG0
import Derived.Test.YtgcneehkconghaaGreatDoorBG1
import Derived.Test.YtgcneehkconghaaGreatDoorBG2
import Derived.Test.YtgcneehkconghaaGreatDoorBG3
import Derived.Test.YtgcneehkconghaaGreatDoorBG4
import Derived.Test.YtgcneehkconghaaGreatDoorBG5
import Derived.Test.YtgcneehkconghaaGreatDoorBG6
import Derived.Test.YtgcneehkconghaaGreatDoorBG7
import Derived.Test.YtgcneehkconghaaGreatDoorBG8
set_option linter.all false
namespace Go.Sx
open Go.Proofs
set_option maxRecDepth 10000
set_option maxHeartbeats 100000000
abbrev Qig:=λ N (a0:Wo) (Q:(Ex Bool Unit)→Prop) n (st:St)=>∃ (v3:Int) (v4:Int) (ex:_),Qao N a0 n v3 v4=some ex/\Q ex/\((∃ w64,st.n=157/\st.t 1=.ept 64 w64 6 0 0/\st.t 3=.v (.int .i64 v3)/\st.t 4=.v (.int .i64 v4)/\st.s 64=some (w64,.arr true 27 6 [e27 a0] 0)))
abbrev Qh1:=λ N (a0:WV) (a1:Int) (Q:(List Wx)→Prop) n (st:St)=>∃ (v10:Int) (v11:List Wx) (ex:_),QcQ N a0 a1 n v10 v11=some ex/\Q ex/\((∃ w5760 w128 w256,st.n=202/\st.s 5760=some (w5760,.arr false 175 4 (v11.map XB) 0)/\st.t 1=.v (.int .u64 a1)/\st.t 2=.ept 128 w128 16 0 0/\st.t 4=.ept 256 w256 16 0 0/\st.t 14=.v (.int .i64 v10)/\st.s 128=some (w128,.arr true 232 16 [[.v (.int .i64 a0.Heap.Conf.PageWords),.v (.int .i64 a0.Heap.Conf.Pages),.isl 39 1 (a0.Heap.Words.map e39),.osl 5760 w5760 4 0 v11.length,.v (.int .i64 a0.Heap.Space),.v (.int .i64 a0.Heap.Bump),.isl 39 1 (a0.Old.map e39),.isl 3 1 (a0.Taken.map e3),.isl 39 1 (a0.Queue.map e39),.v (.int .i64 a0.Scanned),.v (.int .i64 a0.Report.Copied),.v (.int .i64 a0.Report.Kept),.v (.int .i64 a0.Report.Filled),.v (.int .i64 a0.Report.Freed),.v (.int .i64 a0.Report.Cleared),.v (.int .i64 a0.Report.Steps)]] 0)/\st.s 256=some (w256,.arr true 232 16 [[.v (.int .i64 0),.v (.int .i64 0),.nsl,.nsl,.v (.int .i64 0),.v (.int .i64 0),.nsl,.nsl,.nsl,.v (.int .i64 0),.v (.int .i64 0),.v (.int .i64 0),.v (.int .i64 0),.v (.int .i64 0),.v (.int .i64 0),.v (.int .i64 0)]] 0)))
abbrev Qih:=λ N (a0:Uh) (Q:(List Int)→Prop) n (st:St)=>∃ (v3:Int) (v4:List Int) (ex:_),QaQ N a0 n v3 v4=some ex/\Q ex/\((∃ w320 w64,st.n=35/\st.s 320=some (w320,.arr false 39 1 (v4.map e39) 0)/\st.t 1=.ept 64 w64 13 0 0/\st.t 3=.osl 320 w320 1 0 v4.length/\st.t 4=.v (.int .i64 v3)/\st.s 64=some (w64,.arr true 38 13 [e38 a0] 0)))
abbrev QjG:=λ N (a0:Wq) (a1:List Int) (Q:(Ex (Wq × Int) (List US))→Prop) n (st:St)=>∃ (v3:Int) (v4:Int) (v5:List US) (ex:_),Qbi N a0 a1 n v3 v4 v5=some ex/\Q ex/\((∃ w1280 w128 w256,st.n=57/\st.s 1280=some (w1280,.arr false 115 3 (v5.map Zg) 0)/\st.t 1=.isl 39 1 (a1.map e39)/\st.t 2=.ept 128 w128 3 0 0/\st.t 4=.ept 256 w256 3 0 0/\st.t 6=.v (.int .i64 v3)/\st.t 7=.v (.int .i64 v4)/\st.s 128=some (w128,.arr true 32 3 [[.osl 1280 w1280 3 0 v5.length,.isl 98 3 (a0.Scopes.map e98),.isl 3 1 (a0.Issued.map e3)]] 0)/\st.s 256=some (w256,.arr true 32 3 [[.nsl,.nsl,.nsl]] 0)))
abbrev QiS:=λ N (a0:WI) (Q:(Ex Bool Unit)→Prop) n (st:St)=>∃ (v5:Int) (ex:_),QcR N a0 n v5=some ex/\Q ex/\((∃ w64,st.n=154/\st.t 1=.ept 64 w64 10 0 0/\st.t 3=.v (.int .i64 v5)/\st.s 64=some (w64,.arr true 43 10 [e43 a0] 0)))
abbrev QiT:=λ N (a0:WI) (y11:List Int) (Q:(Ex Bool Unit)→Prop) n (st:St)=>∃ (v12:Int) (ex:_),QcS N a0 y11 n v12=some ex/\Q ex/\((∃ w4928 w64,st.n=154/\st.s 4928=some (w4928,.arr false 39 1 (y11.map e39) 0)/\st.t 1=.ept 64 w64 10 0 0/\st.t 5=.osl 4928 w4928 1 0 y11.length/\st.t 6=.v (.int .i64 v12)/\st.s 64=some (w64,.arr true 43 10 [e43 a0] 0)))
abbrev QiU:=λ N (a0:WI) (y11:List Int) (Q:(Ex Bool Unit)→Prop) n (st:St)=>∃ (v15:Int) (ex:_),QcT N a0 y11 n v15=some ex/\Q ex/\((∃ w4928 w64,st.n=154/\st.s 4928=some (w4928,.arr false 39 1 (y11.map e39) 0)/\st.t 1=.ept 64 w64 10 0 0/\st.t 5=.osl 4928 w4928 1 0 y11.length/\st.t 7=.v (.int .i64 v15)/\st.s 64=some (w64,.arr true 43 10 [e43 a0] 0)))
abbrev Qii:=λ N (a0:WI) (Q:(List Int)→Prop) n (st:St)=>∃ (v3:Int) (v4:List Int) (ex:_),Qc6 N a0 n v3 v4=some ex/\Q ex/\((∃ w320 w64,st.n=35/\st.s 320=some (w320,.arr false 39 1 (v4.map e39) 0)/\st.t 1=.ept 64 w64 10 0 0/\st.t 3=.osl 320 w320 1 0 v4.length/\st.t 4=.v (.int .i64 v3)/\st.s 64=some (w64,.arr true 43 10 [e43 a0] 0)))
abbrev Qhz:=λ N (a0:Ww) (y1:Int) (Q:(List Int)→Prop) n (st:St)=>∃ (v2:Int) (v3:List Int) (ex:_),Qbz N a0 y1 n v2 v3=some ex/\Q ex/\((∃ w1024 w64,st.n=19/\st.s 1024=some (w1024,.arr false 3 1 (v3.map e3) 0)/\st.t 1=.ept 64 w64 3 0 0/\st.t 3=.osl 1024 w1024 1 0 v3.length/\st.t 6=.v (.int .i64 y1)/\st.t 7=.v (.int .i64 v2)/\st.s 64=some (w64,.arr true 80 3 [e80 a0] 0))\/(∃ w64,(st.n=19/\st.t 1=.ept 64 w64 3 0 0/\st.t 3=.nsl/\st.t 6=.v (.int .i64 y1)/\st.t 7=.v (.int .i64 v2)/\st.s 64=some (w64,.arr true 80 3 [e80 a0] 0))/\v3=[]))
abbrev QiV:=λ N (a0:Wq) (Q:(Ex Bool Unit)→Prop) n (st:St)=>∃ (v4:Int) (ex:_),QcY N a0 n v4=some ex/\Q ex/\((∃ w192,st.n=41/\st.t 3=.ept 192 w192 3 0 0/\st.t 27=.isl 98 3 (a0.Scopes.map e98)/\st.t 28=.v (.int .i64 ((a0.Scopes.length:Nat):Int))/\st.t 29=.v (.int .i64 v4)/\st.s 192=some (w192,.arr true 180 3 [e32 a0] 0)))
abbrev QjH:=λ N (a1:List Wx) (a2:Int) (a3:Int) (y1:Int) (Q:(List Wx)→Prop) n (st:St)=>∃ (v3:List Wx) (ex:_),QfT N a1 a2 a3 y1 n v3=some ex/\Q ex/\((∃ w1856,st.n=45/\st.s 1856=some (w1856,.arr false 175 4 (v3.map XB) 0)/\st.t 1=.isl 175 4 (a1.map XB)/\st.t 2=.v (.int .i64 a2)/\st.t 3=.v (.int .i64 a3)/\st.t 13=.v (.int .i64 y1)/\st.t 14=.osl 1856 w1856 4 0 v3.length))
theorem g17:(∀ N (a0:Wo),OK (Qad N a0) 181 [.agg (e27 a0)] [] (λ r=>.v (.bool r)) λ r=>[])/\(∀ N (a0:WV) (a1:Int),OK (QcD N a0 a1) 270 [.agg (Kg a0),.v (.int .u64 a1)] [] (λ r=>.tup [.agg (Kg r.1),.v (.int .u64 r.2.1),.v (.int .i64 r.2.2)]) λ r=>[])/\(∀ N (a0:Uh),OK (QdJ N a0) 100 [.agg (e38 a0)] [] (λ r=>.isl 39 1 (r.map e39)) λ r=>[])/\(∀ N (a0:Wq) (a1:List Int),OK (QeJ N a0 a1) 101 [.agg (e32 a0),.isl 39 1 (a1.map e39)] [] (λ r=>.tup [.agg (e32 r.1),.v (.int .i64 r.2)]) λ r=>[])/\(∀ N (a0:WI),OK (Qdu N a0) 103 [.agg (e43 a0)] [] (λ r=>.v (.bool r)) λ r=>[])/\(∀ N (a0:WI),OK (Qfi N a0) 192 [.agg (e43 a0)] [] (λ r=>.fsl 39 1 (r.map e39)) λ r=>[])/\(∀ N (a0:Ww),OK (Qd8 N a0) 337 [.agg (e80 a0)] [] (λ r=>.isl 3 1 (r.map e3)) λ r=>[])/\(∀ N (a0:Wq),OK (QdB N a0) 49 [.agg (e32 a0)] [] (λ r=>.v (.bool r)) λ r=>[])/\(∀ N (a0:WX) (a1:List Wx) (a2:Int) (a3:Int) (a4:Int),OK (Qhw N a0 a1 a2 a3 a4) 239 [.agg (e23 a0),.isl 175 4 (a1.map XB),.v (.int .i64 a2),.v (.int .i64 a3),.v (.int .i64 a4)] [] (λ r=>.tup [.isl 175 4 (r.1.map XB),.v (.int .i64 r.2)]) λ r=>[]):=by
 refine ⟨λ N _=>rn Tryz.f181 [.tmp 2] [] 157 (by kernel_rfl) ?_,λ N _ _=>rn Tryz.f270 [.cell 4 232,.tmp 5,.tmp 6] [] 202 (by kernel_rfl) ?_,λ N _=>rn Tryz.f100 [.tmp 2] [] 35 (by kernel_rfl) ?_,λ N _ _=>rn Tryz.f101 [.cell 4 32,.tmp 5] [] 57 (by kernel_rfl) ?_,λ N _=>rn Tryz.f103 [.tmp 2] [] 154 (by kernel_rfl) ?_,λ N _=>rn Tryz.f192 [.tmp 2] [320] 35 (by kernel_rfl) ?_,λ N _=>rn Tryz.f337 [.tmp 2] [] 19 (by kernel_rfl) ?_,λ N _=>rn Tryz.f49 [.tmp 2] [] 41 (by kernel_rfl) ?_,λ N _ _ _ _ _=>rn Tryz.f239 [.tmp 10,.tmp 11] [] 45 (by kernel_rfl) ?_⟩<;>(rintro _ hw r hr C _ rfl hwf hf;simp only[Tryz.f181,Tryz.f270,Tryz.f100,Tryz.f101,Tryz.f103,Tryz.f192,Tryz.f337,Tryz.f49,Tryz.f239,Option.get!];(first|rw[Qad] at hr|rw[QcD] at hr|rw[QdJ] at hr|rw[QeJ] at hr|rw[Qdu] at hr|rw[Qfi] at hr|rw[Qd8] at hr|rw[QdB] at hr|rw[Qhw] at hr);repeat' first
 |(refine El.el hr ?_;intro hr)
 |(with_reducible intro h;refine Xw hr h ?_;intro hr)
 |with_reducible intro _
 |(refine Xn hr ?_;rintro rfl;have hr:=hk;clear hk)
 |simp only[go_sem,simprocAttr,E,XQ,Zt,Yd,Zd,ZG,XE,Ko]
 |(with_reducible first|apply Xg|apply Xf|apply Xo|apply Xt|apply Xu)
 |((first|with_reducible refine Yb hr (by assumption) ?_ ?_|(with_reducible refine X7 hr ?_ ?_;rotate_left;intro p;rotate_right));(·simp only[go_sem,simprocAttr]);intro hp hn hd hr;(try have XQ:=hd _ e39);(try simp only[go_sem,simprocAttr] at XQ);(try have Zt:=hd _ e98);(try simp only[go_sem,simprocAttr] at Zt);(try have Yd:=hd _ Zg);(try simp only[go_sem,simprocAttr] at Yd);(try have Zd:=hd _ YT);(try simp only[go_sem,simprocAttr] at Zd);(try have ZG:=hd _ VZ);(try simp only[go_sem,simprocAttr] at ZG);(try have XE:=hd _ XB);(try simp only[go_sem,simprocAttr] at XE);(try have Ko:=hd _ Xc4);(try simp only[go_sem,simprocAttr] at Ko))
 |(refine Xp ?_ ?_;·first|assumption|omega)
 |(with_reducible first|refine CallX.c ?_ _|refine OK.c hr hw ?_ (λ y hr=>?_) _|refine IX hr hw ?_ (λ y hr=>?_) _)
 |(with_reducible refine Xe (I:=Qig N _) hr 1000 N (λ ex hq hk=>⟨_,_,ex,hq,hk,?_⟩) ?_ _;rotate_left;clear hr;(try clear E);rintro n1 st ⟨v3,v4,ex,hr,hk,⟨_,E⟩⟩<;>(obtain _|n1:=n1<;>rw[Qao] at hr))
 |refine ⟨_,WA _,_,_,_,hr,hk,?_⟩
 |(with_reducible refine Xe (I:=Qh1 N _ _) hr 1000 N (λ ex hq hk=>⟨_,_,ex,hq,hk,?_⟩) ?_ _;rotate_left;clear hr;(try clear E);rintro n1 st ⟨v10,v11,ex,hr,hk,⟨_,_,_,E⟩⟩<;>(obtain _|n1:=n1<;>rw[QcQ] at hr))
 |(with_reducible refine Xe (I:=Qih N _) hr 1000 N (λ ex hq hk=>⟨_,_,ex,hq,hk,?_⟩) ?_ _;rotate_left;clear hr;(try clear E);rintro n1 st ⟨v3,v4,ex,hr,hk,⟨_,_,E⟩⟩<;>(obtain _|n1:=n1<;>rw[QaQ] at hr))
 |(with_reducible refine Xe (I:=QjG N _ _) hr 1000 N (λ ex hq hk=>⟨_,_,_,ex,hq,hk,?_⟩) ?_ _;rotate_left;clear hr;(try clear E);rintro n1 st ⟨v3,v4,v5,ex,hr,hk,⟨_,_,_,E⟩⟩<;>(obtain _|n1:=n1<;>rw[Qbi] at hr))
 |refine ⟨_,WA _,_,_,_,_,hr,hk,?_⟩
 |(with_reducible refine Xe (I:=QiS N _) hr 1000 N (λ ex hq hk=>⟨_,ex,hq,hk,?_⟩) ?_ _;rotate_left;clear hr;(try clear E);rintro n1 st ⟨v5,ex,hr,hk,⟨_,E⟩⟩<;>(obtain _|n1:=n1<;>rw[QcR] at hr))
 |refine ⟨_,WA _,_,_,hr,hk,?_⟩
 |(with_reducible refine Xe (I:=QiT N _ _) hr 1000 N (λ ex hq hk=>⟨_,ex,hq,hk,?_⟩) ?_ _;rotate_left;clear hr;(try clear E);rintro n2 st ⟨v12,ex,hr,hk,⟨_,_,E⟩⟩<;>(obtain _|n2:=n2<;>rw[QcS] at hr))
 |(with_reducible refine Xe (I:=QiU N _ _) hr 1000 N (λ ex hq hk=>⟨_,ex,hq,hk,?_⟩) ?_ _;rotate_left;clear hr;(try clear E);rintro n3 st ⟨v15,ex,hr,hk,⟨_,_,E⟩⟩<;>(obtain _|n3:=n3<;>rw[QcT] at hr))
 |(with_reducible refine Xe (I:=Qii N _) hr 1000 N (λ ex hq hk=>⟨_,_,ex,hq,hk,?_⟩) ?_ _;rotate_left;clear hr;(try clear E);rintro n1 st ⟨v3,v4,ex,hr,hk,⟨_,_,E⟩⟩<;>(obtain _|n1:=n1<;>rw[Qc6] at hr))
 |(with_reducible refine Xe (I:=Qhz N _ _) hr 1000 N (λ ex hq hk=>⟨_,_,ex,hq,hk,?_⟩) ?_ _;rotate_left;clear hr;(try clear E);rintro n1 st ⟨v2,v3,ex,hr,hk,(⟨_,_,E⟩|⟨_,E,z0⟩)⟩<;>(try subst z0)<;>(obtain _|n1:=n1<;>rw[Qbz] at hr))
 |(with_reducible refine Xe (I:=QiV N _) hr 1000 N (λ ex hq hk=>⟨_,ex,hq,hk,?_⟩) ?_ _;rotate_left;clear hr;(try clear E);rintro n1 st ⟨v4,ex,hr,hk,⟨_,E⟩⟩<;>(obtain _|n1:=n1<;>rw[QcY] at hr))
 |(with_reducible refine Xe (I:=QjH N _ _ _ _) hr 1000 N (λ ex hq hk=>⟨_,ex,hq,hk,?_⟩) ?_ _;rotate_left;clear hr;(try clear E);rintro n1 st ⟨v3,ex,hr,hk,⟨_,E⟩⟩<;>(obtain _|n1:=n1<;>rw[QfT] at hr))
 |refine db 100 1 hf 5 [(0,54,[[320],[]]),(0,49,[[],[320]]),(2,49,[[],[320]]),(7,48,[[320],[]]),(0,15,[[],[320]]),(16,15,[[],[320]]),(63,0,[]),(127,0,[[320],[]]),(255,0,[])] rfl rfl (by kernel_rfl) ?_ _
 |refine db 101 11 hf 45 [(0,124,[]),(1,124,[]),(0,123,[]),(0,23,[]),(0,15,[]),(24,7,[]),(56,7,[]),(127,0,[]),(255,0,[]),(511,0,[[1280],[]])] rfl rfl (by kernel_rfl) ?_ _
 |refine db 103 7 hf 60 [(0,0,[]),(1,0,[]),(3,0,[]),(7,0,[]),(15,0,[]),(31,0,[]),(63,0,[]),(127,0,[]),(255,0,[]),(511,0,[]),(1023,0,[]),(2047,56,[]),(4095,56,[]),(8191,56,[]),(2047,7,[]),(18431,7,[]),(51199,7,[]),(131071,0,[]),(262143,0,[]),(524287,0,[]),(1048575,3072,[]),(1048575,512,[]),(3145727,512,[]),(8388607,0,[]),(16777215,0,[]),(33554431,0,[])] rfl rfl (by kernel_rfl) ?_ _
 |refine db 103 21 hf 131 [(0,6,[]),(0,1,[]),(2,1,[]),(7,0,[]),(15,0,[]),(31,448,[]),(31,32,[]),(95,32,[]),(223,32,[]),(511,0,[]),(1023,0,[]),(2047,0,[]),(4095,8192,[]),(4095,4096,[]),(16383,0,[]),(32767,0,[]),(65535,0,[]),(131071,1835008,[[],[9664]]),(131071,131072,[]),(393215,131072,[]),(917503,131072,[[9664],[]]),(2097151,0,[]),(4194303,0,[]),(8388607,0,[])] rfl rfl (by kernel_rfl) ?_ _
 |refine db 192 1 hf 5 [(0,54,[[320],[]]),(0,49,[[],[320]]),(2,49,[[],[320]]),(7,48,[[320],[]]),(0,15,[[],[320]]),(16,15,[[],[320]]),(63,0,[]),(127,0,[[320],[]]),(255,0,[])] rfl rfl (by kernel_rfl) ?_ _
 |refine db 49 9 hf 34 [(0,26,[]),(0,25,[]),(3,24,[]),(0,7,[]),(8,7,[]),(31,0,[])] rfl rfl (by kernel_rfl) ?_ _
 |(refine Xn hr ?_;rintro rfl;with_reducible refine XF ?_)
 |exact Yj hr
 |((first|refine Xw (c:=true) hr rfl ?_|refine Xw (c:=false) hr rfl ?_|refine Xw hr (by assumption) ?_);intro hr)
 |fail)
@[reducible,instance] def QlZ:=g17.1
@[reducible,instance] def Qlt:=g17.2.1
@[reducible,instance] def Ql0:=g17.2.2.1
@[reducible,instance] def QnN:=g17.2.2.2.1
@[reducible,instance] def QmE:=g17.2.2.2.2.1
@[reducible,instance] def Ql1:=g17.2.2.2.2.2.1
@[reducible,instance] def QkX:=g17.2.2.2.2.2.2.1
@[reducible,instance] def QmF:=g17.2.2.2.2.2.2.2.1
@[reducible,instance] def QnO:=g17.2.2.2.2.2.2.2.2
end Go.Sx
