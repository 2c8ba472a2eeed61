import Derived.Test.YtgcneehkconghaaGreatDoorVF
import Derived.Test.YtgcneehkconghaaGreatDoorVG0
import Derived.Test.YtgcneehkconghaaGreatDoorVG1
import Derived.Test.YtgcneehkconghaaGreatDoorVG2
import Derived.Test.YtgcneehkconghaaGreatDoorVG3
import Derived.Test.YtgcneehkconghaaGreatDoorVG4
import Derived.Test.YtgcneehkconghaaGreatDoorVG5
import Derived.Test.YtgcneehkconghaaGreatDoorVG6
import Derived.Test.YtgcneehkconghaaGreatDoorVG7
import Derived.Test.YtgcneehkconghaaGreatDoorVG8
import Derived.Test.YtgcneehkconghaaGreatDoorVG9
set_option linter.all false
namespace Go.Sx
open Go.Proofs
set_option maxRecDepth 10000
set_option maxHeartbeats 100000000
abbrev Qh6:=λ N (a0:Wn) (Q:(Ex Bool Unit)→Prop) n (st:St)=>∃ (v3:Int) (v4:Int) (ex:_),Qaq N a0 n v3 v4=some ex/\Q ex/\((∃ w64,st.n=157/\st.t 1=.ept 64 w64 6 0 0/\st.t 3=.v (.int .i64 v3)/\st.t 4=.v (.int .i64 v4)/\st.s 64=some (w64,.arr true 27 6 [e27 a0] 0)))
abbrev QhR:=λ N (a0:W0) (a1:Int) (Q:(List Wv)→Prop) n (st:St)=>∃ (v10:Int) (v11:List Wv) (ex:_),Qdc N a0 a1 n v10 v11=some ex/\Q ex/\((∃ w5760 w128 w256,st.n=202/\st.s 5760=some (w5760,.arr false 175 4 (v11.map XG) 0)/\st.t 1=.v (.int .u64 a1)/\st.t 2=.ept 128 w128 16 0 0/\st.t 4=.ept 256 w256 16 0 0/\st.t 14=.v (.int .i64 v10)/\st.s 128=some (w128,.arr true 232 16 [[.v (.int .i64 a0.Heap.Conf.PageWords),.v (.int .i64 a0.Heap.Conf.Pages),.isl 39 1 (a0.Heap.Words.map e39),.osl 5760 w5760 4 0 v11.length,.v (.int .i64 a0.Heap.Space),.v (.int .i64 a0.Heap.Bump),.isl 39 1 (a0.Old.map e39),.isl 3 1 (a0.Taken.map e3),.isl 39 1 (a0.Queue.map e39),.v (.int .i64 a0.Scanned),.v (.int .i64 a0.Report.Copied),.v (.int .i64 a0.Report.Kept),.v (.int .i64 a0.Report.Filled),.v (.int .i64 a0.Report.Freed),.v (.int .i64 a0.Report.Cleared),.v (.int .i64 a0.Report.Steps)]] 0)/\st.s 256=some (w256,.arr true 232 16 [[.v (.int .i64 0),.v (.int .i64 0),.nsl,.nsl,.v (.int .i64 0),.v (.int .i64 0),.nsl,.nsl,.nsl,.v (.int .i64 0),.v (.int .i64 0),.v (.int .i64 0),.v (.int .i64 0),.v (.int .i64 0),.v (.int .i64 0),.v (.int .i64 0)]] 0)))
abbrev Qh7:=λ N (a0:W6) (Q:(List Int)→Prop) n (st:St)=>∃ (v3:Int) (v4:List Int) (ex:_),QaT N a0 n v3 v4=some ex/\Q ex/\((∃ w320 w64,st.n=35/\st.s 320=some (w320,.arr false 39 1 (v4.map e39) 0)/\st.t 1=.ept 64 w64 13 0 0/\st.t 3=.osl 320 w320 1 0 v4.length/\st.t 4=.v (.int .i64 v3)/\st.s 64=some (w64,.arr true 38 13 [e38 a0] 0)))
abbrev Qjq:=λ N (a0:Ww) (a1:List Int) (Q:(Ex (Ww × Int) (List UX))→Prop) n (st:St)=>∃ (v3:Int) (v4:Int) (v5:List UX) (ex:_),Qa0 N a0 a1 n v3 v4 v5=some ex/\Q ex/\((∃ w1280 w128 w256,st.n=57/\st.s 1280=some (w1280,.arr false 115 3 (v5.map Zm) 0)/\st.t 1=.isl 39 1 (a1.map e39)/\st.t 2=.ept 128 w128 3 0 0/\st.t 4=.ept 256 w256 3 0 0/\st.t 6=.v (.int .i64 v3)/\st.t 7=.v (.int .i64 v4)/\st.s 128=some (w128,.arr true 32 3 [[.osl 1280 w1280 3 0 v5.length,.isl 98 3 (a0.Scopes.map e98),.isl 3 1 (a0.Issued.map e3)]] 0)/\st.s 256=some (w256,.arr true 32 3 [[.nsl,.nsl,.nsl]] 0)))
abbrev QiJ:=λ N (a0:WM) (Q:(Ex Bool Unit)→Prop) n (st:St)=>∃ (v5:Int) (ex:_),Qdd N a0 n v5=some ex/\Q ex/\((∃ w64,st.n=154/\st.t 1=.ept 64 w64 10 0 0/\st.t 3=.v (.int .i64 v5)/\st.s 64=some (w64,.arr true 43 10 [e43 a0] 0)))
abbrev QiK:=λ N (a0:WM) (y11:List Int) (Q:(Ex Bool Unit)→Prop) n (st:St)=>∃ (v12:Int) (ex:_),Qde N a0 y11 n v12=some ex/\Q ex/\((∃ w4928 w64,st.n=154/\st.s 4928=some (w4928,.arr false 39 1 (y11.map e39) 0)/\st.t 1=.ept 64 w64 10 0 0/\st.t 5=.osl 4928 w4928 1 0 y11.length/\st.t 6=.v (.int .i64 v12)/\st.s 64=some (w64,.arr true 43 10 [e43 a0] 0)))
abbrev QiL:=λ N (a0:WM) (y11:List Int) (Q:(Ex Bool Unit)→Prop) n (st:St)=>∃ (v15:Int) (ex:_),Qdf N a0 y11 n v15=some ex/\Q ex/\((∃ w4928 w64,st.n=154/\st.s 4928=some (w4928,.arr false 39 1 (y11.map e39) 0)/\st.t 1=.ept 64 w64 10 0 0/\st.t 5=.osl 4928 w4928 1 0 y11.length/\st.t 7=.v (.int .i64 v15)/\st.s 64=some (w64,.arr true 43 10 [e43 a0] 0)))
abbrev Qh8:=λ N (a0:WM) (Q:(List Int)→Prop) n (st:St)=>∃ (v3:Int) (v4:List Int) (ex:_),Qdv N a0 n v3 v4=some ex/\Q ex/\((∃ w320 w64,st.n=35/\st.s 320=some (w320,.arr false 39 1 (v4.map e39) 0)/\st.t 1=.ept 64 w64 10 0 0/\st.t 3=.osl 320 w320 1 0 v4.length/\st.t 4=.v (.int .i64 v3)/\st.s 64=some (w64,.arr true 43 10 [e43 a0] 0)))
abbrev Qhq:=λ N (a0:Wy) (y1:Int) (Q:(List Int)→Prop) n (st:St)=>∃ (v2:Int) (v3:List Int) (ex:_),QbQ N a0 y1 n v2 v3=some ex/\Q ex/\((∃ w1024 w64,st.n=19/\st.s 1024=some (w1024,.arr false 3 1 (v3.map e3) 0)/\st.t 1=.ept 64 w64 3 0 0/\st.t 3=.osl 1024 w1024 1 0 v3.length/\st.t 6=.v (.int .i64 y1)/\st.t 7=.v (.int .i64 v2)/\st.s 64=some (w64,.arr true 80 3 [e80 a0] 0))\/(∃ w64,(st.n=19/\st.t 1=.ept 64 w64 3 0 0/\st.t 3=.nsl/\st.t 6=.v (.int .i64 y1)/\st.t 7=.v (.int .i64 v2)/\st.s 64=some (w64,.arr true 80 3 [e80 a0] 0))/\v3=[]))
abbrev QiM:=λ N (a0:Ww) (Q:(Ex Bool Unit)→Prop) n (st:St)=>∃ (v4:Int) (ex:_),Qdi N a0 n v4=some ex/\Q ex/\((∃ w192,st.n=41/\st.t 3=.ept 192 w192 3 0 0/\st.t 27=.isl 98 3 (a0.Scopes.map e98)/\st.t 28=.v (.int .i64 ((a0.Scopes.length:Nat):Int))/\st.t 29=.v (.int .i64 v4)/\st.s 192=some (w192,.arr true 180 3 [e32 a0] 0)))
abbrev Qjr:=λ N (a1:List Wv) (a2:Int) (a3:Int) (y1:Int) (Q:(List Wv)→Prop) n (st:St)=>∃ (v3:List Wv) (ex:_),Qee N a1 a2 a3 y1 n v3=some ex/\Q ex/\((∃ w1856,st.n=45/\st.s 1856=some (w1856,.arr false 175 4 (v3.map XG) 0)/\st.t 1=.isl 175 4 (a1.map XG)/\st.t 2=.v (.int .i64 a2)/\st.t 3=.v (.int .i64 a3)/\st.t 13=.v (.int .i64 y1)/\st.t 14=.osl 1856 w1856 4 0 v3.length))
theorem g17:(∀ N (a0:Wn),OK (Qab N a0) 181 [.agg (e27 a0)] [] (λ r=>.v (.bool r)) λ r=>[])/\(∀ N (a0:W0) (a1:Int),OK (Qc1 N a0 a1) 270 [.agg (KC a0),.v (.int .u64 a1)] [] (λ r=>.tup [.agg (KC r.1),.v (.int .u64 r.2.1),.v (.int .i64 r.2.2)]) λ r=>[])/\(∀ N (a0:W6),OK (Qd3 N a0) 100 [.agg (e38 a0)] [] (λ r=>.isl 39 1 (r.map e39)) λ r=>[])/\(∀ N (a0:Ww) (a1:List Int),OK (QdI N a0 a1) 101 [.agg (e32 a0),.isl 39 1 (a1.map e39)] [] (λ r=>.tup [.agg (e32 r.1),.v (.int .i64 r.2)]) λ r=>[])/\(∀ N (a0:WM),OK (QdP N a0) 103 [.agg (e43 a0)] [] (λ r=>.v (.bool r)) λ r=>[])/\(∀ N (a0:WM),OK (Qfo N a0) 192 [.agg (e43 a0)] [] (λ r=>.fsl 39 1 (r.map e39)) λ r=>[])/\(∀ N (a0:Wy),OK (Qeo N a0) 337 [.agg (e80 a0)] [] (λ r=>.isl 3 1 (r.map e3)) λ r=>[])/\(∀ N (a0:Ww),OK (Qeu N a0) 49 [.agg (e32 a0)] [] (λ r=>.v (.bool r)) λ r=>[])/\(∀ N (a0:WT) (a1:List Wv) (a2:Int) (a3:Int) (a4:Int),OK (Qgk N a0 a1 a2 a3 a4) 239 [.agg (e23 a0),.isl 175 4 (a1.map XG),.v (.int .i64 a2),.v (.int .i64 a3),.v (.int .i64 a4)] [] (λ r=>.tup [.isl 175 4 (r.1.map XG),.v (.int .i64 r.2)]) λ r=>[]):=by
 refine ⟨λ N _=>rn Tryz.f181 [.tmp 2] [] 157 (by kernel_rfl) ?_,λ N _ _=>rn Tryz.f270 [.cell 4 232,.tmp 5,.tmp 6] [] 202 (by kernel_rfl) ?_,λ N _=>rn Tryz.f100 [.tmp 2] [] 35 (by kernel_rfl) ?_,λ N _ _=>rn Tryz.f101 [.cell 4 32,.tmp 5] [] 57 (by kernel_rfl) ?_,λ N _=>rn Tryz.f103 [.tmp 2] [] 154 (by kernel_rfl) ?_,λ N _=>rn Tryz.f192 [.tmp 2] [320] 35 (by kernel_rfl) ?_,λ N _=>rn Tryz.f337 [.tmp 2] [] 19 (by kernel_rfl) ?_,λ N _=>rn Tryz.f49 [.tmp 2] [] 41 (by kernel_rfl) ?_,λ N _ _ _ _ _=>rn Tryz.f239 [.tmp 10,.tmp 11] [] 45 (by kernel_rfl) ?_⟩<;>(rintro _ hw r hr C _ rfl hwf hf;simp only[Tryz.f181,Tryz.f270,Tryz.f100,Tryz.f101,Tryz.f103,Tryz.f192,Tryz.f337,Tryz.f49,Tryz.f239,Option.get!];(first|rw[Qab] at hr|rw[Qc1] at hr|rw[Qd3] at hr|rw[QdI] at hr|rw[QdP] at hr|rw[Qfo] at hr|rw[Qeo] at hr|rw[Qeu] at hr|rw[Qgk] at hr);repeat' first
 |(refine El.el hr ?_;intro hr)
 |(with_reducible intro h;refine XA hr h ?_;intro hr)
 |with_reducible intro _
 |(refine Xn hr ?_;rintro rfl;have hr:=hk;clear hk)
 |simp only[go_sem,simprocAttr,E,XR,Js,Yk,Zq,Z5,XK,Kb]
 |(with_reducible first|apply Xk|apply Xj|apply Xo|apply Xt|apply Xu)
 |((first|with_reducible refine Ym hr (by assumption) ?_ ?_|(with_reducible refine Yi hr ?_ ?_;rotate_left;intro p;rotate_right));(·simp only[go_sem,simprocAttr]);intro hp hn hd hr;(try have XR:=hd _ e39);(try simp only[go_sem,simprocAttr] at XR);(try have Js:=hd _ e98);(try simp only[go_sem,simprocAttr] at Js);(try have Yk:=hd _ Zm);(try simp only[go_sem,simprocAttr] at Yk);(try have Zq:=hd _ Zc);(try simp only[go_sem,simprocAttr] at Zq);(try have Z5:=hd _ XaB);(try simp only[go_sem,simprocAttr] at Z5);(try have XK:=hd _ XG);(try simp only[go_sem,simprocAttr] at XK);(try have Kb:=hd _ Xcw);(try simp only[go_sem,simprocAttr] at Kb))
 |(refine Xp ?_ ?_;·first|assumption|omega)
 |(with_reducible first|refine CallX.c ?_ _|refine OK.c hr hw ?_ (λ y hr=>?_) _|refine Og hr hw ?_ (λ y hr=>?_) _)
 |(with_reducible refine Xf (I:=Qh6 N _) hr 1000 N (λ ex hq hk=>⟨_,_,ex,hq,hk,?_⟩) ?_ _;rotate_left;clear hr;(try clear E);rintro n1 st ⟨v3,v4,ex,hr,hk,⟨_,E⟩⟩<;>(obtain _|n1:=n1<;>rw[Qaq] at hr))
 |refine ⟨_,WD _,_,_,_,hr,hk,?_⟩
 |(with_reducible refine Xf (I:=QhR N _ _) hr 1000 N (λ ex hq hk=>⟨_,_,ex,hq,hk,?_⟩) ?_ _;rotate_left;clear hr;(try clear E);rintro n1 st ⟨v10,v11,ex,hr,hk,⟨_,_,_,E⟩⟩<;>(obtain _|n1:=n1<;>rw[Qdc] at hr))
 |(with_reducible refine Xf (I:=Qh7 N _) hr 1000 N (λ ex hq hk=>⟨_,_,ex,hq,hk,?_⟩) ?_ _;rotate_left;clear hr;(try clear E);rintro n1 st ⟨v3,v4,ex,hr,hk,⟨_,_,E⟩⟩<;>(obtain _|n1:=n1<;>rw[QaT] at hr))
 |(with_reducible refine Xf (I:=Qjq N _ _) hr 1000 N (λ ex hq hk=>⟨_,_,_,ex,hq,hk,?_⟩) ?_ _;rotate_left;clear hr;(try clear E);rintro n1 st ⟨v3,v4,v5,ex,hr,hk,⟨_,_,_,E⟩⟩<;>(obtain _|n1:=n1<;>rw[Qa0] at hr))
 |refine ⟨_,WD _,_,_,_,_,hr,hk,?_⟩
 |(with_reducible refine Xf (I:=QiJ N _) hr 1000 N (λ ex hq hk=>⟨_,ex,hq,hk,?_⟩) ?_ _;rotate_left;clear hr;(try clear E);rintro n1 st ⟨v5,ex,hr,hk,⟨_,E⟩⟩<;>(obtain _|n1:=n1<;>rw[Qdd] at hr))
 |refine ⟨_,WD _,_,_,hr,hk,?_⟩
 |(with_reducible refine Xf (I:=QiK N _ _) hr 1000 N (λ ex hq hk=>⟨_,ex,hq,hk,?_⟩) ?_ _;rotate_left;clear hr;(try clear E);rintro n2 st ⟨v12,ex,hr,hk,⟨_,_,E⟩⟩<;>(obtain _|n2:=n2<;>rw[Qde] at hr))
 |(with_reducible refine Xf (I:=QiL N _ _) hr 1000 N (λ ex hq hk=>⟨_,ex,hq,hk,?_⟩) ?_ _;rotate_left;clear hr;(try clear E);rintro n3 st ⟨v15,ex,hr,hk,⟨_,_,E⟩⟩<;>(obtain _|n3:=n3<;>rw[Qdf] at hr))
 |(with_reducible refine Xf (I:=Qh8 N _) hr 1000 N (λ ex hq hk=>⟨_,_,ex,hq,hk,?_⟩) ?_ _;rotate_left;clear hr;(try clear E);rintro n1 st ⟨v3,v4,ex,hr,hk,⟨_,_,E⟩⟩<;>(obtain _|n1:=n1<;>rw[Qdv] at hr))
 |(with_reducible refine Xf (I:=Qhq N _ _) hr 1000 N (λ ex hq hk=>⟨_,_,ex,hq,hk,?_⟩) ?_ _;rotate_left;clear hr;(try clear E);rintro n1 st ⟨v2,v3,ex,hr,hk,(⟨_,_,E⟩|⟨_,E,z0⟩)⟩<;>(try subst z0)<;>(obtain _|n1:=n1<;>rw[QbQ] at hr))
 |(with_reducible refine Xf (I:=QiM N _) hr 1000 N (λ ex hq hk=>⟨_,ex,hq,hk,?_⟩) ?_ _;rotate_left;clear hr;(try clear E);rintro n1 st ⟨v4,ex,hr,hk,⟨_,E⟩⟩<;>(obtain _|n1:=n1<;>rw[Qdi] at hr))
 |(with_reducible refine Xf (I:=Qjr N _ _ _ _) hr 1000 N (λ ex hq hk=>⟨_,ex,hq,hk,?_⟩) ?_ _;rotate_left;clear hr;(try clear E);rintro n1 st ⟨v3,ex,hr,hk,⟨_,E⟩⟩<;>(obtain _|n1:=n1<;>rw[Qee] at hr))
 |refine db 100 1 hf 5 [(0,54,[[320],[]]),(0,49,[[],[320]]),(2,49,[[],[320]]),(7,48,[[320],[]]),(0,15,[[],[320]]),(16,15,[[],[320]]),(63,0,[]),(127,0,[[320],[]]),(255,0,[])] rfl rfl (by kernel_rfl) ?_ _
 |refine db 101 11 hf 45 [(0,124,[]),(1,124,[]),(0,123,[]),(0,23,[]),(0,15,[]),(24,7,[]),(56,7,[]),(127,0,[]),(255,0,[]),(511,0,[[1280],[]])] rfl rfl (by kernel_rfl) ?_ _
 |refine db 103 7 hf 60 [(0,0,[]),(1,0,[]),(3,0,[]),(7,0,[]),(15,0,[]),(31,0,[]),(63,0,[]),(127,0,[]),(255,0,[]),(511,0,[]),(1023,0,[]),(2047,56,[]),(4095,56,[]),(8191,56,[]),(2047,7,[]),(18431,7,[]),(51199,7,[]),(131071,0,[]),(262143,0,[]),(524287,0,[]),(1048575,3072,[]),(1048575,512,[]),(3145727,512,[]),(8388607,0,[]),(16777215,0,[]),(33554431,0,[])] rfl rfl (by kernel_rfl) ?_ _
 |refine db 103 21 hf 131 [(0,6,[]),(0,1,[]),(2,1,[]),(7,0,[]),(15,0,[]),(31,448,[]),(31,32,[]),(95,32,[]),(223,32,[]),(511,0,[]),(1023,0,[]),(2047,0,[]),(4095,8192,[]),(4095,4096,[]),(16383,0,[]),(32767,0,[]),(65535,0,[]),(131071,1835008,[[],[9664]]),(131071,131072,[]),(393215,131072,[]),(917503,131072,[[9664],[]]),(2097151,0,[]),(4194303,0,[]),(8388607,0,[])] rfl rfl (by kernel_rfl) ?_ _
 |refine db 192 1 hf 5 [(0,54,[[320],[]]),(0,49,[[],[320]]),(2,49,[[],[320]]),(7,48,[[320],[]]),(0,15,[[],[320]]),(16,15,[[],[320]]),(63,0,[]),(127,0,[[320],[]]),(255,0,[])] rfl rfl (by kernel_rfl) ?_ _
 |refine db 49 9 hf 34 [(0,26,[]),(0,25,[]),(3,24,[]),(0,7,[]),(8,7,[]),(31,0,[])] rfl rfl (by kernel_rfl) ?_ _
 |(refine Xn hr ?_;rintro rfl;with_reducible refine XM ?_)
 |exact Yw hr
 |((first|refine XA (c:=true) hr rfl ?_|refine XA (c:=false) hr rfl ?_|refine XA hr (by assumption) ?_);intro hr)
 |fail)
@[reducible,instance] def QlK:=g17.1
@[reducible,instance] def Qlg:=g17.2.1
@[reducible,instance] def QlL:=g17.2.2.1
@[reducible,instance] def Qnq:=g17.2.2.2.1
@[reducible,instance] def Qmm:=g17.2.2.2.2.1
@[reducible,instance] def QlM:=g17.2.2.2.2.2.1
@[reducible,instance] def QkJ:=g17.2.2.2.2.2.2.1
@[reducible,instance] def Qmn:=g17.2.2.2.2.2.2.2.1
@[reducible,instance] def Qnr:=g17.2.2.2.2.2.2.2.2
end Go.Sx
