import Derived.Test.YtbikeogjhdcfmaaGreatVF
import Derived.Test.YtbikeogjhdcfmaaGreatVG0
import Derived.Test.YtbikeogjhdcfmaaGreatVG1
import Derived.Test.YtbikeogjhdcfmaaGreatVG2
import Derived.Test.YtbikeogjhdcfmaaGreatVG3
import Derived.Test.YtbikeogjhdcfmaaGreatVG4
import Derived.Test.YtbikeogjhdcfmaaGreatVG5
import Derived.Test.YtbikeogjhdcfmaaGreatVG6
import Derived.Test.YtbikeogjhdcfmaaGreatVG7
import Derived.Test.YtbikeogjhdcfmaaGreatVG8
set_option linter.all false
namespace Go.Sx
open Go.Proofs
set_option maxRecDepth 10000
set_option maxHeartbeats 100000000
abbrev Qig:=λ N (a0:Wn) (Q:(Ex Bool Unit)→Prop) n (st:St)=>∃ (v3:Int) (v4:Int) (ex:_),Qaq N a0 n v3 v4=some ex/\Q ex/\((∃ w64,st.n=157/\st.t 1=.ept 64 w64 6 0 0/\st.t 3=.v (.int .i64 v3)/\st.t 4=.v (.int .i64 v4)/\st.s 64=some (w64,.arr true 27 6 [e27 a0] 0)))
abbrev Qih:=λ N (a0:W8) (Q:(List Int)→Prop) n (st:St)=>∃ (v3:Int) (v4:List Int) (ex:_),QaP N a0 n v3 v4=some ex/\Q ex/\((∃ w320 w64,st.n=35/\st.s 320=some (w320,.arr false 71 1 (v4.map e71) 0)/\st.t 1=.ept 64 w64 13 0 0/\st.t 3=.osl 320 w320 1 0 v4.length/\st.t 4=.v (.int .i64 v3)/\st.s 64=some (w64,.arr true 38 13 [e38 a0] 0)))
abbrev Qh1:=λ N (a0:WY) (a1:Int) (Q:(List Wv)→Prop) n (st:St)=>∃ (v10:Int) (v11:List Wv) (ex:_),Qdd N a0 a1 n v10 v11=some ex/\Q ex/\((∃ w5760 w128 w256,st.n=202/\st.s 5760=some (w5760,.arr false 108 4 (v11.map XF) 0)/\st.t 1=.v (.int .u64 a1)/\st.t 2=.ept 128 w128 16 0 0/\st.t 4=.ept 256 w256 16 0 0/\st.t 14=.v (.int .i64 v10)/\st.s 128=some (w128,.arr true 257 16 [[.v (.int .i64 a0.Heap.Conf.PageWords),.v (.int .i64 a0.Heap.Conf.Pages),.isl 71 1 (a0.Heap.Words.map e71),.osl 5760 w5760 4 0 v11.length,.v (.int .i64 a0.Heap.Space),.v (.int .i64 a0.Heap.Bump),.isl 71 1 (a0.Old.map e71),.isl 3 1 (a0.Taken.map e3),.isl 71 1 (a0.Queue.map e71),.v (.int .i64 a0.Scanned),.v (.int .i64 a0.Report.Copied),.v (.int .i64 a0.Report.Kept),.v (.int .i64 a0.Report.Filled),.v (.int .i64 a0.Report.Freed),.v (.int .i64 a0.Report.Cleared),.v (.int .i64 a0.Report.Steps)]] 0)/\st.s 256=some (w256,.arr true 257 16 [[.v (.int .i64 0),.v (.int .i64 0),.nsl,.nsl,.v (.int .i64 0),.v (.int .i64 0),.nsl,.nsl,.nsl,.v (.int .i64 0),.v (.int .i64 0),.v (.int .i64 0),.v (.int .i64 0),.v (.int .i64 0),.v (.int .i64 0),.v (.int .i64 0)]] 0)))
abbrev QjG:=λ N (a0:Ww) (a1:List Int) (Q:(Ex (Ww × Int) (List UX))→Prop) n (st:St)=>∃ (v3:Int) (v4:Int) (v5:List UX) (ex:_),QaY N a0 a1 n v3 v4 v5=some ex/\Q ex/\((∃ w1280 w128 w256,st.n=57/\st.s 1280=some (w1280,.arr false 88 3 (v5.map e88) 0)/\st.t 1=.isl 71 1 (a1.map e71)/\st.t 2=.ept 128 w128 3 0 0/\st.t 4=.ept 256 w256 3 0 0/\st.t 6=.v (.int .i64 v3)/\st.t 7=.v (.int .i64 v4)/\st.s 128=some (w128,.arr true 32 3 [[.osl 1280 w1280 3 0 v5.length,.isl 90 3 (a0.Scopes.map e90),.isl 3 1 (a0.Issued.map e3)]] 0)/\st.s 256=some (w256,.arr true 32 3 [[.nsl,.nsl,.nsl]] 0)))
abbrev QiS:=λ N (a0:WM) (Q:(Ex Bool Unit)→Prop) n (st:St)=>∃ (v5:Int) (ex:_),Qde N a0 n v5=some ex/\Q ex/\((∃ w64,st.n=154/\st.t 1=.ept 64 w64 10 0 0/\st.t 3=.v (.int .i64 v5)/\st.s 64=some (w64,.arr true 59 10 [e59 a0] 0)))
abbrev QiT:=λ N (a0:WM) (y11:List Int) (Q:(Ex Bool Unit)→Prop) n (st:St)=>∃ (v12:Int) (ex:_),Qdf N a0 y11 n v12=some ex/\Q ex/\((∃ w4928 w64,st.n=154/\st.s 4928=some (w4928,.arr false 71 1 (y11.map e71) 0)/\st.t 1=.ept 64 w64 10 0 0/\st.t 5=.osl 4928 w4928 1 0 y11.length/\st.t 6=.v (.int .i64 v12)/\st.s 64=some (w64,.arr true 59 10 [e59 a0] 0)))
abbrev QiU:=λ N (a0:WM) (y11:List Int) (Q:(Ex Bool Unit)→Prop) n (st:St)=>∃ (v15:Int) (ex:_),Qdg N a0 y11 n v15=some ex/\Q ex/\((∃ w4928 w64,st.n=154/\st.s 4928=some (w4928,.arr false 71 1 (y11.map e71) 0)/\st.t 1=.ept 64 w64 10 0 0/\st.t 5=.osl 4928 w4928 1 0 y11.length/\st.t 7=.v (.int .i64 v15)/\st.s 64=some (w64,.arr true 59 10 [e59 a0] 0)))
abbrev Qii:=λ N (a0:WM) (Q:(List Int)→Prop) n (st:St)=>∃ (v3:Int) (v4:List Int) (ex:_),Qdw N a0 n v3 v4=some ex/\Q ex/\((∃ w320 w64,st.n=35/\st.s 320=some (w320,.arr false 71 1 (v4.map e71) 0)/\st.t 1=.ept 64 w64 10 0 0/\st.t 3=.osl 320 w320 1 0 v4.length/\st.t 4=.v (.int .i64 v3)/\st.s 64=some (w64,.arr true 59 10 [e59 a0] 0)))
abbrev QiV:=λ N (a0:Ww) (Q:(Ex Bool Unit)→Prop) n (st:St)=>∃ (v4:Int) (ex:_),Qdh N a0 n v4=some ex/\Q ex/\((∃ w192,st.n=41/\st.t 3=.ept 192 w192 3 0 0/\st.t 27=.isl 90 3 (a0.Scopes.map e90)/\st.t 28=.v (.int .i64 ((a0.Scopes.length:Nat):Int))/\st.t 29=.v (.int .i64 v4)/\st.s 192=some (w192,.arr true 110 3 [e32 a0] 0)))
abbrev QhA:=λ N (a0:Wz) (y1:Int) (Q:(List Int)→Prop) n (st:St)=>∃ (v2:Int) (v3:List Int) (ex:_),QbP N a0 y1 n v2 v3=some ex/\Q ex/\((∃ w1024 w64,st.n=19/\st.s 1024=some (w1024,.arr false 3 1 (v3.map e3) 0)/\st.t 1=.ept 64 w64 3 0 0/\st.t 3=.osl 1024 w1024 1 0 v3.length/\st.t 6=.v (.int .i64 y1)/\st.t 7=.v (.int .i64 v2)/\st.s 64=some (w64,.arr true 82 3 [e82 a0] 0))\/(∃ w64,(st.n=19/\st.t 1=.ept 64 w64 3 0 0/\st.t 3=.nsl/\st.t 6=.v (.int .i64 y1)/\st.t 7=.v (.int .i64 v2)/\st.s 64=some (w64,.arr true 82 3 [e82 a0] 0))/\v3=[]))
abbrev QjH:=λ N (a1:List Wv) (a2:Int) (a3:Int) (y1:Int) (Q:(List Wv)→Prop) n (st:St)=>∃ (v3:List Wv) (ex:_),Qee N a1 a2 a3 y1 n v3=some ex/\Q ex/\((∃ w1856,st.n=45/\st.s 1856=some (w1856,.arr false 108 4 (v3.map XF) 0)/\st.t 1=.isl 108 4 (a1.map XF)/\st.t 2=.v (.int .i64 a2)/\st.t 3=.v (.int .i64 a3)/\st.t 13=.v (.int .i64 y1)/\st.t 14=.osl 1856 w1856 4 0 v3.length))
theorem g17:(∀ N (a0:Wn),OK (Qab N a0) 148 [.agg (e27 a0)] [] (λ r=>.v (.bool r)) λ r=>[])/\(∀ N (a0:W8),OK (Qci N a0) 12 [.agg (e38 a0)] [] (λ r=>.isl 71 1 (r.map e71)) λ r=>[])/\(∀ N (a0:WY) (a1:Int),OK (Qc2 N a0 a1) 254 [.agg (Kv a0),.v (.int .u64 a1)] [] (λ r=>.tup [.agg (Kv r.1),.v (.int .u64 r.2.1),.v (.int .i64 r.2.2)]) λ r=>[])/\(∀ N (a0:Ww) (a1:List Int),OK (QdK N a0 a1) 119 [.agg (e32 a0),.isl 71 1 (a1.map e71)] [] (λ r=>.tup [.agg (e32 r.1),.v (.int .i64 r.2)]) λ r=>[])/\(∀ N (a0:WM),OK (QdR N a0) 121 [.agg (e59 a0)] [] (λ r=>.v (.bool r)) λ r=>[])/\(∀ N (a0:WM),OK (Qfv N a0) 189 [.agg (e59 a0)] [] (λ r=>.fsl 71 1 (r.map e71)) λ r=>[])/\(∀ N (a0:Ww),OK (Qfi N a0) 24 [.agg (e32 a0)] [] (λ r=>.v (.bool r)) λ r=>[])/\(∀ N (a0:Wz),OK (Qeq N a0) 223 [.agg (e82 a0)] [] (λ r=>.isl 3 1 (r.map e3)) λ r=>[])/\(∀ N (a0:WQ) (a1:List Wv) (a2:Int) (a3:Int) (a4:Int),OK (Qgt N a0 a1 a2 a3 a4) 165 [.agg (e23 a0),.isl 108 4 (a1.map XF),.v (.int .i64 a2),.v (.int .i64 a3),.v (.int .i64 a4)] [] (λ r=>.tup [.isl 108 4 (r.1.map XF),.v (.int .i64 r.2)]) λ r=>[]):=by
 refine ⟨λ N _=>rn Tryz.f148 [.tmp 2] [] 157 (by kernel_rfl) ?_,λ N _=>rn Tryz.f12 [.tmp 2] [] 35 (by kernel_rfl) ?_,λ N _ _=>rn Tryz.f254 [.cell 4 257,.tmp 5,.tmp 6] [] 202 (by kernel_rfl) ?_,λ N _ _=>rn Tryz.f119 [.cell 4 32,.tmp 5] [] 57 (by kernel_rfl) ?_,λ N _=>rn Tryz.f121 [.tmp 2] [] 154 (by kernel_rfl) ?_,λ N _=>rn Tryz.f189 [.tmp 2] [320] 35 (by kernel_rfl) ?_,λ N _=>rn Tryz.f24 [.tmp 2] [] 41 (by kernel_rfl) ?_,λ N _=>rn Tryz.f223 [.tmp 2] [] 19 (by kernel_rfl) ?_,λ N _ _ _ _ _=>rn Tryz.f165 [.tmp 10,.tmp 11] [] 45 (by kernel_rfl) ?_⟩<;>(rintro _ hw r hr C _ rfl hwf hf;simp only[Tryz.f148,Tryz.f12,Tryz.f254,Tryz.f119,Tryz.f121,Tryz.f189,Tryz.f24,Tryz.f223,Tryz.f165,Option.get!];(first|rw[Qab] at hr|rw[Qci] at hr|rw[Qc2] at hr|rw[QdK] at hr|rw[QdR] at hr|rw[Qfv] at hr|rw[Qfi] at hr|rw[Qeq] at hr|rw[Qgt] at hr);repeat' first
 |(refine El.el hr ?_;intro hr)
 |(with_reducible intro h;refine XB hr h ?_;intro hr)
 |with_reducible intro _
 |(refine Xn hr ?_;rintro rfl;have hr:=hk;clear hk)
 |simp only[go_sem,simprocAttr,E,XU,KM,ZB,Jn,XK,ZY,KG]
 |(with_reducible first|apply Xk|apply Xj|apply Xp|apply Xr|apply Xs)
 |((first|with_reducible refine Yk hr (by assumption) ?_ ?_|(with_reducible refine Yf hr ?_ ?_;rotate_left;intro p;rotate_right));(·simp only[go_sem,simprocAttr]);intro hp hn hd hr;(try have XU:=hd _ e71);(try simp only[go_sem,simprocAttr] at XU);(try have KM:=hd _ e77);(try simp only[go_sem,simprocAttr] at KM);(try have ZB:=hd _ e88);(try simp only[go_sem,simprocAttr] at ZB);(try have Jn:=hd _ e90);(try simp only[go_sem,simprocAttr] at Jn);(try have XK:=hd _ XF);(try simp only[go_sem,simprocAttr] at XK);(try have ZY:=hd _ Xat);(try simp only[go_sem,simprocAttr] at ZY);(try have KG:=hd _ Xd3);(try simp only[go_sem,simprocAttr] at KG))
 |(refine Xq ?_ ?_;·first|assumption|omega)
 |(with_reducible first|refine CallX.c ?_ _|refine OK.c hr hw ?_ (λ y hr=>?_) _|refine Oe hr hw ?_ (λ y hr=>?_) _)
 |(with_reducible refine Xf (I:=Qig N _) hr 1000 N (λ ex hq hk=>⟨_,_,ex,hq,hk,?_⟩) ?_ _;rotate_left;clear hr;(try clear E);rintro n1 st ⟨v3,v4,ex,hr,hk,⟨_,E⟩⟩<;>(obtain _|n1:=n1<;>rw[Qaq] at hr))
 |refine ⟨_,WD _,_,_,_,hr,hk,?_⟩
 |(with_reducible refine Xf (I:=Qih N _) hr 1000 N (λ ex hq hk=>⟨_,_,ex,hq,hk,?_⟩) ?_ _;rotate_left;clear hr;(try clear E);rintro n1 st ⟨v3,v4,ex,hr,hk,⟨_,_,E⟩⟩<;>(obtain _|n1:=n1<;>rw[QaP] at hr))
 |(with_reducible refine Xf (I:=Qh1 N _ _) hr 1000 N (λ ex hq hk=>⟨_,_,ex,hq,hk,?_⟩) ?_ _;rotate_left;clear hr;(try clear E);rintro n1 st ⟨v10,v11,ex,hr,hk,⟨_,_,_,E⟩⟩<;>(obtain _|n1:=n1<;>rw[Qdd] at hr))
 |(with_reducible refine Xf (I:=QjG N _ _) hr 1000 N (λ ex hq hk=>⟨_,_,_,ex,hq,hk,?_⟩) ?_ _;rotate_left;clear hr;(try clear E);rintro n1 st ⟨v3,v4,v5,ex,hr,hk,⟨_,_,_,E⟩⟩<;>(obtain _|n1:=n1<;>rw[QaY] at hr))
 |refine ⟨_,WD _,_,_,_,_,hr,hk,?_⟩
 |(with_reducible refine Xf (I:=QiS N _) hr 1000 N (λ ex hq hk=>⟨_,ex,hq,hk,?_⟩) ?_ _;rotate_left;clear hr;(try clear E);rintro n1 st ⟨v5,ex,hr,hk,⟨_,E⟩⟩<;>(obtain _|n1:=n1<;>rw[Qde] at hr))
 |refine ⟨_,WD _,_,_,hr,hk,?_⟩
 |(with_reducible refine Xf (I:=QiT N _ _) hr 1000 N (λ ex hq hk=>⟨_,ex,hq,hk,?_⟩) ?_ _;rotate_left;clear hr;(try clear E);rintro n2 st ⟨v12,ex,hr,hk,⟨_,_,E⟩⟩<;>(obtain _|n2:=n2<;>rw[Qdf] at hr))
 |(with_reducible refine Xf (I:=QiU N _ _) hr 1000 N (λ ex hq hk=>⟨_,ex,hq,hk,?_⟩) ?_ _;rotate_left;clear hr;(try clear E);rintro n3 st ⟨v15,ex,hr,hk,⟨_,_,E⟩⟩<;>(obtain _|n3:=n3<;>rw[Qdg] at hr))
 |(with_reducible refine Xf (I:=Qii N _) hr 1000 N (λ ex hq hk=>⟨_,_,ex,hq,hk,?_⟩) ?_ _;rotate_left;clear hr;(try clear E);rintro n1 st ⟨v3,v4,ex,hr,hk,⟨_,_,E⟩⟩<;>(obtain _|n1:=n1<;>rw[Qdw] at hr))
 |(with_reducible refine Xf (I:=QiV N _) hr 1000 N (λ ex hq hk=>⟨_,ex,hq,hk,?_⟩) ?_ _;rotate_left;clear hr;(try clear E);rintro n1 st ⟨v4,ex,hr,hk,⟨_,E⟩⟩<;>(obtain _|n1:=n1<;>rw[Qdh] at hr))
 |(with_reducible refine Xf (I:=QhA N _ _) hr 1000 N (λ ex hq hk=>⟨_,_,ex,hq,hk,?_⟩) ?_ _;rotate_left;clear hr;(try clear E);rintro n1 st ⟨v2,v3,ex,hr,hk,(⟨_,_,E⟩|⟨_,E,z0⟩)⟩<;>(try subst z0)<;>(obtain _|n1:=n1<;>rw[QbP] at hr))
 |(with_reducible refine Xf (I:=QjH N _ _ _ _) hr 1000 N (λ ex hq hk=>⟨_,ex,hq,hk,?_⟩) ?_ _;rotate_left;clear hr;(try clear E);rintro n1 st ⟨v3,ex,hr,hk,⟨_,E⟩⟩<;>(obtain _|n1:=n1<;>rw[Qee] at hr))
 |refine db 12 1 hf 5 [(0,54,[[320],[]]),(0,49,[[],[320]]),(2,49,[[],[320]]),(7,48,[[320],[]]),(0,15,[[],[320]]),(16,15,[[],[320]]),(63,0,[]),(127,0,[[320],[]]),(255,0,[])] rfl rfl (by kernel_rfl) ?_ _
 |refine db 119 11 hf 45 [(0,124,[]),(1,124,[]),(0,123,[]),(0,23,[]),(0,15,[]),(24,7,[]),(56,7,[]),(127,0,[]),(255,0,[]),(511,0,[[1280],[]])] rfl rfl (by kernel_rfl) ?_ _
 |refine db 121 7 hf 60 [(0,0,[]),(1,0,[]),(3,0,[]),(7,0,[]),(15,0,[]),(31,0,[]),(63,0,[]),(127,0,[]),(255,0,[]),(511,0,[]),(1023,0,[]),(2047,56,[]),(4095,56,[]),(8191,56,[]),(2047,7,[]),(18431,7,[]),(51199,7,[]),(131071,0,[]),(262143,0,[]),(524287,0,[]),(1048575,3072,[]),(1048575,512,[]),(3145727,512,[]),(8388607,0,[]),(16777215,0,[]),(33554431,0,[])] rfl rfl (by kernel_rfl) ?_ _
 |refine db 121 21 hf 131 [(0,6,[]),(0,1,[]),(2,1,[]),(7,0,[]),(15,0,[]),(31,448,[]),(31,32,[]),(95,32,[]),(223,32,[]),(511,0,[]),(1023,0,[]),(2047,0,[]),(4095,8192,[]),(4095,4096,[]),(16383,0,[]),(32767,0,[]),(65535,0,[]),(131071,1835008,[[],[9664]]),(131071,131072,[]),(393215,131072,[]),(917503,131072,[[9664],[]]),(2097151,0,[]),(4194303,0,[]),(8388607,0,[])] rfl rfl (by kernel_rfl) ?_ _
 |refine db 189 1 hf 5 [(0,54,[[320],[]]),(0,49,[[],[320]]),(2,49,[[],[320]]),(7,48,[[320],[]]),(0,15,[[],[320]]),(16,15,[[],[320]]),(63,0,[]),(127,0,[[320],[]]),(255,0,[])] rfl rfl (by kernel_rfl) ?_ _
 |refine db 24 9 hf 34 [(0,26,[]),(0,25,[]),(3,24,[]),(0,7,[]),(8,7,[]),(31,0,[])] rfl rfl (by kernel_rfl) ?_ _
 |(refine Xn hr ?_;rintro rfl;with_reducible refine XM ?_)
 |exact Yw hr
 |((first|refine XB (c:=true) hr rfl ?_|refine XB (c:=false) hr rfl ?_|refine XB hr (by assumption) ?_);intro hr)
 |fail)
@[reducible,instance] def QlY:=g17.1
@[reducible,instance] def QlZ:=g17.2.1
@[reducible,instance] def Qlv:=g17.2.2.1
@[reducible,instance] def QnI:=g17.2.2.2.1
@[reducible,instance] def QmA:=g17.2.2.2.2.1
@[reducible,instance] def Ql0:=g17.2.2.2.2.2.1
@[reducible,instance] def QmB:=g17.2.2.2.2.2.2.1
@[reducible,instance] def QkY:=g17.2.2.2.2.2.2.2.1
@[reducible,instance] def QnJ:=g17.2.2.2.2.2.2.2.2
end Go.Sx
