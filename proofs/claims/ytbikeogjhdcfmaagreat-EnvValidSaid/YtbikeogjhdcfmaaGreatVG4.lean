import Derived.Test.YtbikeogjhdcfmaaGreatVF
import Derived.Test.YtbikeogjhdcfmaaGreatVG0
import Derived.Test.YtbikeogjhdcfmaaGreatVG1
import Derived.Test.YtbikeogjhdcfmaaGreatVG2
set_option linter.all false
namespace Go.Sx
open Go.Proofs
set_option maxRecDepth 10000
set_option maxHeartbeats 100000000
abbrev QjA:=λ N (a0:Wn) (a1:Wn) (Q:(Ex Bool Unit)→Prop) n (st:St)=>∃ (v2:Int) (ex:_),Qdy N a0 a1 n v2=some ex/\Q ex/\((∃ w128 w192,st.n=60/\st.t 2=.ept 128 w128 6 0 0/\st.t 3=.ept 192 w192 6 0 0/\st.t 5=.v (.int .i64 v2)/\st.s 128=some (w128,.arr true 27 6 [e27 a0] 0)/\st.s 192=some (w192,.arr true 27 6 [e27 a1] 0)))
abbrev QjB:=λ N (a0:WG) (Q:(List Int)→Prop) n (st:St)=>∃ (v1:Int) (v2:List Int) (ex:_),Qbc N a0 n v1 v2=some ex/\Q ex/\((∃ w1920 w64,st.n=32/\st.s 1920=some (w1920,.arr false 71 1 (v2.map e71) 0)/\st.t 1=.ept 64 w64 1 0 0/\st.t 3=.osl 1920 w1920 1 0 v2.length/\st.t 4=.v (.int .i64 v1)/\st.s 64=some (w64,.arr true 35 1 [e35 a0] 0))\/(∃ w64,(st.n=32/\st.t 1=.ept 64 w64 1 0 0/\st.t 3=.nsl/\st.t 4=.v (.int .i64 v1)/\st.s 64=some (w64,.arr true 35 1 [e35 a0] 0))/\v2=[]))
abbrev QiR:=λ N (a1:Int) (y1:List Og) (Q:(Ex Int Unit)→Prop) n (st:St)=>∃ (v2:Int) (ex:_),QaW N a1 y1 n v2=some ex/\Q ex/\((st.n=31/\st.t 1=.v (.int .i64 a1)/\st.t 5=.isl 360 2 (y1.map Xcl)/\st.t 6=.v (.int .i64 v2)))
abbrev Qhv:=λ N (a0:Ig) (y3:Int × UU) (Q:(List Wv)→Prop) n (st:St)=>∃ (v22:Int) (v23:List Wv) (ex:_),QbE N a0 y3 n v22 v23=some ex/\Q ex/\((∃ w704 w960 w128 w256 w320,st.n=156/\st.s 704=some (w704,.arr false 71 1 (a0.Heap.Words.map e71) 0)/\st.s 960=some (w960,.arr false 108 4 (v23.map XF) 0)/\st.t 2=.ept 128 w128 8 0 0/\st.t 4=.ept 256 w256 8 0 0/\st.t 5=.ept 320 w320 6 0 0/\st.t 8=.v (.int .i64 v22)/\st.s 128=some (w128,.arr true 101 8 [Xm6 a0] 0)/\st.s 256=some (w256,.arr true 101 8 [[.v (.int .i64 0),.v (.int .i64 0),.nsl,.nsl,.v (.int .i64 0),.v (.int .i64 0),.nsl,.nsl]] 0)/\st.s 320=some (w320,.arr true 27 6 [[.v (.int .i64 a0.Heap.Conf.PageWords),.v (.int .i64 a0.Heap.Conf.Pages),.osl 704 w704 1 0 a0.Heap.Words.length,.osl 960 w960 4 0 v23.length,.v (.int .i64 a0.Heap.Space),.v (.int .i64 a0.Heap.Bump)]] 0)/\st.s 1000000=some (0,.arr true 66 2 [e66 y3.2] 0)))
abbrev Qga:=λ N (a0:List (List Int)) (Q:Int→Prop) n (st:St)=>∃ (v1:Int) (v2:Int) (ex:_),QaG N a0 n v1 v2=some ex/\Q ex/\((st.n=36/\st.t 0=.isl 24 1 (a0.map e24)/\st.t 3=.v (.int .i64 v1)/\st.t 9=.isl 24 1 (a0.map e24)/\st.t 10=.v (.int .i64 ((a0.length:Nat):Int))/\st.t 11=.v (.int .i64 v2)))
abbrev Qgb:=λ N (a0:List (List Int)) (Q:(List Int)→Prop) n (st:St)=>∃ (v6:Int) (v7:List Int) (ex:_),QaH N a0 n v6 v7=some ex/\Q ex/\((∃ w1536,st.n=36/\st.s 1536=some (w1536,.arr false 71 1 (v7.map e71) 0)/\st.t 6=.osl 1536 w1536 1 0 v7.length/\st.t 25=.isl 24 1 (a0.map e24)/\st.t 26=.v (.int .i64 ((a0.length:Nat):Int))/\st.t 27=.v (.int .i64 v6)))
abbrev QfC:=λ N (a0:List Int) (Q:(Ex Int Unit)→Prop) n (st:St)=>∃ (v1:Int) (ex:_),Qax N a0 n v1=some ex/\Q ex/\((st.n=19/\st.t 0=.isl 3 1 (a0.map e3)/\st.t 1=.clo (.func 54) [] []/\st.t 7=.v (.int .i64 ((a0.length:Nat):Int))/\st.t 8=.v (.int .i64 v1)))
abbrev QeJ:=λ N (a0:List Int) (Q:(Ex Int Unit)→Prop) n (st:St)=>∃ (v1:Int) (ex:_),Qap N a0 n v1=some ex/\Q ex/\((st.n=19/\st.t 0=.isl 71 1 (a0.map e71)/\st.t 1=.clo (.func 271) [] []/\st.t 7=.v (.int .i64 ((a0.length:Nat):Int))/\st.t 8=.v (.int .i64 v1)))
abbrev Qex:=λ N (a0:List UG) (c0:Int) (Q:(Ex Int Unit)→Prop) n (st:St)=>∃ (v1:Int) (ex:_),Qal N a0 c0 n v1=some ex/\Q ex/\((st.n=19/\st.t 0=.isl 77 2 (a0.map e77)/\st.t 1=.clo (.func 144) [] [.ept 1000000 0 1 0 0]/\st.t 7=.v (.int .i64 ((a0.length:Nat):Int))/\st.t 8=.v (.int .i64 v1)/\st.s 1000000=some (0,.arr true 71 1 [[.v (.int .u64 c0)]] 0)))
theorem g9:(∀ N (a0:Wn) (a1:Wn),OK (Qgg N a0 a1) 16 [.agg (e27 a0),.agg (e27 a1)] [] (λ r=>.v (.bool r)) λ r=>[])/\(∀ N (a0:WG),OK (Qa8 N a0) 33 [.agg (e35 a0)] [] (λ r=>.fsl 71 1 (r.map e71)) λ r=>[])/\(∀ N (a0:List Wv) (a1:Int),OK (Qbw N a0 a1) 307 [.isl 108 4 (a0.map XF),.v (.int .i64 a1)] [] (λ r=>.v (.int .i64 r)) λ r=>[])/\(∀ N (a0:Ig) (a1:UU),OK (Qcy N a0 a1) 49 [.agg (Xm6 a0),.ept 1000000 0 2 0 0] [.arr true 66 2 [[.isl 3 1 (a1.L.map e3),.v (.int .i64 a1.at_)]] 0] (λ r=>.agg (Xm6 r.1)) λ r=>[.arr true 66 2 [[.isl 3 1 (r.2.L.map e3),.v (.int .i64 r.2.at_)]] 0])/\(∀ N (a0:List (List Int)),OK (Qbo N a0) 65 [.isl 24 1 (a0.map e24)] [] (λ r=>.isl 71 1 (r.map e71)) λ r=>[])/\(∀ N (a0:List Int),OK (Qbt N a0) 87 [.isl 3 1 (a0.map e3),.clo (.func 54) [] []] [] (λ r=>.v (.int .i64 r)) λ r=>[])/\(∀ N (a0:List Int),OK (QaE N a0) 94 [.isl 71 1 (a0.map e71),.clo (.func 271) [] []] [] (λ r=>.v (.int .i64 r)) λ r=>[])/\(∀ N (a0:List UG) (c0:Int),OK (QaR N a0 c0) 143 [.isl 77 2 (a0.map e77),.clo (.func 144) [] [.ept 1000000 0 1 0 0]] [.arr true 71 1 [[.v (.int .u64 c0)]] 0] (λ r=>.v (.int .i64 r)) λ r=>[.arr true 71 1 [[.v (.int .u64 c0)]] 0]):=by
 refine ⟨λ N _ _=>rn Tryz.f16 [.tmp 4] [] 60 (by kernel_rfl) ?_,λ N _=>rn Tryz.f33 [.tmp 2] [1920] 32 (by kernel_rfl) ?_,λ N _ _=>rn Tryz.f307 [.tmp 4] [] 31 (by kernel_rfl) ?_,λ N _ _=>rn Tryz.f49 [.cell 4 101] [] 156 (by kernel_rfl) ?_,λ N _=>rn Tryz.f65 [.tmp 2] [] 36 (by kernel_rfl) ?_,λ N _=>rn Tryz.f87 [.tmp 4] [] 19 (by kernel_rfl) ?_,λ N _=>rn Tryz.f94 [.tmp 4] [] 19 (by kernel_rfl) ?_,λ N _ _=>rn Tryz.f143 [.tmp 4] [] 19 (by kernel_rfl) ?_⟩<;>(rintro _ hw r hr C _ rfl hwf hf;simp only[Tryz.f16,Tryz.f33,Tryz.f307,Tryz.f49,Tryz.f65,Tryz.f87,Tryz.f94,Tryz.f143,Option.get!];(first|rw[Qgg] at hr|rw[Qa8] at hr|rw[Qbw] at hr|rw[Qcy] at hr|rw[Qbo] at hr|rw[Qbt] at hr|rw[QaE] at hr|rw[QaR] at hr);repeat' first
 |(refine El.el hr ?_;intro hr)
 |(with_reducible intro h;refine XB hr h ?_;intro hr)
 |with_reducible intro _
 |(refine Xn hr ?_;rintro rfl;have hr:=hk;clear hk)
 |simp only[go_sem,simprocAttr,E,hl3,Xop,XU,KM,Z8,XK,V4,Wy,WN,Uz]
 |(with_reducible first|apply Xk|apply Xj|apply Xp|apply Xr|apply Xs)
 |((first|with_reducible refine Yk hr (by assumption) ?_ ?_|(with_reducible refine Yf hr ?_ ?_;rotate_left;intro p;rotate_right));(·simp only[go_sem,simprocAttr,Wy,WN,Uz]);intro hp hn hd hr;(try have hl3:=hd _ e3);(try simp only[go_sem,simprocAttr] at hl3);(try have Xop:=hd _ e24);(try simp only[go_sem,simprocAttr] at Xop);(try have XU:=hd _ e71);(try simp only[go_sem,simprocAttr] at XU);(try have KM:=hd _ e77);(try simp only[go_sem,simprocAttr] at KM);(try have Z8:=hd _ e92);(try simp only[go_sem,simprocAttr] at Z8);(try have XK:=hd _ XF);(try simp only[go_sem,simprocAttr] at XK);(try have V4:=hd _ Xcl);(try simp only[go_sem,simprocAttr] at V4))
 |(refine Xq ?_ ?_;·first|assumption|omega)
 |(with_reducible first|refine CallX.c ?_ _|refine OK.c hr hw ?_ (λ y hr=>?_) _|refine Oe hr hw ?_ (λ y hr=>?_) _)
 |(with_reducible refine Xf (I:=QjA N _ _) hr 1000 N (λ ex hq hk=>⟨_,ex,hq,hk,?_⟩) ?_ _;rotate_left;clear hr;(try clear E);rintro n1 st ⟨v2,ex,hr,hk,⟨_,_,E⟩⟩<;>(obtain _|n1:=n1<;>rw[Qdy] at hr))
 |refine ⟨_,WD _,_,_,hr,hk,?_⟩
 |(with_reducible refine Xf (I:=QjB N _) hr 1000 N (λ ex hq hk=>⟨_,_,ex,hq,hk,?_⟩) ?_ _;rotate_left;clear hr;(try clear E);rintro n1 st ⟨v1,v2,ex,hr,hk,(⟨_,_,E⟩|⟨_,E,z0⟩)⟩<;>(try subst z0)<;>(obtain _|n1:=n1<;>rw[Qbc] at hr))
 |refine ⟨_,WD _,_,_,_,hr,hk,?_⟩
 |(with_reducible refine Xf (I:=QiR N _ _) hr 1000 N (λ ex hq hk=>⟨_,ex,hq,hk,?_⟩) ?_ _;rotate_left;clear hr;(try clear E);rintro n1 st ⟨v2,ex,hr,hk,E⟩<;>(obtain _|n1:=n1<;>rw[QaW] at hr))
 |(with_reducible refine Xf (I:=Qhv N _ _) hr 1000 N (λ ex hq hk=>⟨_,_,ex,hq,hk,?_⟩) ?_ _;rotate_left;clear hr;(try clear E);rintro n1 st ⟨v22,v23,ex,hr,hk,⟨_,_,_,_,_,E⟩⟩<;>(obtain _|n1:=n1<;>rw[QbE] at hr))
 |(with_reducible refine Xf (I:=Qga N _) hr 1000 N (λ ex hq hk=>⟨_,_,ex,hq,hk,?_⟩) ?_ _;rotate_left;clear hr;(try clear E);rintro n1 st ⟨v1,v2,ex,hr,hk,E⟩<;>(obtain _|n1:=n1<;>rw[QaG] at hr))
 |(with_reducible refine Xf (I:=Qgb N _) hr 1000 N (λ ex hq hk=>⟨_,_,ex,hq,hk,?_⟩) ?_ _;rotate_left;clear hr;(try clear E);rintro n2 st ⟨v6,v7,ex,hr,hk,⟨_,E⟩⟩<;>(obtain _|n2:=n2<;>rw[QaH] at hr))
 |(with_reducible refine Xf (I:=QfC N _) hr 1000 N (λ ex hq hk=>⟨_,ex,hq,hk,?_⟩) ?_ _;rotate_left;clear hr;(try clear E);rintro n1 st ⟨v1,ex,hr,hk,E⟩<;>(obtain _|n1:=n1<;>rw[Qax] at hr))
 |(with_reducible refine Xf (I:=QeJ N _) hr 1000 N (λ ex hq hk=>⟨_,ex,hq,hk,?_⟩) ?_ _;rotate_left;clear hr;(try clear E);rintro n1 st ⟨v1,ex,hr,hk,E⟩<;>(obtain _|n1:=n1<;>rw[Qap] at hr))
 |(with_reducible refine Xf (I:=Qex N _ _) hr 1000 N (λ ex hq hk=>⟨_,ex,hq,hk,?_⟩) ?_ _;rotate_left;clear hr;(try clear E);rintro n1 st ⟨v1,ex,hr,hk,E⟩<;>(obtain _|n1:=n1<;>rw[Qal] at hr))
 |refine db 16 6 hf 49 [(0,996,[]),(1,996,[]),(0,995,[]),(7,992,[]),(15,992,[]),(0,159,[]),(32,159,[]),(0,127,[]),(224,31,[]),(480,31,[]),(1023,0,[])] rfl rfl (by kernel_rfl) ?_ _
 |refine db 49 2 hf 11 [(0,118,[[704],[960]]),(0,113,[[],[704,960]]),(2,113,[[],[704,960]]),(7,112,[[704],[960]]),(0,367,[[960],[704]]),(0,31,[[],[704,960]]),(32,31,[[],[704,960]]),(127,256,[[960],[]]),(111,144,[[],[960]]),(511,0,[[320],[]]),(1023,0,[]),(2047,0,[[320],[]])] rfl rfl (by kernel_rfl) ?_ _
 |refine db 49 3 hf 21 [(0,494,[]),(0,481,[]),(2,481,[]),(6,481,[]),(15,480,[[1000000],[]]),(0,479,[[],[1000000]]),(0,63,[[],[1000000]]),(64,63,[[],[1000000]]),(192,63,[[],[1000000]]),(511,0,[[1000000],[]]),(1023,0,[]),(2047,0,[])] rfl rfl (by kernel_rfl) ?_ _
 |refine db 49 7 hf 36 [(0,252,[[],[2496,1000000]]),(1,252,[[],[2496,1000000]]),(0,251,[[],[2496,1000000]]),(0,55,[[2496],[1000000]]),(0,15,[[],[2496]]),(16,15,[[1000000],[2496]]),(56,7,[]),(120,7,[]),(255,0,[]),(511,0,[[704],[]])] rfl rfl (by kernel_rfl) ?_ _
 |refine db 49 9 hf 47 [(0,484,[[],[1000000]]),(1,484,[[],[1000000]]),(0,483,[[],[1000000]]),(7,480,[[],[1000000]]),(15,480,[[],[1000000]]),(0,31,[]),(32,31,[[1000000],[]]),(96,31,[]),(224,31,[]),(511,0,[]),(1023,0,[]),(2047,0,[[704],[]])] rfl rfl (by kernel_rfl) ?_ _
 |refine db 49 11 hf 60 [(0,28,[[],[1000000]]),(1,28,[[],[1000000]]),(0,27,[[],[1000000]]),(0,7,[]),(8,7,[[1000000],[]]),(31,0,[]),(63,0,[]),(127,0,[[960],[]])] rfl rfl (by kernel_rfl) ?_ _
 |refine db 49 13 hf 69 [(0,28,[[],[1000000]]),(1,28,[[],[1000000]]),(0,27,[[],[1000000]]),(0,7,[]),(8,7,[[1000000],[]]),(31,0,[]),(63,0,[]),(127,0,[[960],[]])] rfl rfl (by kernel_rfl) ?_ _
 |refine db 49 15 hf 78 [(0,8188,[[],[1000000]]),(1,8188,[[],[1000000]]),(0,8187,[[],[1000000]]),(0,1575,[[],[1000000]]),(8,1575,[[],[1000000]]),(0,1567,[[],[1000000]]),(56,1543,[[],[1000000]]),(120,1543,[[],[1000000]]),(248,1543,[[],[1000000]]),(0,511,[]),(512,511,[[1000000],[]]),(2040,7,[]),(4088,7,[]),(8191,0,[]),(16383,0,[]),(32767,0,[[960],[]])] rfl rfl (by kernel_rfl) ?_ _
 |refine db 49 17 hf 95 [(0,60,[[],[1000000]]),(1,60,[[],[1000000]]),(0,59,[[],[1000000]]),(0,7,[]),(8,7,[[1000000],[]]),(24,7,[]),(63,0,[]),(127,0,[]),(255,0,[[960],[]])] rfl rfl (by kernel_rfl) ?_ _
 |(refine Xn hr ?_;rintro rfl;with_reducible refine XM ?_)
 |exact Yw hr
 |((first|refine XB (c:=true) hr rfl ?_|refine XB (c:=false) hr rfl ?_|refine XB hr (by assumption) ?_);intro hr)
 |fail)
@[reducible,instance] def Qno:=g9.1
@[reducible,instance] def Qnp:=g9.2.1
@[reducible,instance] def Qmp:=g9.2.2.1
@[reducible,instance] def QkO:=g9.2.2.2.1
@[reducible,instance] def QjR:=g9.2.2.2.2.1
@[reducible,instance] def Qim:=g9.2.2.2.2.2.1
@[reducible,instance] def QhL:=g9.2.2.2.2.2.2.1
@[reducible,instance] def Qhw:=g9.2.2.2.2.2.2.2
end Go.Sx
