import Derived.Test.YtgdhlnfcogcicaaGreatDoorTF
import Derived.Test.YtgdhlnfcogcicaaGreatDoorTG0
import Derived.Test.YtgdhlnfcogcicaaGreatDoorTG1
import Derived.Test.YtgdhlnfcogcicaaGreatDoorTG2
import Derived.Test.YtgdhlnfcogcicaaGreatDoorTG3
import Derived.Test.YtgdhlnfcogcicaaGreatDoorTG4
set_option linter.all false
namespace Go.Sx
open Go.Proofs
set_option maxRecDepth 10000
set_option maxHeartbeats 100000000
theorem g6:(∀ N (a0:Ut),OK (QfS N a0) 20 [.agg (e23 a0)] [] (λ r=>.tup [.agg (e36 r.1),.v (.int .i64 r.2)]) λ r=>[])/\(∀ N (a0:Ut),OK (Qgt N a0) 129 [.agg (e23 a0)] [] (λ r=>.tup [.agg (e42 r.1),.v (.int .i64 r.2)]) λ r=>[])/\(∀ N (a0:Ut),OK (QcO N a0) 263 [.agg (e23 a0)] [] (λ r=>.v (.int .i64 r)) λ r=>[])/\(∀ N (a0:UI),OK (QaP N a0) 105 [.agg (XfT a0)] [] (λ r=>.tup [.v (.int .u64 r.1),.v (.int .i64 r.2)]) λ r=>[])/\(∀ N (a0:Wm) (a1:Int),OK (QeY N a0 a1) 112 [.agg (e36 a0),.v (.int .u64 a1)] [] (λ r=>.v (.int .i64 r)) λ r=>[])/\(∀ N (a0:Ut) (a1:Int),OK (QeL N a0 a1) 250 [.agg (e23 a0),.v (.int .u64 a1)] [] (λ r=>.tup [.v (.int .i64 r.1),.v (.int .i64 r.2.1),.v (.int .i64 r.2.2)]) λ r=>[])/\(∀ N (a0:Ut) (a1:Int) (a2:Int),OK (QcB N a0 a1 a2) 291 [.agg (e23 a0),.v (.int .i64 a1),.v (.int .i64 a2)] [] (λ r=>.tup [.v (.int .u64 r.1),.v (.int .i64 r.2)]) λ r=>[])/\(∀ N (a0:W9) (a1:Int),OK (Qd6 N a0 a1) 251 [.agg (KH a0),.v (.int .i64 a1)] [] (λ r=>.v (.bool r)) λ r=>[])/\(∀ N (a0:Ut),OK (QfI N a0) 285 [.agg (e23 a0)] [] (λ r=>.v (.int .i64 r)) λ r=>[])/\(∀ N (a0:List Int) (a1:Int),OK (Qa3 N a0 a1) 115 [.isl 37 1 (a0.map e37),.v (.int .u64 a1)] [] (λ r=>.v (.bool r)) λ r=>[])/\(∀ N (a0:UI),OK (Qet N a0) 227 [.agg (XfT a0)] [] (λ r=>.v (.bool r)) λ r=>[])/\(∀ N (a0:Ut),OK (QfN N a0) 278 [.agg (e23 a0)] [] (λ r=>.v (.int .i64 r)) λ r=>[])/\(∀ N (a0:Ws),OK (QeA N a0) 83 [.agg (e29 a0)] [] (λ r=>.agg (e29 r)) λ r=>[])/\(∀ N (a0:Int) (a1:Int),OK (Qfe N a0 a1) 262 [.v (.int .u64 a0),.v (.int .i64 a1)] [] (λ r=>.v (.bool r)) λ r=>[]):=by
 refine ⟨λ N _=>rn Tryz.f20 [.cell 2 36,.tmp 3] [] 10 (by kernel_rfl) ?_,λ N _=>rn Tryz.f129 [.cell 2 42,.tmp 3] [] 19 (by kernel_rfl) ?_,λ N _=>rn Tryz.f263 [.tmp 2] [] 9 (by kernel_rfl) ?_,λ N _=>rn Tryz.f105 [.tmp 2,.tmp 3] [] 20 (by kernel_rfl) ?_,λ N _ _=>rn Tryz.f112 [.tmp 4] [] 8 (by kernel_rfl) ?_,λ N _ _=>rn Tryz.f250 [.tmp 4,.tmp 5,.tmp 6] [] 35 (by kernel_rfl) ?_,λ N _ _ _=>rn Tryz.f291 [.tmp 6,.tmp 7] [] 37 (by kernel_rfl) ?_,λ N _ _=>rn Tryz.f251 [.tmp 4] [] 39 (by kernel_rfl) ?_,λ N _=>rn Tryz.f285 [.tmp 2] [] 9 (by kernel_rfl) ?_,λ N _ _=>rn Tryz.f115 [.tmp 4] [] 9 (by kernel_rfl) ?_,λ N _=>rn Tryz.f227 [.tmp 2] [] 37 (by kernel_rfl) ?_,λ N _=>rn Tryz.f278 [.tmp 2] [] 9 (by kernel_rfl) ?_,λ N _=>rn Tryz.f83 [.cell 2 29] [] 13 (by kernel_rfl) ?_,λ N _ _=>rn Tryz.f262 [.tmp 4] [] 10 (by kernel_rfl) ?_⟩<;>(rintro _ hw r hr C _ rfl hwf hf;have hgw:=hw;unfold GW at hgw;simp only[Tryz.f20,Tryz.f129,Tryz.f263,Tryz.f105,Tryz.f112,Tryz.f250,Tryz.f291,Tryz.f251,Tryz.f285,Tryz.f115,Tryz.f227,Tryz.f278,Tryz.f83,Tryz.f262,Option.get!];(first|rw[QfS] at hr|rw[Qgt] at hr|rw[QcO] at hr|rw[QaP] at hr|rw[QeY] at hr|rw[QeL] at hr|rw[QcB] at hr|rw[Qd6] at hr|rw[QfI] at hr|rw[Qa3] at hr|rw[Qet] at hr|rw[QfN] at hr|rw[QeA] at hr|rw[Qfe] at hr);repeat' first
 |(refine El.el hr ?_;intro hr)
 |(with_reducible intro h;refine Xz hr h ?_;intro hr)
 |with_reducible intro _
 |simp only[go_sem,simprocAttr,Yn,hgw]
 |(with_reducible first|apply Xg|apply Xf|apply Xs|apply Xx|apply Xy)
 |((first|with_reducible refine Ye hr (by assumption) ?_ ?_|(with_reducible refine Yd hr ?_ ?_;rotate_left;intro p;rotate_right));(·simp only[go_sem,simprocAttr,hgw]);intro hp hn hd hr;(try have Yn:=hd _ Ym);(try simp only[go_sem,simprocAttr] at Yn))
 |(refine Xl ?_ ?_;·first|assumption|omega)
 |(with_reducible refine XhZ hr ?_ ?_;(·simp only[go_sem]);intro p hp hn hd hr;(try have Yn:=hd _ Ym);(try simp only[go_sem,simprocAttr] at Yn))
 |(with_reducible first|refine CallX.c ?_ _|refine OK.c hr hw ?_ (λ y hr=>?_) _|refine Oy hr hw ?_ (λ y hr=>?_) _)
 |refine db 129 3 hf 8 [(0,1022,[[],[896,1088]]),(0,921,[[],[1088]]),(2,921,[[],[1088]]),(0,903,[[],[1088]]),(8,903,[[],[1088]]),(30,897,[[],[1088]]),(62,897,[[896],[1088]]),(0,127,[[],[896]]),(128,127,[[],[896]]),(384,127,[[1088],[896]]),(1023,0,[]),(2047,0,[[128],[]]),(4095,0,[])] rfl rfl (by kernel_rfl) ?_ _
 |refine db 250 6 hf 4 [(0,2063597568,[]),(0,2021654528,[]),(2,2021654528,[]),(7,2013265920,[]),(0,931135489,[]),(0,260046849,[]),(32,260046849,[]),(112,125829121,[]),(15,2013265920,[]),(511,0,[]),(1023,0,[])] rfl rfl (by kernel_rfl) ?_ _
 |refine db 227 3 hf 21 [(0,56,[]),(1,56,[]),(3,56,[]),(0,7,[]),(8,7,[]),(24,7,[]),(63,0,[]),(127,0,[]),(255,14336,[]),(511,14336,[]),(1023,14336,[]),(255,1792,[]),(2303,1792,[]),(6399,1792,[]),(16383,0,[]),(32767,0,[]),(65535,0,[])] rfl rfl (by kernel_rfl) ?_ _
 |refine db 83 1 hf 3 [(0,216,[]),(1,216,[]),(3,216,[[320],[]]),(0,199,[[],[320]]),(8,199,[[],[320]]),(31,192,[[512],[]]),(0,63,[[],[320,512]]),(64,63,[[],[320,512]]),(255,0,[[704],[]]),(511,0,[]),(1023,0,[[128],[]])] rfl rfl (by kernel_rfl) ?_ _
 |(refine Xq hr ?_;rintro rfl;with_reducible refine XG ?_)
 |exact Yo hr
 |fail)
@[reducible,instance] def Qox:=g6.1
@[reducible,instance] def Qoy:=g6.2.1
@[reducible,instance] def QkT:=g6.2.2.1
@[reducible,instance] def Qmq:=g6.2.2.2.1
@[reducible,instance] def Qmr:=g6.2.2.2.2.1
@[reducible,instance] def QoU:=g6.2.2.2.2.2.1
@[reducible,instance] def QlO:=g6.2.2.2.2.2.2.1
@[reducible,instance] def Qlk:=g6.2.2.2.2.2.2.2.1
@[reducible,instance] def Qm0:=g6.2.2.2.2.2.2.2.2.1
@[reducible,instance] def Qjc:=g6.2.2.2.2.2.2.2.2.2.1
@[reducible,instance] def Qms:=g6.2.2.2.2.2.2.2.2.2.2.1
@[reducible,instance] def QkZ:=g6.2.2.2.2.2.2.2.2.2.2.2.1
@[reducible,instance] def QlP:=g6.2.2.2.2.2.2.2.2.2.2.2.2.1
@[reducible,instance] def Qoz:=g6.2.2.2.2.2.2.2.2.2.2.2.2.2
abbrev QjB:=λ N (a0:WC) (Q:(List Int)→Prop) n (st:St)=>∃ (v1:Int) (v2:List Int) (ex:_),Qa7 N a0 n v1 v2=some ex/\Q ex/\((∃ w1920 w64,st.n=32/\st.s 1920=some (w1920,.arr false 37 1 (v2.map e37) 0)/\st.t 1=.ept 64 w64 1 0 0/\st.t 3=.osl 1920 w1920 1 0 v2.length/\st.t 4=.v (.int .i64 v1)/\st.s 64=some (w64,.arr true 32 1 [e32 a0] 0))\/(∃ w64,(st.n=32/\st.t 1=.ept 64 w64 1 0 0/\st.t 3=.nsl/\st.t 4=.v (.int .i64 v1)/\st.s 64=some (w64,.arr true 32 1 [e32 a0] 0))/\v2=[]))
abbrev Qj5:=λ N (a0:WC) (a1:Int) (Q:(Ex (WC × Int × Int × Int) Unit)→Prop) n (st:St)=>∃ (v2:Int) (ex:_),Qbj N a0 a1 n v2=some ex/\Q ex/\((∃ w896 w256,st.n=69/\st.s 896=some (w896,.arr false 132 3 (a0.Entries.map XC) 0)/\st.t 1=.v (.int .u64 a1)/\st.t 4=.ept 256 w256 1 0 0/\st.t 8=.osl 896 w896 3 0 a0.Entries.length/\st.t 9=.v (.int .i64 v2)/\st.s 256=some (w256,.arr true 32 1 [[.nsl]] 0)))
abbrev QiQ:=λ N (a1:Int) (y1:List OP) (Q:(Ex Int Unit)→Prop) n (st:St)=>∃ (v2:Int) (ex:_),QcP N a1 y1 n v2=some ex/\Q ex/\((st.n=31/\st.t 1=.v (.int .i64 a1)/\st.t 5=.isl 359 2 (y1.map XhS)/\st.t 6=.v (.int .i64 v2)))
abbrev QhA:=λ N (y1:List UR) (Q:Int→Prop) n (st:St)=>∃ (v2:Int) (v3:Int) (ex:_),Qbg N y1 n v2 v3=some ex/\Q ex/\((st.n=22/\st.t 5=.v (.int .i64 v2)/\st.t 10=.isl 210 3 (y1.map X4)/\st.t 11=.v (.int .i64 ((y1.length:Nat):Int))/\st.t 12=.v (.int .i64 v3)))
abbrev Qev:=λ N (a0:List WP) (Q:(Ex Int Unit)→Prop) n (st:St)=>∃ (v1:Int) (ex:_),Qal N a0 n v1=some ex/\Q ex/\((st.n=19/\st.t 0=.isl 132 3 (a0.map XC)/\st.t 1=.clo (.func 198) [] []/\st.t 7=.v (.int .i64 ((a0.length:Nat):Int))/\st.t 8=.v (.int .i64 v1)))
abbrev QdJ:=λ N (a0:List Uz) (c0:Int) (Q:(Ex Int Unit)→Prop) n (st:St)=>∃ (v1:Int) (ex:_),Qaj N a0 c0 n v1=some ex/\Q ex/\((st.n=19/\st.t 0=.isl 116 3 (a0.map Yv)/\st.t 1=.clo (.func 225) [] [.ept 1000000 0 1 0 0]/\st.t 7=.v (.int .i64 ((a0.length:Nat):Int))/\st.t 8=.v (.int .i64 v1)/\st.s 1000000=some (0,.arr true 37 1 [[.v (.int .u64 c0)]] 0)))
abbrev Qel:=λ N (a0:List Uz) (c0:Int) (Q:(Ex Int Unit)→Prop) n (st:St)=>∃ (v1:Int) (ex:_),Qah N a0 c0 n v1=some ex/\Q ex/\((st.n=19/\st.t 0=.isl 116 3 (a0.map Yv)/\st.t 1=.clo (.func 182) [] [.ept 1000000 0 1 0 0]/\st.t 7=.v (.int .i64 ((a0.length:Nat):Int))/\st.t 8=.v (.int .i64 v1)/\st.s 1000000=some (0,.arr true 37 1 [[.v (.int .u64 c0)]] 0)))
abbrev QjC:=λ N (a0:Wm) (a1:Wm) (Q:(Ex Bool Unit)→Prop) n (st:St)=>∃ (v5:Int) (ex:_),QdF N a0 a1 n v5=some ex/\Q ex/\((∃ w128 w192,st.n=116/\st.t 2=.ept 128 w128 10 0 0/\st.t 3=.ept 192 w192 10 0 0/\st.t 5=.v (.int .i64 v5)/\st.s 128=some (w128,.arr true 36 10 [e36 a0] 0)/\st.s 192=some (w192,.arr true 36 10 [e36 a1] 0)))
abbrev QjD:=λ N (a0:Wm) (a1:Wm) (Q:(Ex Bool Unit)→Prop) n (st:St)=>∃ (v12:Int) (ex:_),QdG N a0 a1 n v12=some ex/\Q ex/\((∃ w128 w192,st.n=116/\st.t 2=.ept 128 w128 10 0 0/\st.t 3=.ept 192 w192 10 0 0/\st.t 6=.v (.int .i64 v12)/\st.s 128=some (w128,.arr true 36 10 [e36 a0] 0)/\st.s 192=some (w192,.arr true 36 10 [e36 a1] 0)))
theorem g7:(∀ N (a0:WC),OK (Qa4 N a0) 68 [.agg (e32 a0)] [] (λ r=>.fsl 37 1 (r.map e37)) λ r=>[])/\(∀ N (a0:WC) (a1:Int),OK (QbZ N a0 a1) 106 [.agg (e32 a0),.v (.int .u64 a1)] [] (λ r=>.tup [.agg (e32 r.1),.v (.int .i64 r.2.1),.v (.int .i64 r.2.2.1),.v (.int .i64 r.2.2.2)]) λ r=>[])/\(∀ N (a0:List W4) (a1:Int),OK (QdU N a0 a1) 282 [.isl 306 4 (a0.map Ym),.v (.int .i64 a1)] [] (λ r=>.v (.int .i64 r)) λ r=>[])/\(∀ N (a0:IP) (a1:Int),OK (Qcz N a0 a1) 196 [.agg (XfU a0),.v (.int .i64 a1)] [] (λ r=>.v (.int .i64 r)) λ r=>[])/\(∀ N (a0:List WP),OK (QaF N a0) 237 [.isl 132 3 (a0.map XC),.clo (.func 198) [] []] [] (λ r=>.v (.int .i64 r)) λ r=>[])/\(∀ N (a0:List Uz) (c0:Int),OK (QaA N a0 c0) 181 [.isl 116 3 (a0.map Yv),.clo (.func 225) [] [.ept 1000000 0 1 0 0]] [.arr true 37 1 [[.v (.int .u64 c0)]] 0] (λ r=>.v (.int .i64 r)) λ r=>[.arr true 37 1 [[.v (.int .u64 c0)]] 0])/\(∀ N (a0:List Uz) (c0:Int),OK (Qan N a0 c0) 181 [.isl 116 3 (a0.map Yv),.clo (.func 182) [] [.ept 1000000 0 1 0 0]] [.arr true 37 1 [[.v (.int .u64 c0)]] 0] (λ r=>.v (.int .i64 r)) λ r=>[.arr true 37 1 [[.v (.int .u64 c0)]] 0])/\(∀ N (a0:Wm) (a1:Wm),OK (QgF N a0 a1) 14 [.agg (e36 a0),.agg (e36 a1)] [] (λ r=>.v (.bool r)) λ r=>[]):=by
 refine ⟨λ N _=>rn Tryz.f68 [.tmp 2] [1920] 32 (by kernel_rfl) ?_,λ N _ _=>rn Tryz.f106 [.cell 4 32,.tmp 5,.tmp 6,.tmp 7] [] 69 (by kernel_rfl) ?_,λ N _ _=>rn Tryz.f282 [.tmp 4] [] 31 (by kernel_rfl) ?_,λ N _ _=>rn Tryz.f196 [.tmp 4] [] 22 (by kernel_rfl) ?_,λ N _=>rn Tryz.f237 [.tmp 4] [] 19 (by kernel_rfl) ?_,λ N _ _=>rn Tryz.f181 [.tmp 4] [] 19 (by kernel_rfl) ?_,λ N _ _=>rn Tryz.f181 [.tmp 4] [] 19 (by kernel_rfl) ?_,λ N _ _=>rn Tryz.f14 [.tmp 4] [] 116 (by kernel_rfl) ?_⟩<;>(rintro _ hw r hr C _ rfl hwf hf;simp only[Tryz.f68,Tryz.f106,Tryz.f282,Tryz.f196,Tryz.f237,Tryz.f181,Tryz.f181,Tryz.f14,Option.get!];(first|rw[Qa4] at hr|rw[QbZ] at hr|rw[QdU] at hr|rw[Qcz] at hr|rw[QaF] at hr|rw[QaA] at hr|rw[Qan] at hr|rw[QgF] at hr);repeat' first
 |(refine El.el hr ?_;intro hr)
 |(with_reducible intro h;refine Xz hr h ?_;intro hr)
 |with_reducible intro _
 |(refine Xq hr ?_;rintro rfl;have hr:=hk;clear hk)
 |simp only[go_sem,simprocAttr,E,Jg,YR,ZA,Yw,Yx,Xc2]
 |(with_reducible first|apply Xg|apply Xf|apply Xs|apply Xx|apply Xy)
 |((first|with_reducible refine Ye hr (by assumption) ?_ ?_|(with_reducible refine Yd hr ?_ ?_;rotate_left;intro p;rotate_right));(·simp only[go_sem,simprocAttr]);intro hp hn hd hr;(try have Jg:=hd _ e96);(try simp only[go_sem,simprocAttr] at Jg);(try have YR:=hd _ KG);(try simp only[go_sem,simprocAttr] at YR);(try have ZA:=hd _ Yv);(try simp only[go_sem,simprocAttr] at ZA);(try have Yw:=hd _ XC);(try simp only[go_sem,simprocAttr] at Yw);(try have Yx:=hd _ X4);(try simp only[go_sem,simprocAttr] at Yx);(try have Xc2:=hd _ XhS);(try simp only[go_sem,simprocAttr] at Xc2))
 |(refine Xl ?_ ?_;·first|assumption|omega)
 |(with_reducible first|refine CallX.c ?_ _|refine OK.c hr hw ?_ (λ y hr=>?_) _|refine Oy hr hw ?_ (λ y hr=>?_) _)
 |(with_reducible refine Xj (I:=QjB N _) hr 1000 N (λ ex hq hk=>⟨_,_,ex,hq,hk,?_⟩) ?_ _;rotate_left;clear hr;(try clear E);rintro n1 st ⟨v1,v2,ex,hr,hk,(⟨_,_,E⟩|⟨_,E,z0⟩)⟩<;>(try subst z0)<;>(obtain _|n1:=n1<;>rw[Qa7] at hr))
 |refine ⟨_,WJ _,_,_,_,hr,hk,?_⟩
 |(with_reducible refine Xj (I:=Qj5 N _ _) hr 1000 N (λ ex hq hk=>⟨_,ex,hq,hk,?_⟩) ?_ _;rotate_left;clear hr;(try clear E);rintro n1 st ⟨v2,ex,hr,hk,⟨_,_,E⟩⟩<;>(obtain _|n1:=n1<;>rw[Qbj] at hr))
 |refine ⟨_,WJ _,_,_,hr,hk,?_⟩
 |(with_reducible refine Xj (I:=QiQ N _ _) hr 1000 N (λ ex hq hk=>⟨_,ex,hq,hk,?_⟩) ?_ _;rotate_left;clear hr;(try clear E);rintro n1 st ⟨v2,ex,hr,hk,E⟩<;>(obtain _|n1:=n1<;>rw[QcP] at hr))
 |(with_reducible refine Xj (I:=QhA N _) hr 1000 N (λ ex hq hk=>⟨_,_,ex,hq,hk,?_⟩) ?_ _;rotate_left;clear hr;(try clear E);rintro n1 st ⟨v2,v3,ex,hr,hk,E⟩<;>(obtain _|n1:=n1<;>rw[Qbg] at hr))
 |(with_reducible refine Xj (I:=Qev N _) hr 1000 N (λ ex hq hk=>⟨_,ex,hq,hk,?_⟩) ?_ _;rotate_left;clear hr;(try clear E);rintro n1 st ⟨v1,ex,hr,hk,E⟩<;>(obtain _|n1:=n1<;>rw[Qal] at hr))
 |(with_reducible refine Xj (I:=QdJ N _ _) hr 1000 N (λ ex hq hk=>⟨_,ex,hq,hk,?_⟩) ?_ _;rotate_left;clear hr;(try clear E);rintro n1 st ⟨v1,ex,hr,hk,E⟩<;>(obtain _|n1:=n1<;>rw[Qaj] at hr))
 |(with_reducible refine Xj (I:=Qel N _ _) hr 1000 N (λ ex hq hk=>⟨_,ex,hq,hk,?_⟩) ?_ _;rotate_left;clear hr;(try clear E);rintro n1 st ⟨v1,ex,hr,hk,E⟩<;>(obtain _|n1:=n1<;>rw[Qah] at hr))
 |(with_reducible refine Xj (I:=QjC N _ _) hr 1000 N (λ ex hq hk=>⟨_,ex,hq,hk,?_⟩) ?_ _;rotate_left;clear hr;(try clear E);rintro n1 st ⟨v5,ex,hr,hk,⟨_,_,E⟩⟩<;>(obtain _|n1:=n1<;>rw[QdF] at hr))
 |(with_reducible refine Xj (I:=QjD N _ _) hr 1000 N (λ ex hq hk=>⟨_,ex,hq,hk,?_⟩) ?_ _;rotate_left;clear hr;(try clear E);rintro n2 st ⟨v12,ex,hr,hk,⟨_,_,E⟩⟩<;>(obtain _|n2:=n2<;>rw[QdG] at hr))
 |refine db 106 9 hf 5 [(0,4433230883192832,[]),(1,4433230883192832,[]),(0,4415638697148416,[[],[256]]),(0,404620279021569,[[],[256]]),(0,263882790666241,[[],[256]]),(24,123145302310913,[[],[256]]),(56,123145302310913,[[],[256]]),(120,123145302310913,[[],[256]]),(3,4433230883192832,[[256],[]]),(263,4362862139015168,[]),(1023,0,[]),(2047,0,[])] rfl rfl (by kernel_rfl) ?_ _
 |refine db 14 6 hf 69 [(0,4036,[]),(1,4036,[]),(0,4035,[]),(7,4032,[]),(15,4032,[]),(31,4032,[]),(0,319,[]),(64,319,[]),(0,255,[]),(448,63,[]),(960,63,[]),(1984,63,[]),(4095,0,[]),(8191,0,[]),(16383,66125824,[]),(32767,66125824,[]),(16383,66109440,[]),(131071,66060288,[]),(262143,66060288,[]),(524287,66060288,[]),(16383,5226496,[]),(1064959,5226496,[]),(16383,4177920,[]),(7356415,1032192,[]),(15745023,1032192,[]),(32522239,1032192,[]),(67108863,0,[]),(134217727,0,[]),(268435455,0,[])] rfl rfl (by kernel_rfl) ?_ _
 |refine db 14 11 hf 105 [(0,996,[]),(1,996,[]),(0,995,[]),(7,992,[]),(15,992,[]),(0,159,[]),(32,159,[]),(0,127,[]),(224,31,[]),(480,31,[]),(1023,0,[])] rfl rfl (by kernel_rfl) ?_ _
 |(refine Xq hr ?_;rintro rfl;with_reducible refine XG ?_)
 |exact Yo hr
 |((first|refine Xz (c:=true) hr rfl ?_|refine Xz (c:=false) hr rfl ?_|refine Xz hr (by assumption) ?_);intro hr)
 |fail)
@[reducible,instance] def QnU:=g7.1
@[reducible,instance] def QoA:=g7.2.1
@[reducible,instance] def Qm1:=g7.2.2.1
@[reducible,instance] def QkM:=g7.2.2.2.1
@[reducible,instance] def Qhy:=g7.2.2.2.2.1
@[reducible,instance] def Qhp:=g7.2.2.2.2.2.1
@[reducible,instance] def Qhr:=g7.2.2.2.2.2.2.1
@[reducible,instance] def QnV:=g7.2.2.2.2.2.2.2
end Go.Sx
