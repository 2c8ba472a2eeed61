import Derived.Test.YtgdhlnfcogcicaaGreatDoorTF
import Derived.Test.YtgdhlnfcogcicaaGreatDoorTG1
import Derived.Test.YtgdhlnfcogcicaaGreatDoorTG4
import Derived.Test.YtgdhlnfcogcicaaGreatDoorTG7
import Derived.Test.YtgdhlnfcogcicaaGreatDoorTG8
import Derived.Test.YtgdhlnfcogcicaaGreatDoorTG9
import Derived.Test.YtgdhlnfcogcicaaGreatDoorTG11
import Derived.Test.YtgdhlnfcogcicaaGreatDoorTG12
import Derived.Test.YtgdhlnfcogcicaaGreatDoorTG13
import Derived.Test.YtgdhlnfcogcicaaGreatDoorTG14
import Derived.Test.YtgdhlnfcogcicaaGreatDoorTG16
import Derived.Test.YtgdhlnfcogcicaaGreatDoorTG21
import Derived.Test.YtgdhlnfcogcicaaGreatDoorTG26
set_option linter.all false
namespace Go.Sx
open Go.Proofs
set_option maxRecDepth 10000
set_option maxHeartbeats 100000000
abbrev Qic:=λ N (a2:List Int) (y5:W9 × List Int × Int) (y6:W9 × Int) (Q:(Int × List Int)→Prop) n (st:St)=>∃ (v7:Int) (v8:Int) (v9:List Int) (ex:_),QaZ N a2 y5 y6 n v7 v8 v9=some ex/\Q ex/\((∃ w5824 w384 w576 w704,st.n=122/\st.s 5824=some (w5824,.arr false 37 1 (v9.map e37) 0)/\st.t 2=.isl 37 1 (a2.map e37)/\st.t 6=.ept 384 w384 6 0 0/\st.t 9=.ept 576 w576 6 0 0/\st.t 11=.ept 704 w704 16 0 0/\st.t 13=.isl 37 1 (y5.2.1.map e37)/\st.t 15=.osl 5824 w5824 1 0 v9.length/\st.t 16=.v (.int .i64 v7)/\st.s 384=some (w384,.arr true 42 6 [[.v (.int .i64 0),.v (.int .i64 0),.nsl,.nsl,.v (.int .i64 0),.v (.int .i64 0)]] 0)/\st.s 576=some (w576,.arr true 161 6 [[.v (.int .i64 0),.v (.int .i64 0),.v (.int .i64 0),.v (.int .i64 0),.v (.int .i64 0),.v (.int .i64 0)]] 0)/\st.s 704=some (w704,.arr true 265 16 [[.v (.int .i64 y6.1.Heap.Conf.PageWords),.v (.int .i64 y6.1.Heap.Conf.Pages),.isl 37 1 (y6.1.Heap.Words.map e37),.isl 306 4 (y6.1.Heap.Pages.map Ym),.v (.int .i64 y6.1.Heap.Space),.v (.int .i64 y6.1.Heap.Bump),.isl 37 1 (y6.1.Old.map e37),.isl 3 1 (y6.1.Taken.map e3),.isl 37 1 (y6.1.Queue.map e37),.v (.int .i64 y6.1.Scanned),.v (.int .i64 y6.1.Report.Copied),.v (.int .i64 y6.1.Report.Kept),.v (.int .i64 y6.1.Report.Filled),.v (.int .i64 y6.1.Report.Freed),.v (.int .i64 v8),.v (.int .i64 y6.1.Report.Steps)]] 0))\/(∃ w384 w576 w704,(st.n=122/\st.t 2=.isl 37 1 (a2.map e37)/\st.t 6=.ept 384 w384 6 0 0/\st.t 9=.ept 576 w576 6 0 0/\st.t 11=.ept 704 w704 16 0 0/\st.t 13=.isl 37 1 (y5.2.1.map e37)/\st.t 15=.nsl/\st.t 16=.v (.int .i64 v7)/\st.s 384=some (w384,.arr true 42 6 [[.v (.int .i64 0),.v (.int .i64 0),.nsl,.nsl,.v (.int .i64 0),.v (.int .i64 0)]] 0)/\st.s 576=some (w576,.arr true 161 6 [[.v (.int .i64 0),.v (.int .i64 0),.v (.int .i64 0),.v (.int .i64 0),.v (.int .i64 0),.v (.int .i64 0)]] 0)/\st.s 704=some (w704,.arr true 265 16 [[.v (.int .i64 y6.1.Heap.Conf.PageWords),.v (.int .i64 y6.1.Heap.Conf.Pages),.isl 37 1 (y6.1.Heap.Words.map e37),.isl 306 4 (y6.1.Heap.Pages.map Ym),.v (.int .i64 y6.1.Heap.Space),.v (.int .i64 y6.1.Heap.Bump),.isl 37 1 (y6.1.Old.map e37),.isl 3 1 (y6.1.Taken.map e3),.isl 37 1 (y6.1.Queue.map e37),.v (.int .i64 y6.1.Scanned),.v (.int .i64 y6.1.Report.Copied),.v (.int .i64 y6.1.Report.Kept),.v (.int .i64 y6.1.Report.Filled),.v (.int .i64 y6.1.Report.Freed),.v (.int .i64 v8),.v (.int .i64 y6.1.Report.Steps)]] 0))/\v9=[]))
instance Qmd:∀ N (a0:Wz) (a1:List Int) (a2:List Int),OK (Qdv N a0 a1 a2) 131 [.agg (e42 a0),.isl 37 1 (a1.map e37),.isl 37 1 (a2.map e37)] [] (λ r=>.tup [.agg (e42 r.1),.isl 37 1 (r.2.1.map e37),.isl 37 1 (r.2.2.1.map e37),.agg (Xkd r.2.2.2.1),.v (.int .i64 r.2.2.2.2)]) λ r=>[]:=by
 refine λ N _ _ _=>rn Tryz.f131 [.cell 6 42,.tmp 7,.tmp 8,.cell 9 161,.tmp 10] [] 122 (by kernel_rfl) ?_<;>(rintro _ hw r hr C _ rfl hwf hf;simp only[Tryz.f131,Option.get!];(rw[Qdv] at hr);repeat' first
 |(refine El.el hr ?_;intro hr)
 |(with_reducible intro h;refine Xz hr h ?_;intro hr)
 |with_reducible intro _
 |(refine Xq hr ?_;rintro rfl;have hr:=hk;clear hk)
 |simp only[go_sem,simprocAttr,E,hl3,XQ]
 |(with_reducible first|apply Xg|apply Xf|apply Xs|apply Xx|apply Xy)
 |((first|with_reducible refine Ye hr (by assumption) ?_ ?_|(with_reducible refine Yd hr ?_ ?_;rotate_left;intro p;rotate_right));(·simp only[go_sem,simprocAttr]);intro hp hn hd hr;(try have hl3:=hd _ e3);(try simp only[go_sem,simprocAttr] at hl3);(try have XQ:=hd _ e37);(try simp only[go_sem,simprocAttr] at XQ))
 |(refine Xl ?_ ?_;·first|assumption|omega)
 |(with_reducible first|refine CallX.c ?_ _|refine OK.c hr hw ?_ (λ y hr=>?_) _|refine Oy hr hw ?_ (λ y hr=>?_) _)
 |(with_reducible refine Xj (I:=Qic N _ _ _) hr 1000 N (λ ex hq hk=>⟨_,_,_,ex,hq,hk,?_⟩) ?_ _;rotate_left;clear hr;(try clear E);rintro n1 st ⟨v7,v8,v9,ex,hr,hk,(⟨_,_,_,_,E⟩|⟨_,_,_,E,z0⟩)⟩<;>(try subst z0)<;>(obtain _|n1:=n1<;>rw[QaZ] at hr))
 |refine ⟨_,WJ _,_,_,_,_,hr,hk,?_⟩
 |refine db 131 18 hf 74 [(0,30,[]),(0,5,[]),(0,3,[]),(6,1,[]),(14,1,[]),(31,0,[]),(63,0,[])] rfl rfl (by kernel_rfl) ?_ _
 |refine db 131 28 hf 7 [(0,38942226439011207213978722469150720,[]),(1,38942226439011207213978722469150720,[]),(0,38293189331694353760412410427998208,[[],[384]]),(0,35697040902426939946147162263388161,[[],[384]]),(0,9735556609752801803494680617287683,[[],[384]]),(16,9735556609752801803494680617287683,[[],[384]]),(3,38942226439011207213978722469150720,[[384],[]]),(71,36346078009743793399713474304540672,[]),(207,31153781151208965771182977975320576,[]),(511,0,[[576],[]]),(1023,0,[])] rfl rfl (by kernel_rfl) ?_ _
 |(refine Xq hr ?_;rintro rfl;with_reducible refine XG ?_)
 |exact Yo hr
 |((first|refine Xz (c:=true) hr rfl ?_|refine Xz (c:=false) hr rfl ?_|refine Xz hr (by assumption) ?_);intro hr)
 |fail)
theorem g38:(∀ N (a0:UX),OK (QdT N a0) 130 [.agg (e45 a0)] [] (λ r=>.v (.bool r)) λ r=>[])/\(∀ N (a0:Wz) (a1:List II) (a2:Int),OK (Qdx N a0 a1 a2) 222 [.agg (e42 a0),.isl 229 2 (a1.map JA),.v (.int .u64 a2)] [] (λ r=>.tup [.agg (e42 r.1),.isl 229 2 (r.2.1.map JA),.v (.int .i64 r.2.2)]) λ r=>[])/\(∀ N (a0:Wz) (a1:List II) (a2:Int),OK (QfY N a0 a1 a2) 223 [.agg (e42 a0),.isl 229 2 (a1.map JA),.v (.int .u64 a2)] [] (λ r=>.tup [.agg (e42 r.1),.isl 229 2 (r.2.1.map JA),.v (.int .u64 r.2.2.1),.v (.int .i64 r.2.2.2)]) λ r=>[]):=by
 refine ⟨λ N _=>rn Tryz.f130 [.tmp 2] [] 52 (by kernel_rfl) ?_,λ N _ _ _=>rn Tryz.f222 [.cell 6 42,.tmp 7,.tmp 8] [] 54 (by kernel_rfl) ?_,λ N _ _ _=>rn Tryz.f223 [.cell 6 42,.tmp 7,.tmp 8,.tmp 9] [] 77 (by kernel_rfl) ?_⟩<;>(rintro _ hw r hr C _ rfl hwf hf;simp only[Tryz.f130,Tryz.f222,Tryz.f223,Option.get!];(first|rw[QdT] at hr|rw[Qdx] at hr|rw[QfY] at hr);repeat' first
 |(refine El.el hr ?_;intro hr)
 |(with_reducible intro h;refine Xz hr h ?_;intro hr)
 |with_reducible intro _
 |simp only[go_sem,simprocAttr,KI,WO,Uo,Io]
 |(with_reducible first|apply Xg|apply Xf|apply Xs|apply Xx|apply Xy)
 |((first|with_reducible refine Ye hr (by assumption) ?_ ?_|(with_reducible refine Yd hr ?_ ?_;rotate_left;intro p;rotate_right));(·simp only[go_sem,simprocAttr,WO,Uo,Io]);intro hp hn hd hr;(try have KI:=hd _ JA);(try simp only[go_sem,simprocAttr] at KI))
 |(refine Xl ?_ ?_;·first|assumption|omega)
 |(with_reducible first|refine CallX.c ?_ _|refine OK.c hr hw ?_ (λ y hr=>?_) _|refine Oy hr hw ?_ (λ y hr=>?_) _)
 |refine db 130 6 hf 34 [(0,54,[[2176],[]]),(0,49,[[],[2176]]),(2,49,[[],[2176]]),(7,48,[[2176],[]]),(0,15,[[],[2176]]),(16,15,[[],[2176]]),(63,0,[]),(127,0,[[2176],[]]),(255,0,[])] rfl rfl (by kernel_rfl) ?_ _
 |refine db 130 7 hf 42 [(0,508,[[],[2176,3136]]),(1,508,[[],[2176,3136]]),(0,107,[]),(0,103,[]),(12,99,[[2176],[]]),(0,31,[[],[2176]]),(32,31,[[],[2176]]),(124,3,[[3136],[]]),(252,3,[[2176],[]]),(511,0,[]),(1023,0,[])] rfl rfl (by kernel_rfl) ?_ _
 |refine db 222 11 hf 42 [(0,122,[]),(0,121,[]),(3,120,[]),(0,55,[]),(0,15,[]),(16,15,[]),(56,7,[]),(127,0,[[1600],[]]),(255,0,[])] rfl rfl (by kernel_rfl) ?_ _
 |(refine Xq hr ?_;rintro rfl;with_reducible refine XG ?_)
 |exact Yo hr
 |with_reducible refine Xme (λ hi=>?_) (λ hi=>?_)
 |(exfalso;omega)
 |fail)
@[reducible,instance] def Qnw:=g38.1
@[reducible,instance] def Qme:=g38.2.1
@[reducible,instance] def QoQ:=g38.2.2
end Go.Sx
