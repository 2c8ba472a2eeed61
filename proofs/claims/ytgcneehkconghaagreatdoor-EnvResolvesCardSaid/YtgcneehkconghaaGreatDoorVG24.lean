import Derived.Test.YtgcneehkconghaaGreatDoorVF
import Derived.Test.YtgcneehkconghaaGreatDoorVG0
import Derived.Test.YtgcneehkconghaaGreatDoorVG1
import Derived.Test.YtgcneehkconghaaGreatDoorVG3
import Derived.Test.YtgcneehkconghaaGreatDoorVG4
import Derived.Test.YtgcneehkconghaaGreatDoorVG9
import Derived.Test.YtgcneehkconghaaGreatDoorVG10
import Derived.Test.YtgcneehkconghaaGreatDoorVG11
import Derived.Test.YtgcneehkconghaaGreatDoorVG13
import Derived.Test.YtgcneehkconghaaGreatDoorVG14
import Derived.Test.YtgcneehkconghaaGreatDoorVG20
import Derived.Test.YtgcneehkconghaaGreatDoorVG23
set_option linter.all false
namespace Go.Sx
open Go.Proofs
set_option maxRecDepth 10000
set_option maxHeartbeats 100000000
theorem g33:(∀ N (a0:W6),OK (QcH N a0) 23 [.agg (e38 a0)] [] (λ r=>.v (.bool r)) λ r=>[])/\(∀ N (a0:Wn) (a1:List UN) (a2:Int),OK (Qbi N a0 a1 a2) 205 [.agg (e27 a0),.isl 119 2 (a1.map Zc),.v (.int .u64 a2)] [] (λ r=>.tup [.agg (e27 r.1),.isl 119 2 (r.2.1.map Zc),.v (.int .i64 r.2.2)]) λ r=>[])/\(∀ N (a0:Wn) (a1:List UN) (a2:Int),OK (Qc4 N a0 a1 a2) 206 [.agg (e27 a0),.isl 119 2 (a1.map Zc),.v (.int .u64 a2)] [] (λ r=>.tup [.agg (e27 r.1),.isl 119 2 (r.2.1.map Zc),.v (.int .u64 r.2.2.1),.v (.int .i64 r.2.2.2)]) λ r=>[])/\(∀ N (a0:Wn),OK (QfG N a0) 123 [.agg (e27 a0)] [] (λ r=>.v (.bool r)) λ r=>[]):=by
 refine ⟨λ N _=>rn Tryz.f23 [.tmp 2] [] 52 (by kernel_rfl) ?_,λ N _ _ _=>rn Tryz.f205 [.cell 6 27,.tmp 7,.tmp 8] [] 54 (by kernel_rfl) ?_,λ N _ _ _=>rn Tryz.f206 [.cell 6 27,.tmp 7,.tmp 8,.tmp 9] [] 77 (by kernel_rfl) ?_,λ N _=>rn Tryz.f123 [.tmp 2] [] 7 (by kernel_rfl) ?_⟩<;>(rintro _ hw r hr C _ rfl hwf hf;simp only[Tryz.f23,Tryz.f205,Tryz.f206,Tryz.f123,Option.get!];(first|rw[QcH] at hr|rw[Qbi] at hr|rw[Qc4] at hr|rw[QfG] at hr);repeat' first
 |(refine El.el hr ?_;intro hr)
 |(with_reducible intro h;refine XA hr h ?_;intro hr)
 |with_reducible intro _
 |simp only[go_sem,simprocAttr,Zq,Wz,WO,UL]
 |(with_reducible first|apply Xk|apply Xj|apply Xo|apply Xt|apply Xu)
 |((first|with_reducible refine Ym hr (by assumption) ?_ ?_|(with_reducible refine Yi hr ?_ ?_;rotate_left;intro p;rotate_right));(·simp only[go_sem,simprocAttr,Wz,WO,UL]);intro hp hn hd hr;(try have Zq:=hd _ Zc);(try simp only[go_sem,simprocAttr] at Zq))
 |(refine Xp ?_ ?_;·first|assumption|omega)
 |(with_reducible first|refine CallX.c ?_ _|refine OK.c hr hw ?_ (λ y hr=>?_) _|refine Og hr hw ?_ (λ y hr=>?_) _)
 |refine db 23 6 hf 34 [(0,54,[[2176],[]]),(0,49,[[],[2176]]),(2,49,[[],[2176]]),(7,48,[[2176],[]]),(0,15,[[],[2176]]),(16,15,[[],[2176]]),(63,0,[]),(127,0,[[2176],[]]),(255,0,[])] rfl rfl (by kernel_rfl) ?_ _
 |refine db 23 7 hf 42 [(0,508,[[],[2176,3136]]),(1,508,[[],[2176,3136]]),(0,107,[]),(0,103,[]),(12,99,[[2176],[]]),(0,31,[[],[2176]]),(32,31,[[],[2176]]),(124,3,[[3136],[]]),(252,3,[[2176],[]]),(511,0,[]),(1023,0,[])] rfl rfl (by kernel_rfl) ?_ _
 |refine db 205 11 hf 42 [(0,122,[]),(0,121,[]),(3,120,[]),(0,55,[]),(0,15,[]),(16,15,[]),(56,7,[]),(127,0,[[1600],[]]),(255,0,[])] rfl rfl (by kernel_rfl) ?_ _
 |(refine Xn hr ?_;rintro rfl;with_reducible refine XM ?_)
 |exact Yw hr
 |with_reducible refine Xnl (λ hi=>?_) (λ hi=>?_)
 |(exfalso;omega)
 |fail)
@[reducible,instance] def QmM:=g33.1
@[reducible,instance] def Qlr:=g33.2.1
@[reducible,instance] def Qoj:=g33.2.2.1
@[reducible,instance] def QnL:=g33.2.2.2
abbrev QhW:=λ N (a2:List Int) (y5:W0 × List Int × Int) (y6:W0 × Int) (Q:(Int × List Int)→Prop) n (st:St)=>∃ (v7:Int) (v8:Int) (v9:List Int) (ex:_),Qa8 N a2 y5 y6 n v7 v8 v9=some ex/\Q ex/\((∃ w5824 w384 w576 w704,st.n=122/\st.s 5824=some (w5824,.arr false 39 1 (v9.map e39) 0)/\st.t 2=.isl 39 1 (a2.map e39)/\st.t 6=.ept 384 w384 6 0 0/\st.t 9=.ept 576 w576 6 0 0/\st.t 11=.ept 704 w704 16 0 0/\st.t 13=.isl 39 1 (y5.2.1.map e39)/\st.t 15=.osl 5824 w5824 1 0 v9.length/\st.t 16=.v (.int .i64 v7)/\st.s 384=some (w384,.arr true 27 6 [[.v (.int .i64 0),.v (.int .i64 0),.nsl,.nsl,.v (.int .i64 0),.v (.int .i64 0)]] 0)/\st.s 576=some (w576,.arr true 100 6 [[.v (.int .i64 0),.v (.int .i64 0),.v (.int .i64 0),.v (.int .i64 0),.v (.int .i64 0),.v (.int .i64 0)]] 0)/\st.s 704=some (w704,.arr true 232 16 [[.v (.int .i64 y6.1.Heap.Conf.PageWords),.v (.int .i64 y6.1.Heap.Conf.Pages),.isl 39 1 (y6.1.Heap.Words.map e39),.isl 175 4 (y6.1.Heap.Pages.map XG),.v (.int .i64 y6.1.Heap.Space),.v (.int .i64 y6.1.Heap.Bump),.isl 39 1 (y6.1.Old.map e39),.isl 3 1 (y6.1.Taken.map e3),.isl 39 1 (y6.1.Queue.map e39),.v (.int .i64 y6.1.Scanned),.v (.int .i64 y6.1.Report.Copied),.v (.int .i64 y6.1.Report.Kept),.v (.int .i64 y6.1.Report.Filled),.v (.int .i64 y6.1.Report.Freed),.v (.int .i64 v8),.v (.int .i64 y6.1.Report.Steps)]] 0))\/(∃ w384 w576 w704,(st.n=122/\st.t 2=.isl 39 1 (a2.map e39)/\st.t 6=.ept 384 w384 6 0 0/\st.t 9=.ept 576 w576 6 0 0/\st.t 11=.ept 704 w704 16 0 0/\st.t 13=.isl 39 1 (y5.2.1.map e39)/\st.t 15=.nsl/\st.t 16=.v (.int .i64 v7)/\st.s 384=some (w384,.arr true 27 6 [[.v (.int .i64 0),.v (.int .i64 0),.nsl,.nsl,.v (.int .i64 0),.v (.int .i64 0)]] 0)/\st.s 576=some (w576,.arr true 100 6 [[.v (.int .i64 0),.v (.int .i64 0),.v (.int .i64 0),.v (.int .i64 0),.v (.int .i64 0),.v (.int .i64 0)]] 0)/\st.s 704=some (w704,.arr true 232 16 [[.v (.int .i64 y6.1.Heap.Conf.PageWords),.v (.int .i64 y6.1.Heap.Conf.Pages),.isl 39 1 (y6.1.Heap.Words.map e39),.isl 175 4 (y6.1.Heap.Pages.map XG),.v (.int .i64 y6.1.Heap.Space),.v (.int .i64 y6.1.Heap.Bump),.isl 39 1 (y6.1.Old.map e39),.isl 3 1 (y6.1.Taken.map e3),.isl 39 1 (y6.1.Queue.map e39),.v (.int .i64 y6.1.Scanned),.v (.int .i64 y6.1.Report.Copied),.v (.int .i64 y6.1.Report.Kept),.v (.int .i64 y6.1.Report.Filled),.v (.int .i64 y6.1.Report.Freed),.v (.int .i64 v8),.v (.int .i64 y6.1.Report.Steps)]] 0))/\v9=[]))
instance Qls:∀ N (a0:Wn) (a1:List Int) (a2:List Int),OK (Qcs N a0 a1 a2) 99 [.agg (e27 a0),.isl 39 1 (a1.map e39),.isl 39 1 (a2.map e39)] [] (λ r=>.tup [.agg (e27 r.1),.isl 39 1 (r.2.1.map e39),.isl 39 1 (r.2.2.1.map e39),.agg (Xk9 r.2.2.2.1),.v (.int .i64 r.2.2.2.2)]) λ r=>[]:=by
 refine λ N _ _ _=>rn Tryz.f99 [.cell 6 27,.tmp 7,.tmp 8,.cell 9 100,.tmp 10] [] 122 (by kernel_rfl) ?_<;>(rintro _ hw r hr C _ rfl hwf hf;simp only[Tryz.f99,Option.get!];(rw[Qcs] at hr);repeat' first
 |(refine El.el hr ?_;intro hr)
 |(with_reducible intro h;refine XA hr h ?_;intro hr)
 |with_reducible intro _
 |(refine Xn hr ?_;rintro rfl;have hr:=hk;clear hk)
 |simp only[go_sem,simprocAttr,E,hl3,XR]
 |(with_reducible first|apply Xk|apply Xj|apply Xo|apply Xt|apply Xu)
 |((first|with_reducible refine Ym hr (by assumption) ?_ ?_|(with_reducible refine Yi hr ?_ ?_;rotate_left;intro p;rotate_right));(·simp only[go_sem,simprocAttr]);intro hp hn hd hr;(try have hl3:=hd _ e3);(try simp only[go_sem,simprocAttr] at hl3);(try have XR:=hd _ e39);(try simp only[go_sem,simprocAttr] at XR))
 |(refine Xp ?_ ?_;·first|assumption|omega)
 |(with_reducible first|refine CallX.c ?_ _|refine OK.c hr hw ?_ (λ y hr=>?_) _|refine Og hr hw ?_ (λ y hr=>?_) _)
 |(with_reducible refine Xf (I:=QhW N _ _ _) hr 1000 N (λ ex hq hk=>⟨_,_,_,ex,hq,hk,?_⟩) ?_ _;rotate_left;clear hr;(try clear E);rintro n1 st ⟨v7,v8,v9,ex,hr,hk,(⟨_,_,_,_,E⟩|⟨_,_,_,E,z0⟩)⟩<;>(try subst z0)<;>(obtain _|n1:=n1<;>rw[Qa8] at hr))
 |refine ⟨_,WD _,_,_,_,_,hr,hk,?_⟩
 |refine db 99 18 hf 74 [(0,30,[]),(0,5,[]),(0,3,[]),(6,1,[]),(14,1,[]),(31,0,[]),(63,0,[])] rfl rfl (by kernel_rfl) ?_ _
 |refine db 99 28 hf 7 [(0,38942226439011207213978722469150720,[]),(1,38942226439011207213978722469150720,[]),(0,38293189331694353760412410427998208,[[],[384]]),(0,35697040902426939946147162263388161,[[],[384]]),(0,9735556609752801803494680617287683,[[],[384]]),(16,9735556609752801803494680617287683,[[],[384]]),(3,38942226439011207213978722469150720,[[384],[]]),(71,36346078009743793399713474304540672,[]),(207,31153781151208965771182977975320576,[]),(511,0,[[576],[]]),(1023,0,[])] rfl rfl (by kernel_rfl) ?_ _
 |(refine Xn hr ?_;rintro rfl;with_reducible refine XM ?_)
 |exact Yw hr
 |((first|refine XA (c:=true) hr rfl ?_|refine XA (c:=false) hr rfl ?_|refine XA hr (by assumption) ?_);intro hr)
 |fail)
end Go.Sx
