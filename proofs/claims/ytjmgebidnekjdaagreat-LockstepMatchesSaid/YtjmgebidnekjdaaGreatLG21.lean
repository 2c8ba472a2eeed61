import Derived.Test.YtjmgebidnekjdaaGreatLG20
set_option linter.all false
namespace Go.Sx
open Go.Proofs
set_option maxRecDepth 10000
set_option maxHeartbeats 100000000
def g34:(∀ N a0,OK (QbH N a0) 28 [.agg (e38 a0)] [] (λ r=>.v (.bool r)) λ r=>[])/\(∀ N a0 a1 a2,OK (Qbz N a0 a1 a2) 161 [.agg (e27 a0),s92 a1,vu a2] [] (λ r=>.tup [.agg (e27 r.1),s92 r.2.1,vi r.2.2]) λ r=>[])/\(∀ N a0 a1 a2,OK (Qdn N a0 a1 a2) 162 [.agg (e27 a0),s92 a1,vu a2] [] (λ r=>.tup [.agg (e27 r.1),s92 r.2.1,vu r.2.2.1,vi r.2.2.2]) λ r=>[])/\(∀ N a0,OK (QgB N a0) 107 [.agg (e27 a0)] [] (λ r=>.v (.bool r)) λ r=>[]):=by
 refine ⟨λ N _=>rk Tryz.f28 [.tmp 2] [] 52 ?_,λ N _ _ _=>rk Tryz.f161 [.cell 6 27,.tmp 7,.tmp 8] [] 54 ?_,λ N _ _ _=>rk Tryz.f162 [.cell 6 27,.tmp 7,.tmp 8,.tmp 9] [] 77 ?_,λ N _=>rk Tryz.f107 [.tmp 2] [] 7 ?_⟩<;>(rintro _ hw r hr C _ rfl hwf hf;simp only[Tryz.f28,Tryz.f161,Tryz.f162,Tryz.f107,Option.get!];(first|rw[QbH] at hr|rw[Qbz] at hr|rw[Qdn] at hr|rw[QgB] at hr);repeat' first
 |(refine El.el hr ?_;intro hr)
 |(with_reducible intro h;refine Xx hr h ?_;intro hr)
 |with_reducible intro _
 |simp only[go_sem,simprocAttr,ZC,WC,WR,UM]
 |(with_reducible first|apply Xh|apply Xg|apply Xr|apply Xt|apply Xu)
 |((first|with_reducible refine Yn hr (by assumption) ?_ ?_|(with_reducible refine Yk hr ?_ ?_;rotate_left;intro p;rotate_right));(·simp only[go_sem,simprocAttr,WC,WR,UM]);intro hp hn hd hr;(try have ZC:=hd _ e92);(try simp only[go_sem,simprocAttr] at ZC))
 |(refine Xs ?_ ?_;·first|assumption|omega)
 |(with_reducible first|refine CallX.c ?_ _|refine OK.c hr hw ?_ (λ y hr=>?_) _|refine Ol hr hw ?_ (λ y hr=>?_) _)
 |refine dc 28 6 hf 34 [(0,54,[[2176],[]]),(0,49,[[],[2176]]),(2,49,[[],[2176]]),(7,48,[[2176],[]]),(0,15,[[],[2176]]),(16,15,[[],[2176]]),(63,0,[]),(127,0,[[2176],[]]),(255,0,[])] ?_
 |refine dc 28 7 hf 42 [(0,508,[[],[2176,3136]]),(1,508,[[],[2176,3136]]),(0,107,[]),(0,103,[]),(12,99,[[2176],[]]),(0,31,[[],[2176]]),(32,31,[[],[2176]]),(124,3,[[3136],[]]),(252,3,[[2176],[]]),(511,0,[]),(1023,0,[])] ?_
 |refine dc 161 11 hf 42 [(0,122,[]),(0,121,[]),(3,120,[]),(0,55,[]),(0,15,[]),(16,15,[]),(56,7,[]),(127,0,[[1600],[]]),(255,0,[])] ?_
 |(refine Xo hr ?_;rintro rfl;with_reducible refine XP ?_)
 |exact Yw hr
 |exact XV hr
 |(apply XW;assumption)
 |with_reducible refine XoX (λ hi=>?_) (λ hi=>?_)
 |(exfalso;omega)
 |fail)
abbrev Qnu:=g34.1
abbrev QlF:=g34.2.1
abbrev QoW:=g34.2.2.1
abbrev Qox:=g34.2.2.2
attribute [instance] Qnu QlF QoW Qox
abbrev Qjd:=λ N a2 y5 y6 (Q:(Int × List Int)→Prop) n (st:St)=>∃ v7 v8 v9 ex,Qbo N a2 y5 y6 n v7 v8 v9=some ex/\Q ex/\((∃ w5824 w384 w576 w704,st.n=122/\st.s 5824=some (w5824,.arr false 76 1 (v9.map e76) 0)/\st.t 2=s76 a2/\st.t 6=.ept 384 w384 6 0 0/\st.t 9=.ept 576 w576 6 0 0/\st.t 11=.ept 704 w704 16 0 0/\st.t 13=s76 y5.2.1/\st.t 15=.osl 5824 w5824 1 0 v9.length/\st.t 16=vi v7/\st.s 384=some (w384,.arr true 27 6 [[vi 0,vi 0,.nsl,.nsl,vi 0,vi 0]] 0)/\st.s 576=some (w576,.arr true 122 6 [[vi 0,vi 0,vi 0,vi 0,vi 0,vi 0]] 0)/\st.s 704=some (w704,.arr true 216 16 [[vi y6.1.Heap.Conf.PageWords,vi y6.1.Heap.Conf.Pages,s76 y6.1.Heap.Words,Y3 y6.1.Heap.Pages,vi y6.1.Heap.Space,vi y6.1.Heap.Bump,s76 y6.1.Old,s3 y6.1.Taken,s76 y6.1.Queue,vi y6.1.Scanned,vi y6.1.Report.Copied,vi y6.1.Report.Kept,vi y6.1.Report.Filled,vi y6.1.Report.Freed,vi v8,vi y6.1.Report.Steps]] 0))\/(∃ w384 w576 w704,(st.n=122/\st.t 2=s76 a2/\st.t 6=.ept 384 w384 6 0 0/\st.t 9=.ept 576 w576 6 0 0/\st.t 11=.ept 704 w704 16 0 0/\st.t 13=s76 y5.2.1/\st.t 15=.nsl/\st.t 16=vi v7/\st.s 384=some (w384,.arr true 27 6 [[vi 0,vi 0,.nsl,.nsl,vi 0,vi 0]] 0)/\st.s 576=some (w576,.arr true 122 6 [[vi 0,vi 0,vi 0,vi 0,vi 0,vi 0]] 0)/\st.s 704=some (w704,.arr true 216 16 [[vi y6.1.Heap.Conf.PageWords,vi y6.1.Heap.Conf.Pages,s76 y6.1.Heap.Words,Y3 y6.1.Heap.Pages,vi y6.1.Heap.Space,vi y6.1.Heap.Bump,s76 y6.1.Old,s3 y6.1.Taken,s76 y6.1.Queue,vi y6.1.Scanned,vi y6.1.Report.Copied,vi y6.1.Report.Kept,vi y6.1.Report.Filled,vi y6.1.Report.Freed,vi v8,vi y6.1.Report.Steps]] 0))/\v9=[]))
instance Qo8:∀ N a0 a1 a2,OK (QcE N a0 a1 a2) 84 [.agg (e27 a0),s76 a1,s76 a2] [] (λ r=>.tup [.agg (e27 r.1),s76 r.2.1,s76 r.2.2.1,.agg (Xmx r.2.2.2.1),vi r.2.2.2.2]) λ r=>[]:=by
 refine λ N _ _ _=>rk Tryz.f84 [.cell 6 27,.tmp 7,.tmp 8,.cell 9 122,.tmp 10] [] 122 ?_<;>(rintro _ hw r hr C _ rfl hwf hf;simp only[Tryz.f84,Option.get!];(rw[QcE] at hr);repeat' first
 |(refine El.el hr ?_;intro hr)
 |(with_reducible intro h;refine Xx hr h ?_;intro hr)
 |with_reducible intro _
 |(refine Xo hr ?_;rintro rfl;have hr:=hk;clear hk)
 |simp only[go_sem,simprocAttr,E,hl3,XS]
 |(with_reducible first|apply Xh|apply Xg|apply Xr|apply Xt|apply Xu)
 |((first|with_reducible refine Yn hr (by assumption) ?_ ?_|(with_reducible refine Yk hr ?_ ?_;rotate_left;intro p;rotate_right));(·simp only[go_sem,simprocAttr]);intro hp hn hd hr;(try have hl3:=hd _ e3);(try simp only[go_sem,simprocAttr] at hl3);(try have XS:=hd _ e76);(try simp only[go_sem,simprocAttr] at XS))
 |(refine Xs ?_ ?_;·first|assumption|omega)
 |(with_reducible first|refine CallX.c ?_ _|refine OK.c hr hw ?_ (λ y hr=>?_) _|refine Ol hr hw ?_ (λ y hr=>?_) _)
 |(with_reducible refine lp (Qjd N _ _ _) hr N ?_ (λ ex hq hk=>⟨_,_,_,ex,hq,hk,?_⟩) _;clear hr;(try clear E);rintro n1 st ⟨v7,v8,v9,ex,hr,hk,(⟨_,_,_,_,E⟩|⟨_,_,_,E,z0⟩)⟩<;>(try subst z0)<;>(obtain _|n1:=n1<;>rw[Qbo] at hr))
 |refine ⟨_,WH _,_,_,_,_,hr,hk,?_⟩
 |refine dc 84 18 hf 74 [(0,30,[]),(0,5,[]),(0,3,[]),(6,1,[]),(14,1,[]),(31,0,[]),(63,0,[])] ?_
 |refine dc 84 28 hf 7 [(0,38942226439011207213978722469150720,[]),(1,38942226439011207213978722469150720,[]),(0,38293189331694353760412410427998208,[[],[384]]),(0,35697040902426939946147162263388161,[[],[384]]),(0,9735556609752801803494680617287683,[[],[384]]),(16,9735556609752801803494680617287683,[[],[384]]),(3,38942226439011207213978722469150720,[[384],[]]),(71,36346078009743793399713474304540672,[]),(207,31153781151208965771182977975320576,[]),(511,0,[[576],[]]),(1023,0,[])] ?_
 |(refine Xo hr ?_;rintro rfl;with_reducible refine XP ?_)
 |exact Yw hr
 |exact XV hr
 |(apply XW;assumption)
 |((first|refine Xx (c:=true) hr rfl ?_|refine Xx (c:=false) hr rfl ?_|refine Xx hr (by assumption) ?_);intro hr)
 |fail)
end Go.Sx
