import Derived.Test.YtlneiohchomcfaaGreatDoorSG0
import Derived.Test.YtlneiohchomcfaaGreatDoorSG1
set_option linter.all false
namespace Go.Sx
open Go.Proofs Tryz
set_option maxRecDepth 10000
set_option maxHeartbeats 100000000
def g8:(∀N(a0:WN),O1 (Qgj N a0) 98 [.agg (e24 a0)] (λr=>.tup [.agg (e28 r.1),vi r.2]))/\(∀N(a0:WN)(a1:Int),O1 (Qch N a0 a1) 160 [.agg (e24 a0),vu a1] (λr=>.tup [vi r.1,vi r.2.1,vi r.2.2]))/\(∀N(a0:Wv),O1 (QcU N a0) 173 [.agg (Z7 a0)] (λr=>vi r))/\(∀N(a0:Wv)(a1:Int),O1 (Qcm N a0 a1) 38 [.agg (Z7 a0),vi a1] (λr=>.v (.bool r)))/\(∀N(a0:WN),O1 (Qf7 N a0) 320 [.agg (e24 a0)] (λr=>vi r))/\(∀N(a0:WM)(a1:Int),O1 (Qg4 N a0 a1) 206 [.agg (e42 a0),vu a1] (λr=>vi r))/\(∀N(a0:Wv),O1 (Qdl N a0) 272 [.agg (Z7 a0)] (λr=>.v (.bool r)))/\(∀N(a0:WN)(a1:Int)(a2:Int),O1 (Qdm N a0 a1 a2) 303 [.agg (e24 a0),vi a1,vi a2] (λr=>.tup [vu r.1,vi r.2]))/\(∀N(a0:List Int)(a1:Int),O1 (Qai N a0 a1) 50 [s49 a0,vu a1] (λr=>.v (.bool r)))/\(∀N(a0:Wu),O1 (QeP N a0) 57 [.agg (e35 a0)] (λr=>.agg (e35 r)))/\(∀N(a0:WN),O1 (Qhr N a0) 348 [.agg (e24 a0)] (λr=>vi r))/\(∀N(a0:Int)(a1:Int),O1 (Qce N a0 a1) 313 [vu a0,vi a1] (λr=>.v (.bool r)))/\(∀N(a0:UR),O1 (QeT N a0) 282 [.agg (Xje a0)] (λr=>.v (.bool r))):=by
 refine⟨λN _=>rk f98 ?_,λN _ _=>rk f160 ?_,λN _=>rk f173 ?_,λN _ _=>rk f38 ?_,λN _=>rk f320 ?_,λN _ _=>rk f206 ?_,λN _=>rk f272 ?_,λN _ _ _=>rk f303 ?_,λN _ _=>rk f50 ?_,λN _=>rk f57 ?_,λN _=>rk f348 ?_,λN _ _=>rk f313 ?_,λN _=>rk f282 ?_⟩<;>(rintro _ hw r hr C _ rfl hwf hf;have hgw:=hw.1;have hse:=@ZZ _ hw;simp only[f98,f160,f173,f38,f320,f206,f272,f303,f50,f57,f348,f313,f282,Option.get!,Qgj,Qch,QcU,Qcm,Qf7,Qg4,Qdl,Qdm,Qai,QeP,Qhr,Qce,QeT]at hr⊢;repeat' first
 |(refine El.el hr ?_;clear hr;intro hr)
 |(with_reducible intro h;refine XH hr h ?_;clear hr;intro hr)
 |with_reducible intro _
 |simp only[go_sem,simprocAttr,hgw,hse]
 |(with_reducible first|apply Xi|apply Xh|apply Xt|apply Xx|apply Xy)
 |(refine Xu ?_ ?_;.first|assumption|omega)
 |(with_reducible refine XcX hr ?_ ?_;(·simp only[go_sem]);intro p hp hn hd hr;;(try simp only[WY]at hn))
 |(with_reducible first|refine CallX.c ?_ _|refine OK.c hr hw ?_ (λy hr=>?_) _|refine OK.d hr hw ?_ (λy hr=>?_) _)
 |refine dq 98 3 hf [(0,[],[896,1088]),(1,[],[1088]),(2,[],[1088]),(3,[],[1088]),(4,[],[1088]),(5,[],[1088]),(6,[896],[1088]),(7,[],[896]),(8,[],[896]),(9,[1088],[896]),(11,[128],[])] ?_
 |refine dp ?_
 |(refine Xq hr ?_;rintro rfl;with_reducible refine XQ ?_)
 |exact YE hr)
abbrev QnH:=g8.1
abbrev Qod:=g8.2.1
abbrev QmQ:=g8.2.2.1
abbrev Qj7:=g8.2.2.2.1
abbrev QlQ:=g8.2.2.2.2.1
abbrev Qk1:=g8.2.2.2.2.2.1
abbrev Qk2:=g8.2.2.2.2.2.2.1
abbrev Qk3:=g8.2.2.2.2.2.2.2.1
abbrev QgY:=g8.2.2.2.2.2.2.2.2.1
abbrev Qk4:=g8.2.2.2.2.2.2.2.2.2.1
abbrev QmR:=g8.2.2.2.2.2.2.2.2.2.2.1
abbrev QnI:=g8.2.2.2.2.2.2.2.2.2.2.2.1
abbrev Qk5:=g8.2.2.2.2.2.2.2.2.2.2.2.2
attribute [instance] QnH Qod QmQ Qj7 QlQ Qk1 Qk2 Qk3 QgY Qk4 QmR QnI Qk5
def g7:(∀N a0,OK (Qft N a0) 40 [.ept 1000000 0 2 0 0] [.arr true 48 2 [[s3 a0.L,vi a0.at_]] 0] (λr=>.agg (e24 r.1)) λr=>[.arr true 48 2 [[s3 r.2.L,vi r.2.at_]] 0])/\(∀N(a0:WN),O1 (QdD N a0) 246 [.agg (e24 a0)] (λr=>vi r))/\(∀N(a0:Wv),O1 (QcH N a0) 170 [.agg (Z7 a0)] (λr=>.tup [vu r.1,vi r.2]))/\(∀N(a0:List Int)(a1:Int)(a2:Int),O1 (Qdg N a0 a1 a2) 96 [s49 a0,vu a1,vi a2] (λr=>.tup [s49 r.1,vi r.2]))/\(∀N(a0:List Ws)(a1:Int)(a2:Int),O1 (QbP N a0 a1 a2) 290 [YB a0,vi a1,vi a2] (λr=>.tup [.fsl 139 4 (r.1.map X0),vi r.2]))/\(∀N(a0:Wu)(a1:Int)(a2:Int),O1 (Qd3 N a0 a1 a2) 203 [.agg (e35 a0),vi a1,vi a2] (λr=>.tup [vu r.1,vi r.2]))/\(∀N(a0:Ws)(a1:WN),O1 (QdL N a0 a1) 324 [.agg (Xh8 a0),.agg (e24 a1)] (λr=>.v (.bool r)))/\(∀N(a0:List Int)(a1:Int),O1 (Qhg N a0 a1) 311 [s49 a0,vu a1] (λr=>.tup [vi r.1,vi r.2]))/\(∀N(a0:Int)(a1:Int),O1 (Qgh N a0 a1) 218 [vu a0,vu a1] (λr=>.v (.bool r)))/\(∀N(a0:Wp),O1 (Qe1 N a0) 56 [.agg (e32 a0)] (λr=>.agg (e32 r)))/\(∀N(a0:List Ws)(a1:Int)(a2:List Ws),O1 (QgU N a0 a1 a2) 350 [YB a0,vi a1,YB a2] (λr=>.tup [.fsl 139 4 (r.1.map X0),vi r.2]))/\(∀N(a0:List Int)(a1:Int)(a2:List Int),O1 (Qgd N a0 a1 a2) 312 [s49 a0,vu a1,s49 a2] (λr=>.tup [s49 r.1,vi r.2]))/\(∀N(a0:Wu),O1 (Qhi N a0) 235 [.agg (e35 a0)] (λr=>.agg [.fsl 145 3 (r.e.map Z6)])):=by
 refine⟨λN _=>rk f40 ?_,λN _=>rk f246 ?_,λN _=>rk f170 ?_,λN _ _ _=>rk f96 ?_,λN _ _ _=>rq f290 [1216] ?_,λN _ _ _=>rk f203 ?_,λN _ _=>rk f324 ?_,λN _ _=>rk f311 ?_,λN _ _=>rk f218 ?_,λN _=>rk f56 ?_,λN _ _ _=>rq f350 [1920] ?_,λN _ _ _=>rk f312 ?_,λN _=>rq f235 [320] ?_⟩<;>(rintro _ hw r hr C _ rfl hwf hf;have hse:=@ZZ _ hw;simp only[f40,f246,f170,f96,f290,f203,f324,f311,f218,f56,f350,f312,f235,Option.get!,Qft,QdD,QcH,Qdg,QbP,Qd3,QdL,Qhg,Qgh,Qe1,QgU,Qgd,Qhi]at hr⊢;repeat' first
 |(refine El.el hr ?_;clear hr;intro hr)
 |(with_reducible intro h;refine XH hr h ?_;clear hr;intro hr)
 |with_reducible intro _
 |simp only[go_sem,simprocAttr,hl3,Ya,hse,Wl,Wn,Wz]
 |(with_reducible first|apply Xi|apply Xh|apply Xt|apply Xx|apply Xy)
 |((first|with_reducible refine Yy hr ag ?_ ?_|(with_reducible refine Yt hr ?_ ?_;rotate_left;intro p;rotate_right));(·simp only[go_sem,simprocAttr,hse,Wl,Wn,Wz]);intro hp hn hd hr;(try have hl3:=hd _ e3;simp only[go_sem,simprocAttr]at hl3);(try have Ya:=hd _ Z6;simp only[go_sem,simprocAttr]at Ya))
 |(refine Xu ?_ ?_;.first|assumption|omega)
 |(with_reducible first|refine CallX.c ?_ _|refine OK.c hr hw ?_ (λy hr=>?_) _|refine OK.d hr hw ?_ (λy hr=>?_) _)
 |refine dq 40 1 hf [(0,[192],[512,1000000]),(1,[],[192,512]),(2,[1000000],[192,512]),(3,[],[512,1000000]),(4,[],[512,1000000]),(5,[512],[192,1000000]),(6,[],[192,512,1000000]),(7,[1000000],[192,512]),(8,[],[192]),(9,[],[192]),(11,[128],[])] ?_
 |refine dq 56 1 hf [(2,[320],[]),(3,[],[320]),(4,[],[320]),(5,[512],[]),(6,[],[320,512]),(7,[],[320,512]),(8,[704],[]),(10,[128],[])] ?_
 |(refine Xq hr ?_;rintro rfl;with_reducible refine XQ ?_)
 |exact YE hr
 |rw[Ul ah]
 |omega
 |rw[Ul (by simp only[WJ,Um,Wn];omega)])
abbrev Qjj:=g7.1
abbrev Qh8:=g7.2.1
abbrev Qk6:=g7.2.2.1
abbrev QmS:=g7.2.2.2.1
abbrev QlR:=g7.2.2.2.2.1
abbrev QnJ:=g7.2.2.2.2.2.1
abbrev Qh9:=g7.2.2.2.2.2.2.1
abbrev QlS:=g7.2.2.2.2.2.2.2.1
abbrev Qiz:=g7.2.2.2.2.2.2.2.2.1
abbrev Qj8:=g7.2.2.2.2.2.2.2.2.2.1
abbrev QnK:=g7.2.2.2.2.2.2.2.2.2.2.1
abbrev QlT:=g7.2.2.2.2.2.2.2.2.2.2.2.1
abbrev QlU:=g7.2.2.2.2.2.2.2.2.2.2.2.2
attribute [instance] Qjj Qh8 Qk6 QmS QlR QnJ Qh9 QlS Qiz Qj8 QnK QlT QlU
end Go.Sx
