import Derived.Test.YtgcneehkconghaaGreatDoorVF
set_option linter.all false
namespace Go.Sx
open Go.Proofs
set_option maxRecDepth 10000
set_option maxHeartbeats 100000000
theorem g2:(∀ N (a0:WT),OK (Qaw N a0) 98 [.agg (e23 a0)] [] (λ r=>.v (.bool r)) λ r=>[])/\(∀ N (a0:List Int) (a1:Int) (a2:Int),OK (Qdk N a0 a1 a2) 331 [.isl 39 1 (a0.map e39),.v (.int .u64 a1),.v (.int .i64 a2)] [] (λ r=>.tup [.v (.int .i64 r.1),.v (.bool r.2)]) λ r=>[])/\(∀ N (a0:Ww) (a1:Int),OK (QgP N a0 a1) 146 [.agg (e32 a0),.v (.int .i64 a1)] [] (λ r=>.v (.int .i64 r)) λ r=>[])/\(∀ N (a0:Int),OK (Qdw N a0) 327 [.v (.int .u64 a0)] [] (λ r=>.tup [.v (.int .u64 r.1),.v (.int .i64 r.2)]) λ r=>[])/\(∀ N (a0:U8),OK (QfT N a0) 147 [.agg (e70 a0)] [] (λ r=>.v (.bool r)) λ r=>[])/\(∀ N (a0:W6) (a1:W6) (a2:Int) (a3:Int) (a4:Int),OK (Qdy N a0 a1 a2 a3 a4) 43 [.agg (e38 a0),.agg (e38 a1),.v (.int .i64 a2),.v (.int .u64 a3),.v (.int .i64 a4)] [] (λ r=>.agg (Xou r)) λ r=>[])/\(∀ N (a0:WT),OK (Qa4 N a0) 148 [.agg (e23 a0)] [] (λ r=>.v (.bool r)) λ r=>[])/\(∀ N (a0:Wv),OK (QcW N a0) 343 [.agg (Xfz a0)] [] (λ r=>.v (.bool r)) λ r=>[])/\(∀ N (a0:Int),OK (Qgf N a0) 364 [.v (.int .u64 a0)] [] (λ r=>.v (.bool r)) λ r=>[])/\(∀ N (a0:Int),OK (Qc6 N a0) 229 [.v (.int .u64 a0)] [] (λ r=>.v (.bool r)) λ r=>[])/\(∀ N (a0:Int),OK (Qe5 N a0) 126 [.v (.int .i64 a0)] [] (λ r=>.v (.bool r)) λ r=>[])/\(∀ N (a0:Int),OK (QhH N a0) 149 [.v (.int .i64 a0)] [] (λ r=>.tup [.isl 39 1 (r.1.map e39),.v (.int .i64 r.2)]) λ r=>[]):=by
 refine ⟨λ N _=>rn Tryz.f98 [.tmp 2] [] 27 (by kernel_rfl) ?_,λ N _ _ _=>rn Tryz.f331 [.tmp 6,.tmp 7] [] 29 (by kernel_rfl) ?_,λ N _ _=>rn Tryz.f146 [.tmp 4] [] 21 (by kernel_rfl) ?_,λ N _=>rn Tryz.f327 [.tmp 2,.tmp 3] [] 9 (by kernel_rfl) ?_,λ N _=>rn Tryz.f147 [.tmp 2] [] 31 (by kernel_rfl) ?_,λ N _ _ _ _ _=>rn Tryz.f43 [.cell 10 105] [] 44 (by kernel_rfl) ?_,λ N _=>rn Tryz.f148 [.tmp 2] [] 27 (by kernel_rfl) ?_,λ N _=>rn Tryz.f343 [.tmp 2] [] 11 (by kernel_rfl) ?_,λ N _=>rn Tryz.f364 [.tmp 2] [] 5 (by kernel_rfl) ?_,λ N _=>rn Tryz.f229 [.tmp 2] [] 6 (by kernel_rfl) ?_,λ N _=>rn Tryz.f126 [.tmp 2] [] 9 (by kernel_rfl) ?_,λ N _=>rn Tryz.f149 [.tmp 2,.tmp 3] [] 12 (by kernel_rfl) ?_⟩<;>(rintro _ hw r hr C _ rfl hwf hf;simp only[Tryz.f98,Tryz.f331,Tryz.f146,Tryz.f327,Tryz.f147,Tryz.f43,Tryz.f148,Tryz.f343,Tryz.f364,Tryz.f229,Tryz.f126,Tryz.f149,Option.get!];(first|rw[Qaw] at hr|rw[Qdk] at hr|rw[QgP] at hr|rw[Qdw] at hr|rw[QfT] at hr|rw[Qdy] at hr|rw[Qa4] at hr|rw[QcW] at hr|rw[Qgf] at hr|rw[Qc6] at hr|rw[Qe5] at hr|rw[QhH] at hr);repeat' first
 |(refine El.el hr ?_;intro hr)
 |(with_reducible intro h;refine XA hr h ?_;intro hr)
 |with_reducible intro _
 |simp only[go_sem,simprocAttr,Js]
 |(with_reducible first|apply Xk|apply Xj|apply Xo)
 |((first|with_reducible refine Ym hr (by assumption) ?_ ?_|(with_reducible refine Yi hr ?_ ?_;rotate_left;intro p;rotate_right));(·simp only[go_sem,simprocAttr]);intro hp hn hd hr;(try have Js:=hd _ e98);(try simp only[go_sem,simprocAttr] at Js))
 |(refine Xp ?_ ?_;·first|assumption|omega)
 |(refine Xn hr ?_;rintro rfl;with_reducible refine XM ?_)
 |exact Yw hr
 |fail)
@[reducible,instance] def QkF:=g2.1
@[reducible,instance] def Qm6:=g2.2.1
@[reducible,instance] def Qop:=g2.2.2.1
@[reducible,instance] def Qk4:=g2.2.2.2.1
@[reducible,instance] def Ql6:=g2.2.2.2.2.1
@[reducible,instance] def Qk5:=g2.2.2.2.2.2.1
@[reducible,instance] def QkO:=g2.2.2.2.2.2.2.1
@[reducible,instance] def Qku:=g2.2.2.2.2.2.2.2.1
@[reducible,instance] def Qlx:=g2.2.2.2.2.2.2.2.2.1
@[reducible,instance] def Qkr:=g2.2.2.2.2.2.2.2.2.2.1
@[reducible,instance] def Qk6:=g2.2.2.2.2.2.2.2.2.2.2.1
@[reducible,instance] def QnT:=g2.2.2.2.2.2.2.2.2.2.2.2
theorem g3:(∀ N (a0:UU),OK (Qfx N a0) 14 [.ept 1000000 0 2 0 0] [.arr true 60 2 [[.isl 3 1 (a0.L.map e3),.v (.int .i64 a0.at_)]] 0] (λ r=>.v (.bool r)) λ r=>[.arr true 60 2 [[.isl 3 1 (a0.L.map e3),.v (.int .i64 a0.at_)]] 0])/\(∀ N (a0:Wy),OK (QcG N a0) 188 [.agg (e80 a0)] [] (λ r=>.v (.bool r)) λ r=>[])/\(∀ N (a0:Int),OK (Qdr N a0) 273 [.v (.int .u64 a0)] [] (λ r=>.tup [.v (.int .u64 r.1),.v (.bool r.2)]) λ r=>[])/\(∀ N (a0:Int),OK (Qac N a0) 105 [.v (.int .i64 a0)] [] (λ r=>.tup [.agg (e38 r.1),.v (.int .u64 r.2.1),.v (.int .i64 r.2.2)]) λ r=>[])/\(∀ N (a0:WI) (a1:Int) (a2:Ub),OK (Qf2 N a0 a1 a2) 282 [.agg (e35 a0),.v (.int .i64 a1),.agg (Yz a2)] [] (λ r=>.agg (e35 r)) λ r=>[])/\(∀ N (a0:WM) (a1:Int) (a2:Int) (a3:Int),OK (QeJ N a0 a1 a2 a3) 117 [.agg (e43 a0),.v (.int .u64 a1),.v (.int .i64 a2),.v (.int .u64 a3)] [] (λ r=>.agg (e43 r)) λ r=>[])/\(∀ N (a0:Wv) (a1:WT),OK (Qfg N a0 a1) 299 [.agg (Xfz a0),.agg (e23 a1)] [] (λ r=>.v (.bool r)) λ r=>[])/\(∀ N (a0:Wv) (a1:Wv),OK (Qex N a0 a1) 302 [.agg (Xfz a0),.agg (Xfz a1)] [] (λ r=>.v (.bool r)) λ r=>[])/\(∀ N (a0:UI),OK (Qd1 N a0) 226 [.agg (KR a0)] [] (λ r=>.v (.bool r)) λ r=>[])/\(∀ N (a0:UN) (a1:Int),OK (Qey N a0 a1) 291 [.agg (Zc a0),.ept 1000000 0 1 0 0] [.arr true 39 1 [[.v (.int .u64 a1)]] 0] (λ r=>.v (.bool r)) λ r=>[.arr true 39 1 [[.v (.int .u64 a1)]] 0])/\(∀ N (a0:Ub),OK (Qe6 N a0) 131 [.agg (Yz a0)] [] (λ r=>.v (.bool r)) λ r=>[]):=by
 refine ⟨λ N _=>rn Tryz.f14 [.tmp 2] [] 13 (by kernel_rfl) ?_,λ N _=>rn Tryz.f188 [.tmp 2] [] 40 (by kernel_rfl) ?_,λ N _=>rn Tryz.f273 [.tmp 2,.tmp 3] [] 14 (by kernel_rfl) ?_,λ N _=>rn Tryz.f105 [.cell 2 38,.tmp 3,.tmp 4] [] 7 (by kernel_rfl) ?_,λ N _ _ _=>rn Tryz.f282 [.cell 6 35] [] 18 (by kernel_rfl) ?_,λ N _ _ _ _=>rn Tryz.f117 [.cell 8 43] [] 38 (by kernel_rfl) ?_,λ N _ _=>rn Tryz.f299 [.tmp 4] [] 8 (by kernel_rfl) ?_,λ N _ _=>rn Tryz.f302 [.tmp 4] [] 10 (by kernel_rfl) ?_,λ N _=>rn Tryz.f226 [.tmp 2] [] 7 (by kernel_rfl) ?_,λ N _ _=>rn Tryz.f291 [.tmp 3] [] 8 (by kernel_rfl) ?_,λ N _=>rn Tryz.f131 [.tmp 2] [] 21 (by kernel_rfl) ?_⟩<;>(rintro _ hw r hr C _ rfl hwf hf;simp only[Tryz.f14,Tryz.f188,Tryz.f273,Tryz.f105,Tryz.f282,Tryz.f117,Tryz.f299,Tryz.f302,Tryz.f226,Tryz.f291,Tryz.f131,Option.get!];(first|rw[Qfx] at hr|rw[QcG] at hr|rw[Qdr] at hr|rw[Qac] at hr|rw[Qf2] at hr|rw[QeJ] at hr|rw[Qfg] at hr|rw[Qex] at hr|rw[Qd1] at hr|rw[Qey] at hr|rw[Qe6] at hr);repeat' first
 |(refine El.el hr ?_;intro hr)
 |(with_reducible intro h;refine XA hr h ?_;intro hr)
 |with_reducible intro _
 |simp only[go_sem,simprocAttr,XR,YJ,Z5]
 |(with_reducible first|apply Xk|apply Xj|apply Xo|apply Xt|apply Xu)
 |((first|with_reducible refine Ym hr (by assumption) ?_ ?_|(with_reducible refine Yi hr ?_ ?_;rotate_left;intro p;rotate_right));(·simp only[go_sem,simprocAttr]);intro hp hn hd hr;(try have XR:=hd _ e39);(try simp only[go_sem,simprocAttr] at XR);(try have YJ:=hd _ Yz);(try simp only[go_sem,simprocAttr] at YJ);(try have Z5:=hd _ XaB);(try simp only[go_sem,simprocAttr] at Z5))
 |(refine Xp ?_ ?_;·first|assumption|omega)
 |refine db 14 1 hf 3 [(0,496,[]),(1,496,[]),(3,496,[]),(7,496,[]),(0,15,[]),(16,15,[]),(48,15,[]),(112,15,[]),(240,15,[]),(511,0,[]),(1023,0,[])] rfl rfl (by kernel_rfl) ?_ _
 |(refine Xn hr ?_;rintro rfl;with_reducible refine XM ?_)
 |exact Yw hr
 |fail)
@[reducible,instance] def QkP:=g3.1
@[reducible,instance] def Ql7:=g3.2.1
@[reducible,instance] def Qly:=g3.2.2.1
@[reducible,instance] def Qlz:=g3.2.2.2.1
@[reducible,instance] def QnU:=g3.2.2.2.2.1
@[reducible,instance] def QnV:=g3.2.2.2.2.2.1
@[reducible,instance] def QkG:=g3.2.2.2.2.2.2.1
@[reducible,instance] def Qkv:=g3.2.2.2.2.2.2.2.1
@[reducible,instance] def QkQ:=g3.2.2.2.2.2.2.2.2.1
@[reducible,instance] def Qkw:=g3.2.2.2.2.2.2.2.2.2.1
@[reducible,instance] def Qk7:=g3.2.2.2.2.2.2.2.2.2.2
instance Qkn:∀ N (a0:List Int),OK (QeV N a0) 164 [.isl 3 1 (a0.map e3)] [] (λ r=>.fsl 3 1 (r.map e3)) λ r=>[]:=by
 refine λ N a0=>⟨λ G hw r hr=>?_⟩
 rw[QeV] at hr
 obtain rfl:=WP hr
 obtain _|⟨x,l⟩:=a0
 refine YQ λ a cap=>?_
 obtain _|a:=a
 all_goals
  refine Yj (fn:=Tryz.f164) (body:=(Tryz.f164.body).get!) (rs:=[.tmp 2]) 1000 [320] 8 (by kernel_rfl) (by kernel_rfl) (by kernel_rfl) (by kernel_rfl) (by kernel_rfl) (by simp) λ C _ hG hwf=>?_;subst hG;have hw2:=hwf;simp only[WfL,Wf,WZ,and_true,W5,Xgv,Xl] at hw2;simp only[Tryz.f164,Option.get!]
  simp only[go_sem,simprocAttr]
  try refine ⟨by omega,?_⟩
  with_reducible refine XM ?_
  simp only[go_sem,simprocAttr]
instance QiA:∀ N (a0:List Wv),OK (Qak N a0) 161 [.isl 175 4 (a0.map XG)] [] (λ r=>.fsl 175 4 (r.map XG)) λ r=>[]:=by
 refine λ N a0=>⟨λ G hw r hr=>?_⟩
 rw[Qak] at hr
 obtain rfl:=WP hr
 obtain _|⟨x,l⟩:=a0
 refine YQ λ a cap=>?_
 obtain _|a:=a
 all_goals
  refine Yj (fn:=Tryz.f161) (body:=(Tryz.f161.body).get!) (rs:=[.tmp 2]) 1000 [320] 8 (by kernel_rfl) (by kernel_rfl) (by kernel_rfl) (by kernel_rfl) (by kernel_rfl) (by simp) λ C _ hG hwf=>?_;subst hG;have hw2:=hwf;simp only[WfL,Wf,WZ,and_true,W5,Xcl,Xl] at hw2;simp only[Tryz.f161,Option.get!]
  simp only[go_sem,simprocAttr]
  try refine ⟨by omega,?_⟩
  with_reducible refine XM ?_
  simp only[go_sem,simprocAttr]
instance Qh5:∀ N (a0:List Ub),OK (Qcy N a0) 165 [.isl 117 3 (a0.map Yz)] [] (λ r=>.fsl 117 3 (r.map Yz)) λ r=>[]:=by
 refine λ N a0=>⟨λ G hw r hr=>?_⟩
 rw[Qcy] at hr
 obtain rfl:=WP hr
 obtain _|⟨x,l⟩:=a0
 refine YQ λ a cap=>?_
 obtain _|a:=a
 all_goals
  refine Yj (fn:=Tryz.f165) (body:=(Tryz.f165.body).get!) (rs:=[.tmp 2]) 1000 [320] 8 (by kernel_rfl) (by kernel_rfl) (by kernel_rfl) (by kernel_rfl) (by kernel_rfl) (by simp) λ C _ hG hwf=>?_;subst hG;have hw2:=hwf;simp only[WfL,Wf,WZ,and_true,W5,Xcj,Xl] at hw2;simp only[Tryz.f165,Option.get!]
  simp only[go_sem,simprocAttr]
  try refine ⟨by omega,?_⟩
  with_reducible refine XM ?_
  simp only[go_sem,simprocAttr]
instance Qjj:∀ N (a0:List UN),OK (Qdj N a0) 74 [.isl 119 2 (a0.map Zc)] [] (λ r=>.fsl 119 2 (r.map Zc)) λ r=>[]:=by
 refine λ N a0=>⟨λ G hw r hr=>?_⟩
 rw[Qdj] at hr
 obtain rfl:=WP hr
 obtain _|⟨x,l⟩:=a0
 refine YQ λ a cap=>?_
 obtain _|a:=a
 all_goals
  refine Yj (fn:=Tryz.f74) (body:=(Tryz.f74.body).get!) (rs:=[.tmp 2]) 1000 [320] 8 (by kernel_rfl) (by kernel_rfl) (by kernel_rfl) (by kernel_rfl) (by kernel_rfl) (by simp) λ C _ hG hwf=>?_;subst hG;have hw2:=hwf;simp only[WfL,Wf,WZ,and_true,W5,Xck,Xl] at hw2;simp only[Tryz.f74,Option.get!]
  simp only[go_sem,simprocAttr]
  try refine ⟨by omega,?_⟩
  with_reducible refine XM ?_
  simp only[go_sem,simprocAttr]
end Go.Sx
