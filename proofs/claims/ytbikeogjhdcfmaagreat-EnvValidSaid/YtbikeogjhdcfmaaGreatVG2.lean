import Derived.Test.YtbikeogjhdcfmaaGreatVF
set_option linter.all false
namespace Go.Sx
open Go.Proofs
set_option maxRecDepth 10000
set_option maxHeartbeats 100000000
theorem g2:(∀ N (a0:Int),OK (Qhj N a0) 41 [.v (.int .i64 a0)] [] (λ r=>.tup [.isl 71 1 (r.1.map e71),.v (.int .i64 r.2)]) λ r=>[])/\(∀ N (a0:UU),OK (QfF N a0) 45 [.ept 1000000 0 2 0 0] [.arr true 66 2 [[.isl 3 1 (a0.L.map e3),.v (.int .i64 a0.at_)]] 0] (λ r=>.v (.bool r)) λ r=>[.arr true 66 2 [[.isl 3 1 (a0.L.map e3),.v (.int .i64 a0.at_)]] 0])/\(∀ N (a0:Wz),OK (QcI N a0) 185 [.agg (e82 a0)] [] (λ r=>.v (.bool r)) λ r=>[])/\(∀ N (a0:Int),OK (Qds N a0) 256 [.v (.int .u64 a0)] [] (λ r=>.tup [.v (.int .u64 r.1),.v (.bool r.2)]) λ r=>[])/\(∀ N (a0:Int),OK (Qac N a0) 123 [.v (.int .i64 a0)] [] (λ r=>.tup [.agg (e38 r.1),.v (.int .u64 r.2.1),.v (.int .i64 r.2.2)]) λ r=>[])/\(∀ N (a0:WG) (a1:Int) (a2:Ua),OK (Qgc N a0 a1 a2) 263 [.agg (e35 a0),.v (.int .i64 a1),.agg (e92 a2)] [] (λ r=>.agg (e35 r)) λ r=>[])/\(∀ N (a0:WM) (a1:Int) (a2:Int) (a3:Int),OK (QeL N a0 a1 a2 a3) 135 [.agg (e59 a0),.v (.int .u64 a1),.v (.int .i64 a2),.v (.int .u64 a3)] [] (λ r=>.agg (e59 r)) λ r=>[])/\(∀ N (a1:Int),OK (Qa5 N a1) 97 [.nsl,.v (.int .i64 a1)] [] (λ r=>.fsl 71 1 (r.map e71)) λ r=>[])/\(∀ N (a0:Wv) (a1:WQ),OK (Qfo N a0 a1) 236 [.agg (Xfy a0),.agg (e23 a1)] [] (λ r=>.v (.bool r)) λ r=>[])/\(∀ N (a0:Wv) (a1:Wv),OK (Qez N a0 a1) 239 [.agg (Xfy a0),.agg (Xfy a1)] [] (λ r=>.v (.bool r)) λ r=>[])/\(∀ N (a0:UJ),OK (Qd1 N a0) 93 [.agg (KK a0)] [] (λ r=>.v (.bool r)) λ r=>[])/\(∀ N (a0:UG) (a1:Int),OK (QeA N a0 a1) 144 [.agg (e77 a0),.ept 1000000 0 1 0 0] [.arr true 71 1 [[.v (.int .u64 a1)]] 0] (λ r=>.v (.bool r)) λ r=>[.arr true 71 1 [[.v (.int .u64 a1)]] 0]):=by
 refine ⟨λ N _=>rn Tryz.f41 [.tmp 2,.tmp 3] [] 12 (by kernel_rfl) ?_,λ N _=>rn Tryz.f45 [.tmp 2] [] 13 (by kernel_rfl) ?_,λ N _=>rn Tryz.f185 [.tmp 2] [] 40 (by kernel_rfl) ?_,λ N _=>rn Tryz.f256 [.tmp 2,.tmp 3] [] 14 (by kernel_rfl) ?_,λ N _=>rn Tryz.f123 [.cell 2 38,.tmp 3,.tmp 4] [] 7 (by kernel_rfl) ?_,λ N _ _ _=>rn Tryz.f263 [.cell 6 35] [] 18 (by kernel_rfl) ?_,λ N _ _ _ _=>rn Tryz.f135 [.cell 8 59] [] 38 (by kernel_rfl) ?_,λ N _=>rn Tryz.f97 [.tmp 4] [1408] 27 (by kernel_rfl) ?_,λ N _ _=>rn Tryz.f236 [.tmp 4] [] 8 (by kernel_rfl) ?_,λ N _ _=>rn Tryz.f239 [.tmp 4] [] 10 (by kernel_rfl) ?_,λ N _=>rn Tryz.f93 [.tmp 2] [] 7 (by kernel_rfl) ?_,λ N _ _=>rn Tryz.f144 [.tmp 3] [] 8 (by kernel_rfl) ?_⟩<;>(rintro _ hw r hr C _ rfl hwf hf;simp only[Tryz.f41,Tryz.f45,Tryz.f185,Tryz.f256,Tryz.f123,Tryz.f263,Tryz.f135,Tryz.f97,Tryz.f236,Tryz.f239,Tryz.f93,Tryz.f144,Option.get!];(first|rw[Qhj] at hr|rw[QfF] at hr|rw[QcI] at hr|rw[Qds] at hr|rw[Qac] at hr|rw[Qgc] at hr|rw[QeL] at hr|rw[Qa5] at hr|rw[Qfo] at hr|rw[Qez] at hr|rw[Qd1] at hr|rw[QeA] at hr);repeat' first
 |(refine El.el hr ?_;intro hr)
 |(with_reducible intro h;refine XB hr h ?_;intro hr)
 |with_reducible intro _
 |simp only[go_sem,simprocAttr,XU,Z8,ZY,Wy,WN,Uz]
 |(with_reducible first|apply Xk|apply Xj|apply Xp|apply Xr|apply Xs)
 |((first|with_reducible refine Yk hr (by assumption) ?_ ?_|(with_reducible refine Yf hr ?_ ?_;rotate_left;intro p;rotate_right));(·simp only[go_sem,simprocAttr,Wy,WN,Uz]);intro hp hn hd hr;(try have XU:=hd _ e71);(try simp only[go_sem,simprocAttr] at XU);(try have Z8:=hd _ e92);(try simp only[go_sem,simprocAttr] at Z8);(try have ZY:=hd _ Xat);(try simp only[go_sem,simprocAttr] at ZY))
 |(refine Xq ?_ ?_;·first|assumption|omega)
 |refine db 45 1 hf 3 [(0,496,[]),(1,496,[]),(3,496,[]),(7,496,[]),(0,15,[]),(16,15,[]),(48,15,[]),(112,15,[]),(240,15,[]),(511,0,[]),(1023,0,[])] rfl rfl (by kernel_rfl) ?_ _
 |(refine Xn hr ?_;rintro rfl;with_reducible refine XM ?_)
 |exact Yw hr
 |fail)
@[reducible,instance] def Qob:=g2.1
@[reducible,instance] def Qk4:=g2.2.1
@[reducible,instance] def Qml:=g2.2.2.1
@[reducible,instance] def QlN:=g2.2.2.2.1
@[reducible,instance] def QlO:=g2.2.2.2.2.1
@[reducible,instance] def Qoc:=g2.2.2.2.2.2.1
@[reducible,instance] def Qod:=g2.2.2.2.2.2.2.1
@[reducible,instance] def Qi7:=g2.2.2.2.2.2.2.2.1
@[reducible,instance] def QkV:=g2.2.2.2.2.2.2.2.2.1
@[reducible,instance] def QkK:=g2.2.2.2.2.2.2.2.2.2.1
@[reducible,instance] def Qk5:=g2.2.2.2.2.2.2.2.2.2.2.1
@[reducible,instance] def QkL:=g2.2.2.2.2.2.2.2.2.2.2.2
instance Qie:∀ N (a0:List U0),OK (Qcz N a0) 159 [.isl 90 3 (a0.map e90)] [] (λ r=>.fsl 90 3 (r.map e90)) λ r=>[]:=by
 refine λ N a0=>⟨λ G hw r hr=>?_⟩
 rw[Qcz] at hr
 obtain rfl:=WV hr
 obtain _|⟨x,l⟩:=a0
 refine YJ λ a cap=>?_
 obtain _|a:=a
 all_goals
  refine Yl (fn:=Tryz.f159) (body:=(Tryz.f159.body).get!) (rs:=[.tmp 2]) 1000 [320] 8 (by kernel_rfl) (by kernel_rfl) (by kernel_rfl) (by kernel_rfl) (by kernel_rfl) (by simp) λ C _ hG hwf=>?_;subst hG;have hw2:=hwf;simp only[WfL,Wf,W3,and_true,Ub,Xd1,Xl] at hw2;simp only[Tryz.f159,Option.get!]
  simp only[go_sem,simprocAttr]
  try refine ⟨by omega,?_⟩
  with_reducible refine XM ?_
  simp only[go_sem,simprocAttr]
instance Qjy:∀ N (a0:List UG),OK (Qdk N a0) 108 [.isl 77 2 (a0.map e77)] [] (λ r=>.fsl 77 2 (r.map e77)) λ r=>[]:=by
 refine λ N a0=>⟨λ G hw r hr=>?_⟩
 rw[Qdk] at hr
 obtain rfl:=WV hr
 obtain _|⟨x,l⟩:=a0
 refine YJ λ a cap=>?_
 obtain _|a:=a
 all_goals
  refine Yl (fn:=Tryz.f108) (body:=(Tryz.f108.body).get!) (rs:=[.tmp 2]) 1000 [320] 8 (by kernel_rfl) (by kernel_rfl) (by kernel_rfl) (by kernel_rfl) (by kernel_rfl) (by simp) λ C _ hG hwf=>?_;subst hG;have hw2:=hwf;simp only[WfL,Wf,W3,and_true,Ub,XdZ,Xl] at hw2;simp only[Tryz.f108,Option.get!]
  simp only[go_sem,simprocAttr]
  try refine ⟨by omega,?_⟩
  with_reducible refine XM ?_
  simp only[go_sem,simprocAttr]
instance QiJ:∀ N (a0:List Wv),OK (Qak N a0) 157 [.isl 108 4 (a0.map XF)] [] (λ r=>.fsl 108 4 (r.map XF)) λ r=>[]:=by
 refine λ N a0=>⟨λ G hw r hr=>?_⟩
 rw[Qak] at hr
 obtain rfl:=WV hr
 obtain _|⟨x,l⟩:=a0
 refine YJ λ a cap=>?_
 obtain _|a:=a
 all_goals
  refine Yl (fn:=Tryz.f157) (body:=(Tryz.f157.body).get!) (rs:=[.tmp 2]) 1000 [320] 8 (by kernel_rfl) (by kernel_rfl) (by kernel_rfl) (by kernel_rfl) (by kernel_rfl) (by simp) λ C _ hG hwf=>?_;subst hG;have hw2:=hwf;simp only[WfL,Wf,W3,and_true,Ub,Xb9,Xl] at hw2;simp only[Tryz.f157,Option.get!]
  simp only[go_sem,simprocAttr]
  try refine ⟨by omega,?_⟩
  with_reducible refine XM ?_
  simp only[go_sem,simprocAttr]
instance Qif:∀ N (a0:List Ua),OK (QcA N a0) 161 [.isl 92 3 (a0.map e92)] [] (λ r=>.fsl 92 3 (r.map e92)) λ r=>[]:=by
 refine λ N a0=>⟨λ G hw r hr=>?_⟩
 rw[QcA] at hr
 obtain rfl:=WV hr
 obtain _|⟨x,l⟩:=a0
 refine YJ λ a cap=>?_
 obtain _|a:=a
 all_goals
  refine Yl (fn:=Tryz.f161) (body:=(Tryz.f161.body).get!) (rs:=[.tmp 2]) 1000 [320] 8 (by kernel_rfl) (by kernel_rfl) (by kernel_rfl) (by kernel_rfl) (by kernel_rfl) (by simp) λ C _ hG hwf=>?_;subst hG;have hw2:=hwf;simp only[WfL,Wf,W3,and_true,Ub,Xd2,Xl] at hw2;simp only[Tryz.f161,Option.get!]
  simp only[go_sem,simprocAttr]
  try refine ⟨by omega,?_⟩
  with_reducible refine XM ?_
  simp only[go_sem,simprocAttr]
instance QkC:∀ N (a0:List Int),OK (QeY N a0) 160 [.isl 3 1 (a0.map e3)] [] (λ r=>.fsl 3 1 (r.map e3)) λ r=>[]:=by
 refine λ N a0=>⟨λ G hw r hr=>?_⟩
 rw[QeY] at hr
 obtain rfl:=WV hr
 obtain _|⟨x,l⟩:=a0
 refine YJ λ a cap=>?_
 obtain _|a:=a
 all_goals
  refine Yl (fn:=Tryz.f160) (body:=(Tryz.f160.body).get!) (rs:=[.tmp 2]) 1000 [320] 8 (by kernel_rfl) (by kernel_rfl) (by kernel_rfl) (by kernel_rfl) (by kernel_rfl) (by simp) λ C _ hG hwf=>?_;subst hG;have hw2:=hwf;simp only[WfL,Wf,W3,and_true,Ub,Xgu,Xl] at hw2;simp only[Tryz.f160,Option.get!]
  simp only[go_sem,simprocAttr]
  try refine ⟨by omega,?_⟩
  with_reducible refine XM ?_
  simp only[go_sem,simprocAttr]
end Go.Sx
