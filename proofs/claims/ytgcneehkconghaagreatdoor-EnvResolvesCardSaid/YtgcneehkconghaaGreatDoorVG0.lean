import Derived.Test.YtgcneehkconghaaGreatDoorVF
set_option linter.all false
namespace Go.Sx
open Go.Proofs
set_option maxRecDepth 10000
set_option maxHeartbeats 100000000
abbrev Qiv:=λ N (a0:List Wv) (a2:Int) (Q:Int→Prop) n (st:St)=>∃ (v1:Int) (v2:Int) (ex:_),QcB N a0 a2 n v1 v2=some ex/\Q ex/\((st.n=37/\st.t 0=.isl 175 4 (a0.map XG)/\st.t 2=.v (.int .i64 a2)/\st.t 7=.v (.int .i64 v1)/\st.t 8=.v (.int .i64 v2)))
abbrev Qkb:=λ N (a0:List UN) (a1:Int) (Q:(Ex Int Unit)→Prop) n (st:St)=>∃ (v1:Int) (ex:_),QdN N a0 a1 n v1=some ex/\Q ex/\((st.n=20/\st.t 0=.isl 119 2 (a0.map Zc)/\st.t 1=.v (.int .u64 a1)/\st.t 5=.v (.int .i64 v1)))
abbrev Qiw:=λ N (a0:WI) (Q:(Ex Bool Unit)→Prop) n (st:St)=>∃ (v1:Int) (ex:_),QcD N a0 n v1=some ex/\Q ex/\((∃ w64,st.n=39/\st.t 1=.ept 64 w64 1 0 0/\st.t 3=.v (.int .i64 v1)/\st.s 64=some (w64,.arr true 35 1 [[.isl 117 3 (a0.Entries.map Yz)]] 0)))
abbrev Qi9:=λ N (a0:List Wv) (Q:(List Oh)→Prop) n (st:St)=>∃ (v1:Int) (v2:List Oh) (ex:_),QaS N a0 n v1 v2=some ex/\Q ex/\((∃ w3328,st.n=54/\st.s 3328=some (w3328,.arr false 385 2 (v2.map Xcx) 0)/\st.t 0=.isl 175 4 (a0.map XG)/\st.t 3=.osl 3328 w3328 2 0 v2.length/\st.t 4=.v (.int .i64 v1))\/((st.n=54/\st.t 0=.isl 175 4 (a0.map XG)/\st.t 3=.nsl/\st.t 4=.v (.int .i64 v1))/\v2=[]))
abbrev Qja:=λ N (a0:W0) (v4:List Wv) (p5:Wv) (v1:Int) (v2:Int) (Q:(List Int)→Prop) n (st:St)=>∃ (v7:Int) (v8:List Int) (ex:_),Qb0 N a0 v4 p5 v1 v2 n v7 v8=some ex/\Q ex/\((∃ w384 w832 w64 w128 w256,st.n=78/\st.s 384=some (w384,.arr false 175 4 ((v4.set v1.toNat (Wv.mk 0 0 0 0)).map XG) 0)/\st.s 832=some (w832,.arr false 39 1 (v8.map e39) 0)/\st.t 1=.ept 64 w64 16 0 0/\st.t 2=.ept 128 w128 16 0 0/\st.t 3=.v (.int .i64 v1)/\st.t 5=.v (.int .i64 v7)/\st.t 38=.ept 256 w256 4 0 1/\st.t 39=.v (.int .i64 p5.Space)/\st.t 40=.ept 64 w64 16 0 0/\st.t 41=.ept 64 w64 16 0 4/\st.t 42=.v (.int .i64 a0.Heap.Space)/\st.t 43=.v (.bool (p5.Space != a0.Heap.Space))/\st.s 64=some (w64,.arr true 232 16 [[.v (.int .i64 a0.Heap.Conf.PageWords),.v (.int .i64 a0.Heap.Conf.Pages),.osl 832 w832 1 0 v8.length,.osl 384 w384 4 0 v4.length,.v (.int .i64 a0.Heap.Space),.v (.int .i64 a0.Heap.Bump),.isl 39 1 (a0.Old.map e39),.isl 3 1 (a0.Taken.map e3),.isl 39 1 (a0.Queue.map e39),.v (.int .i64 a0.Scanned),.v (.int .i64 a0.Report.Copied),.v (.int .i64 a0.Report.Kept),.v (.int .i64 a0.Report.Filled),.v (.int .i64 (wI (v2 + 1))),.v (.int .i64 a0.Report.Cleared),.v (.int .i64 a0.Report.Steps)]] 0)/\st.s 128=some (w128,.arr true 232 16 [[.v (.int .i64 0),.v (.int .i64 0),.nsl,.nsl,.v (.int .i64 0),.v (.int .i64 0),.nsl,.nsl,.nsl,.v (.int .i64 0),.v (.int .i64 0),.v (.int .i64 0),.v (.int .i64 0),.v (.int .i64 0),.v (.int .i64 0),.v (.int .i64 0)]] 0)/\st.s 256=some (w256,.arr true 175 4 [XG p5] 0)))
abbrev Qjb:=λ N (a0:W0) (Q:(Int × List Int × List Wv)→Prop) n (st:St)=>∃ (v1:Int) (v2:Int) (v3:List Int) (v4:List Wv) (ex:_),Qbh N a0 n v1 v2 v3 v4=some ex/\Q ex/\((∃ w384 w832 w64 w128,st.n=78/\st.s 384=some (w384,.arr false 175 4 (v4.map XG) 0)/\st.s 832=some (w832,.arr false 39 1 (v3.map e39) 0)/\st.t 1=.ept 64 w64 16 0 0/\st.t 2=.ept 128 w128 16 0 0/\st.t 3=.v (.int .i64 v1)/\st.s 64=some (w64,.arr true 232 16 [[.v (.int .i64 a0.Heap.Conf.PageWords),.v (.int .i64 a0.Heap.Conf.Pages),.osl 832 w832 1 0 v3.length,.osl 384 w384 4 0 v4.length,.v (.int .i64 a0.Heap.Space),.v (.int .i64 a0.Heap.Bump),.isl 39 1 (a0.Old.map e39),.isl 3 1 (a0.Taken.map e3),.isl 39 1 (a0.Queue.map e39),.v (.int .i64 a0.Scanned),.v (.int .i64 a0.Report.Copied),.v (.int .i64 a0.Report.Kept),.v (.int .i64 a0.Report.Filled),.v (.int .i64 v2),.v (.int .i64 a0.Report.Cleared),.v (.int .i64 a0.Report.Steps)]] 0)/\st.s 128=some (w128,.arr true 232 16 [[.v (.int .i64 0),.v (.int .i64 0),.nsl,.nsl,.v (.int .i64 0),.v (.int .i64 0),.nsl,.nsl,.nsl,.v (.int .i64 0),.v (.int .i64 0),.v (.int .i64 0),.v (.int .i64 0),.v (.int .i64 0),.v (.int .i64 0),.v (.int .i64 0)]] 0)))
abbrev Qjc:=λ N (a0:WM) (a1:Int) (Q:(Ex Int Unit)→Prop) n (st:St)=>∃ (v1:Int) (ex:_),Qeb N a0 a1 n v1=some ex/\Q ex/\((∃ w128,st.n=22/\st.t 1=.v (.int .u64 a1)/\st.t 2=.ept 128 w128 10 0 0/\st.t 5=.v (.int .i64 v1)/\st.s 128=some (w128,.arr true 43 10 [e43 a0] 0)))
abbrev QhA:=λ N (a0:List UI) (Q:(List Int)→Prop) n (st:St)=>∃ (v1:Int) (v2:List Int) (ex:_),QcX N a0 n v1 v2=some ex/\Q ex/\((∃ w1024,st.n=19/\st.s 1024=some (w1024,.arr false 39 1 (v2.map e39) 0)/\st.t 3=.osl 1024 w1024 1 0 v2.length/\st.t 6=.isl 279 4 (a0.map KR)/\st.t 7=.v (.int .i64 ((a0.length:Nat):Int))/\st.t 8=.v (.int .i64 v1))\/((st.n=19/\st.t 3=.nsl/\st.t 6=.isl 279 4 (a0.map KR)/\st.t 7=.v (.int .i64 ((a0.length:Nat):Int))/\st.t 8=.v (.int .i64 v1))/\v2=[]))
abbrev Qjd:=λ N (a0:Wn) (Q:Int→Prop) n (st:St)=>∃ (v1:Int) (ex:_),Qec N a0 n v1=some ex/\Q ex/\((∃ w128,st.n=19/\st.t 1=.v (.int .i64 v1)/\st.t 2=.ept 128 w128 6 0 0/\st.s 128=some (w128,.arr true 27 6 [e27 a0] 0)))
abbrev QgN:=λ N (a0:Iz) (Q:(Ex Bool Unit)→Prop) n (st:St)=>∃ (v1:Int) (v2:Int) (ex:_),QaN N a0 n v1 v2=some ex/\Q ex/\((∃ w64,st.n=51/\st.t 1=.ept 64 w64 3 0 0/\st.t 3=.v (.int .i64 v1)/\st.t 8=.isl 115 3 (a0.Locals.Slots.map Zm)/\st.t 9=.v (.int .i64 ((a0.Locals.Slots.length:Nat):Int))/\st.t 10=.v (.int .i64 v2)/\st.s 64=some (w64,.arr true 180 3 [e32 a0.Locals] 0)))
abbrev Qje:=λ N (a0:W6) (Q:(List Int)→Prop) n (st:St)=>∃ (v1:Int) (v2:List Int) (ex:_),Qed N a0 n v1 v2=some ex/\Q ex/\((∃ w1088,st.n=20/\st.s 1088=some (w1088,.arr false 39 1 (v2.map e39) 0)/\st.t 3=.osl 1088 w1088 1 0 v2.length/\st.t 7=.isl 119 2 (a0.Pins.map Zc)/\st.t 8=.v (.int .i64 ((a0.Pins.length:Nat):Int))/\st.t 9=.v (.int .i64 v1))\/((st.n=20/\st.t 3=.nsl/\st.t 7=.isl 119 2 (a0.Pins.map Zc)/\st.t 8=.v (.int .i64 ((a0.Pins.length:Nat):Int))/\st.t 9=.v (.int .i64 v1))/\v2=[]))
abbrev QjM:=λ N (a0:List Wv) (Q:(List Oh)→Prop) n (st:St)=>∃ (v1:Int) (v2:List Oh) (ex:_),QbS N a0 n v1 v2=some ex/\Q ex/\((∃ w1344,st.n=54/\st.s 1344=some (w1344,.arr false 385 2 (v2.map Xcx) 0)/\st.t 3=.osl 1344 w1344 2 0 v2.length/\st.t 7=.isl 175 4 (a0.map XG)/\st.t 8=.v (.int .i64 ((a0.length:Nat):Int))/\st.t 9=.v (.int .i64 v1))\/((st.n=54/\st.t 3=.nsl/\st.t 7=.isl 175 4 (a0.map XG)/\st.t 8=.v (.int .i64 ((a0.length:Nat):Int))/\st.t 9=.v (.int .i64 v1))/\v2=[]))
theorem g5:(∀ N (a0:List Wv) (a1:Int) (a2:Int),OK (Qeq N a0 a1 a2) 269 [.isl 175 4 (a0.map XG),.v (.int .i64 a1),.v (.int .i64 a2)] [] (λ r=>.v (.int .i64 r)) λ r=>[])/\(∀ N (a0:List UN) (a1:Int),OK (QeM N a0 a1) 143 [.isl 119 2 (a0.map Zc),.v (.int .u64 a1)] [] (λ r=>.v (.int .i64 r)) λ r=>[])/\(∀ N (a0:WI),OK (QbX N a0) 61 [.agg (e35 a0)] [] (λ r=>.v (.bool r)) λ r=>[])/\(∀ N (a0:List Wv),OK (QfA N a0) 372 [.isl 175 4 (a0.map XG)] [] (λ r=>.isl 385 2 (r.map Xcx)) λ r=>[])/\(∀ N (a0:W0),OK (QdH N a0) 186 [.agg (KC a0)] [] (λ r=>.agg (KC r)) λ r=>[])/\(∀ N (a0:WM) (a1:Int),OK (QeR N a0 a1) 191 [.agg (e43 a0),.v (.int .u64 a1)] [] (λ r=>.v (.int .i64 r)) λ r=>[])/\(∀ N (a0:List UI),OK (Qb9 N a0) 224 [.isl 279 4 (a0.map KR)] [] (λ r=>.isl 39 1 (r.map e39)) λ r=>[])/\(∀ N (a0:Wn) (a1:Int),OK (Qge N a0 a1) 363 [.agg (e27 a0),.v (.int .i64 a1)] [] (λ r=>.v (.int .i64 r)) λ r=>[])/\(∀ N (a0:Iz),OK (QcU N a0) 128 [.agg (Xla a0)] [] (λ r=>.v (.bool r)) λ r=>[])/\(∀ N (a0:W6),OK (QgM N a0) 139 [.agg (e38 a0)] [] (λ r=>.isl 39 1 (r.map e39)) λ r=>[])/\(∀ N (a0:List Wv),OK (QgC N a0) 344 [.isl 175 4 (a0.map XG)] [] (λ r=>.isl 385 2 (r.map Xcx)) λ r=>[]):=by
 refine ⟨λ N _ _ _=>rn Tryz.f269 [.tmp 6] [] 37 (by kernel_rfl) ?_,λ N _ _=>rn Tryz.f143 [.tmp 4] [] 20 (by kernel_rfl) ?_,λ N _=>rn Tryz.f61 [.tmp 2] [] 39 (by kernel_rfl) ?_,λ N _=>rn Tryz.f372 [.tmp 2] [] 54 (by kernel_rfl) ?_,λ N _=>rn Tryz.f186 [.cell 2 232] [] 78 (by kernel_rfl) ?_,λ N _ _=>rn Tryz.f191 [.tmp 4] [] 22 (by kernel_rfl) ?_,λ N _=>rn Tryz.f224 [.tmp 2] [] 19 (by kernel_rfl) ?_,λ N _ _=>rn Tryz.f363 [.tmp 4] [] 19 (by kernel_rfl) ?_,λ N _=>rn Tryz.f128 [.tmp 2] [] 51 (by kernel_rfl) ?_,λ N _=>rn Tryz.f139 [.tmp 2] [] 20 (by kernel_rfl) ?_,λ N _=>rn Tryz.f344 [.tmp 2] [] 54 (by kernel_rfl) ?_⟩<;>(rintro _ hw r hr C _ rfl hwf hf;simp only[Tryz.f269,Tryz.f143,Tryz.f61,Tryz.f372,Tryz.f186,Tryz.f191,Tryz.f224,Tryz.f363,Tryz.f128,Tryz.f139,Tryz.f344,Option.get!];(first|rw[Qeq] at hr|rw[QeM] at hr|rw[QbX] at hr|rw[QfA] at hr|rw[QdH] at hr|rw[QeR] at hr|rw[Qb9] at hr|rw[Qge] at hr|rw[QcU] at hr|rw[QgM] at hr|rw[QgC] at hr);repeat' first
 |(refine El.el hr ?_;intro hr)
 |(with_reducible intro h;refine XA hr h ?_;intro hr)
 |with_reducible intro _
 |(refine Xn hr ?_;rintro rfl;have hr:=hk;clear hk)
 |simp only[go_sem,simprocAttr,Xq3,E,hl3,XR,Yk,YJ,Zq,XK,Kb,V9,Xaa]
 |(with_reducible first|apply Xk|apply Xj|apply Xo|apply Xt|apply Xu)
 |((first|with_reducible refine Ym hr (by assumption) ?_ ?_|(with_reducible refine Yi hr ?_ ?_;rotate_left;intro p;rotate_right));(·simp only[go_sem,simprocAttr]);intro hp hn hd hr;(try have hl3:=hd _ e3);(try simp only[go_sem,simprocAttr] at hl3);(try have XR:=hd _ e39);(try simp only[go_sem,simprocAttr] at XR);(try have Yk:=hd _ Zm);(try simp only[go_sem,simprocAttr] at Yk);(try have YJ:=hd _ Yz);(try simp only[go_sem,simprocAttr] at YJ);(try have Zq:=hd _ Zc);(try simp only[go_sem,simprocAttr] at Zq);(try have XK:=hd _ XG);(try simp only[go_sem,simprocAttr] at XK);(try have Kb:=hd _ Xcw);(try simp only[go_sem,simprocAttr] at Kb);(try have V9:=hd _ KR);(try simp only[go_sem,simprocAttr] at V9);(try have Xaa:=hd _ Xcx);(try simp only[go_sem,simprocAttr] at Xaa))
 |(refine Xp ?_ ?_;·first|assumption|omega)
 |(with_reducible refine Xf (I:=Qiv N _ _) hr 1000 N (λ ex hq hk=>⟨_,_,ex,hq,hk,?_⟩) ?_ _;rotate_left;clear hr;(try clear E);rintro n1 st ⟨v1,v2,ex,hr,hk,E⟩<;>(obtain _|n1:=n1<;>rw[QcB] at hr))
 |refine ⟨_,WD _,_,_,_,hr,hk,?_⟩
 |(with_reducible refine Xf (I:=Qkb N _ _) hr 1000 N (λ ex hq hk=>⟨_,ex,hq,hk,?_⟩) ?_ _;rotate_left;clear hr;(try clear E);rintro n1 st ⟨v1,ex,hr,hk,E⟩<;>(obtain _|n1:=n1<;>rw[QdN] at hr))
 |refine ⟨_,WD _,_,_,hr,hk,?_⟩
 |(with_reducible refine Xf (I:=Qiw N _) hr 1000 N (λ ex hq hk=>⟨_,ex,hq,hk,?_⟩) ?_ _;rotate_left;clear hr;(try clear E);rintro n1 st ⟨v1,ex,hr,hk,⟨_,E⟩⟩<;>(obtain _|n1:=n1<;>rw[QcD] at hr))
 |(with_reducible refine Xf (I:=Qi9 N _) hr 1000 N (λ ex hq hk=>⟨_,_,ex,hq,hk,?_⟩) ?_ _;rotate_left;clear hr;(try clear E);rintro n1 st ⟨v1,v2,ex,hr,hk,(⟨_,E⟩|⟨E,z0⟩)⟩<;>(try subst z0)<;>(obtain _|n1:=n1<;>rw[QaS] at hr))
 |(with_reducible refine Xf (I:=Qja N _ _ _ _ _) hr 1000 N (λ ex hq hk=>⟨_,_,ex,hq,hk,?_⟩) ?_ _;rotate_left;clear hr;(try clear E);rintro n1 st ⟨v7,v8,ex,hr,hk,⟨_,_,_,_,_,E⟩⟩<;>(obtain _|n1:=n1<;>rw[Qb0] at hr))
 |(with_reducible refine Xf (I:=Qjb N _) hr 1000 N (λ ex hq hk=>⟨_,_,_,_,ex,hq,hk,?_⟩) ?_ _;rotate_left;clear hr;(try clear E);rintro n2 st ⟨v1,v2,v3,v4,ex,hr,hk,⟨_,_,_,_,E⟩⟩<;>(obtain _|n2:=n2<;>rw[Qbh] at hr))
 |refine ⟨_,WD _,_,_,_,_,_,hr,hk,?_⟩
 |(with_reducible refine Xf (I:=Qjc N _ _) hr 1000 N (λ ex hq hk=>⟨_,ex,hq,hk,?_⟩) ?_ _;rotate_left;clear hr;(try clear E);rintro n1 st ⟨v1,ex,hr,hk,⟨_,E⟩⟩<;>(obtain _|n1:=n1<;>rw[Qeb] at hr))
 |(with_reducible refine Xf (I:=QhA N _) hr 1000 N (λ ex hq hk=>⟨_,_,ex,hq,hk,?_⟩) ?_ _;rotate_left;clear hr;(try clear E);rintro n1 st ⟨v1,v2,ex,hr,hk,(⟨_,E⟩|⟨E,z0⟩)⟩<;>(try subst z0)<;>(obtain _|n1:=n1<;>rw[QcX] at hr))
 |(with_reducible refine Xf (I:=Qjd N _) hr 1000 N (λ ex hq hk=>⟨_,ex,hq,hk,?_⟩) ?_ _;rotate_left;clear hr;(try clear E);rintro n1 st ⟨v1,ex,hr,hk,⟨_,E⟩⟩<;>(obtain _|n1:=n1<;>rw[Qec] at hr))
 |(with_reducible refine Xf (I:=QgN N _) hr 1000 N (λ ex hq hk=>⟨_,_,ex,hq,hk,?_⟩) ?_ _;rotate_left;clear hr;(try clear E);rintro n1 st ⟨v1,v2,ex,hr,hk,⟨_,E⟩⟩<;>(obtain _|n1:=n1<;>rw[QaN] at hr))
 |(with_reducible refine Xf (I:=Qje N _) hr 1000 N (λ ex hq hk=>⟨_,_,ex,hq,hk,?_⟩) ?_ _;rotate_left;clear hr;(try clear E);rintro n1 st ⟨v1,v2,ex,hr,hk,(⟨_,E⟩|⟨E,z0⟩)⟩<;>(try subst z0)<;>(obtain _|n1:=n1<;>rw[Qed] at hr))
 |(with_reducible refine Xf (I:=QjM N _) hr 1000 N (λ ex hq hk=>⟨_,_,ex,hq,hk,?_⟩) ?_ _;rotate_left;clear hr;(try clear E);rintro n1 st ⟨v1,v2,ex,hr,hk,(⟨_,E⟩|⟨E,z0⟩)⟩<;>(try subst z0)<;>(obtain _|n1:=n1<;>rw[QbS] at hr))
 |refine db 372 7 hf 23 [(0,0,[]),(1,0,[]),(3,0,[]),(7,12230,[]),(7,12225,[]),(23,12225,[]),(63,12224,[]),(127,12224,[]),(255,12224,[]),(7,8639,[]),(7,8319,[]),(1031,8319,[]),(3591,8255,[]),(7687,8255,[]),(15879,8255,[]),(32767,8192,[]),(7,8191,[]),(131071,0,[]),(262143,0,[])] rfl rfl (by kernel_rfl) ?_ _
 |refine db 344 8 hf 30 [(0,0,[]),(1,0,[]),(3,0,[]),(7,3042,[]),(7,3041,[]),(31,3040,[]),(63,3040,[]),(127,3040,[]),(7,2143,[]),(7,2111,[]),(775,2079,[]),(1799,2079,[]),(3847,2079,[]),(8191,2048,[]),(7,2047,[]),(32767,0,[]),(65535,0,[]),(131071,0,[])] rfl rfl (by kernel_rfl) ?_ _
 |(refine Xn hr ?_;rintro rfl;with_reducible refine XM ?_)
 |exact Yw hr
 |((first|refine XA (c:=true) hr rfl ?_|refine XA (c:=false) hr rfl ?_|refine XA hr (by assumption) ?_);intro hr)
 |fail)
@[reducible,instance] def Ql0:=g5.1
@[reducible,instance] def Qoo:=g5.2.1
@[reducible,instance] def Ql1:=g5.2.2.1
@[reducible,instance] def QmU:=g5.2.2.2.1
@[reducible,instance] def QmV:=g5.2.2.2.2.1
@[reducible,instance] def QmW:=g5.2.2.2.2.2.1
@[reducible,instance] def QkM:=g5.2.2.2.2.2.2.1
@[reducible,instance] def QmX:=g5.2.2.2.2.2.2.2.1
@[reducible,instance] def Qkm:=g5.2.2.2.2.2.2.2.2.1
@[reducible,instance] def QmY:=g5.2.2.2.2.2.2.2.2.2.1
@[reducible,instance] def QnP:=g5.2.2.2.2.2.2.2.2.2.2
instance QjN:∀ N (a0:List Int),OK (Qay N a0) 75 [.isl 39 1 (a0.map e39)] [] (λ r=>.fsl 39 1 (r.map e39)) λ r=>[]:=by
 refine λ N a0=>⟨λ G hw r hr=>?_⟩
 rw[Qay] at hr
 obtain rfl:=WP hr
 obtain _|⟨x,l⟩:=a0
 refine YQ λ a cap=>?_
 obtain _|a:=a
 all_goals
  refine Yj (fn:=Tryz.f75) (body:=(Tryz.f75.body).get!) (rs:=[.tmp 2]) 1000 [320] 8 (by kernel_rfl) (by kernel_rfl) (by kernel_rfl) (by kernel_rfl) (by kernel_rfl) (by simp) λ C _ hG hwf=>?_;subst hG;have hw2:=hwf;simp only[WfL,Wf,WZ,and_true,W5,Xd5,Xl] at hw2;simp only[Tryz.f75,Option.get!]
  simp only[go_sem,simprocAttr]
  try refine ⟨by omega,?_⟩
  with_reducible refine XM ?_
  simp only[go_sem,simprocAttr]
instance Qix:∀ N (a0:List UX),OK (QcV N a0) 162 [.isl 115 3 (a0.map Zm)] [] (λ r=>.fsl 115 3 (r.map Zm)) λ r=>[]:=by
 refine λ N a0=>⟨λ G hw r hr=>?_⟩
 rw[QcV] at hr
 obtain rfl:=WP hr
 obtain _|⟨x,l⟩:=a0
 refine YQ λ a cap=>?_
 obtain _|a:=a
 all_goals
  refine Yj (fn:=Tryz.f162) (body:=(Tryz.f162.body).get!) (rs:=[.tmp 2]) 1000 [320] 8 (by kernel_rfl) (by kernel_rfl) (by kernel_rfl) (by kernel_rfl) (by kernel_rfl) (by simp) λ C _ hG hwf=>?_;subst hG;have hw2:=hwf;simp only[WfL,Wf,WZ,and_true,W5,Xci,Xl] at hw2;simp only[Tryz.f162,Option.get!]
  simp only[go_sem,simprocAttr]
  try refine ⟨by omega,?_⟩
  with_reducible refine XM ?_
  simp only[go_sem,simprocAttr]
instance Qh3:∀ N (a0:List U1),OK (Qcx N a0) 163 [.isl 98 3 (a0.map e98)] [] (λ r=>.fsl 98 3 (r.map e98)) λ r=>[]:=by
 refine λ N a0=>⟨λ G hw r hr=>?_⟩
 rw[Qcx] at hr
 obtain rfl:=WP hr
 obtain _|⟨x,l⟩:=a0
 refine YQ λ a cap=>?_
 obtain _|a:=a
 all_goals
  refine Yj (fn:=Tryz.f163) (body:=(Tryz.f163.body).get!) (rs:=[.tmp 2]) 1000 [320] 8 (by kernel_rfl) (by kernel_rfl) (by kernel_rfl) (by kernel_rfl) (by kernel_rfl) (by simp) λ C _ hG hwf=>?_;subst hG;have hw2:=hwf;simp only[WfL,Wf,WZ,and_true,W5,Xd6,Xl] at hw2;simp only[Tryz.f163,Option.get!]
  simp only[go_sem,simprocAttr]
  try refine ⟨by omega,?_⟩
  with_reducible refine XM ?_
  simp only[go_sem,simprocAttr]
end Go.Sx
