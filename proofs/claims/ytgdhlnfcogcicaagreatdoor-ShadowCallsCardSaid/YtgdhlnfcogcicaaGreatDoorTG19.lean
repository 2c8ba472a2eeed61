import Derived.Test.YtgdhlnfcogcicaaGreatDoorTF
import Derived.Test.YtgdhlnfcogcicaaGreatDoorTG15
import Derived.Test.YtgdhlnfcogcicaaGreatDoorTG18
set_option linter.all false
namespace Go.Sx
open Go.Proofs
set_option maxRecDepth 10000
set_option maxHeartbeats 100000000
abbrev Qia:=λ N (a0:Wz) (y1:List Int × Int) (Q:(List Int)→Prop) n (st:St)=>∃ (v2:Int) (v3:List Int) (ex:_),QaQ N a0 y1 n v2 v3=some ex/\Q ex/\((∃ w2496 w64,st.n=42/\st.s 2496=some (w2496,.arr false 37 1 (v3.map e37) 0)/\st.t 1=.ept 64 w64 6 0 0/\st.t 4=.isl 37 1 (y1.1.map e37)/\st.t 5=.v (.int .i64 y1.2)/\st.t 6=.osl 2496 w2496 1 0 v3.length/\st.t 7=.v (.int .i64 v2)/\st.s 64=some (w64,.arr true 42 6 [e42 a0] 0))\/(∃ w64,(st.n=42/\st.t 1=.ept 64 w64 6 0 0/\st.t 4=.isl 37 1 (y1.1.map e37)/\st.t 5=.v (.int .i64 y1.2)/\st.t 6=.nsl/\st.t 7=.v (.int .i64 v2)/\st.s 64=some (w64,.arr true 42 6 [e42 a0] 0))/\v3=[]))
instance QlZ:∀ N (a0:Wz),OK (Qbk N a0) 241 [.agg (e42 a0)] [] (λ r=>.tup [.isl 37 1 (r.1.map e37),.v (.int .i64 r.2)]) λ r=>[]:=by
 refine λ N _=>rn Tryz.f241 [.tmp 2,.tmp 3] [] 42 (by kernel_rfl) ?_<;>(rintro _ hw r hr C _ rfl hwf hf;simp only[Tryz.f241,Option.get!];(rw[Qbk] at hr);repeat' first
 |(refine El.el hr ?_;intro hr)
 |(with_reducible intro h;refine Xz hr h ?_;intro hr)
 |with_reducible intro _
 |(refine Xq hr ?_;rintro rfl;have hr:=hk;clear hk)
 |simp only[go_sem,simprocAttr,E,XQ]
 |(with_reducible first|apply Xg|apply Xf|apply Xs|apply Xx|apply Xy)
 |((first|with_reducible refine Ye hr (by assumption) ?_ ?_|(with_reducible refine Yd hr ?_ ?_;rotate_left;intro p;rotate_right));(·simp only[go_sem,simprocAttr]);intro hp hn hd hr;(try have XQ:=hd _ e37);(try simp only[go_sem,simprocAttr] at XQ))
 |(refine Xl ?_ ?_;·first|assumption|omega)
 |(with_reducible first|refine CallX.c ?_ _|refine OK.c hr hw ?_ (λ y hr=>?_) _|refine Oy hr hw ?_ (λ y hr=>?_) _)
 |(with_reducible refine Xj (I:=Qia N _ _) hr 1000 N (λ ex hq hk=>⟨_,_,ex,hq,hk,?_⟩) ?_ _;rotate_left;clear hr;(try clear E);rintro n1 st ⟨v2,v3,ex,hr,hk,(⟨_,_,E⟩|⟨_,E,z0⟩)⟩<;>(try subst z0)<;>(obtain _|n1:=n1<;>rw[QaQ] at hr))
 |refine ⟨_,WJ _,_,_,_,hr,hk,?_⟩
 |refine db 241 6 hf 8 [(0,491521,[[],[512]]),(0,81921,[[],[512]]),(0,49153,[[],[512]]),(6,16385,[[],[512]]),(14,16385,[[],[512]]),(31,1,[[],[512]]),(63,1,[[],[512]]),(127,2097153,[[],[512]]),(127,1048577,[[],[512]]),(0,4186112,[[512],[]]),(767,2097152,[[512],[]]),(2047,0,[])] rfl rfl (by kernel_rfl) ?_ _
 |(refine Xq hr ?_;rintro rfl;with_reducible refine XG ?_)
 |exact Yo hr
 |((first|refine Xz (c:=true) hr rfl ?_|refine Xz (c:=false) hr rfl ?_|refine Xz hr (by assumption) ?_);intro hr)
 |fail)
end Go.Sx
