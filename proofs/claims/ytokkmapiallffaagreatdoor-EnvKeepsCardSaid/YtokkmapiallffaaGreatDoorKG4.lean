import Derived.Test.YtokkmapiallffaaGreatDoorKG1
import Derived.Test.YtokkmapiallffaaGreatDoorKG2
set_option linter.all false
namespace Go.Sx
open Go.Proofs Tryz
set_option maxRecDepth 10000
set_option maxHeartbeats 100000000
def Qgu{C:Cx}{N:Nat}{a0:Wu}{a1:Int}{β:Type}{k:Bool → Option β}{r:β}{dst:Option Nat}{st:St}{K:St → Prop}{wb w1 w3:Nat}(hw:GW C.G)(hr:bnd (QcX N a0 a1) k=some r)(p wp w4 w5:Nat)(hp:p=51840\/p=210816)(E0:st.s 51584=some (w1,.arr false 59 1 (a0.h.w.map e59) 0))(E1:st.s p=some (wp,.arr false 159 4 (a0.h.p.map YT) 0))(E2:st.s 52288=some (w3,.arr false 59 1 (a0.o.map e59) 0))(E3:st.s 52480=some (w4,.arr false 3 1 (a0.t.map e3) 0))(E4:st.s 52672=some (w5,.arr false 59 1 (a0.q.map e59) 0))(E5:st.s 51264=some (wb,.arr true 209 16 [[vi a0.h.c.W,vi a0.h.c.p,.osl 51584 w1 1 0 a0.h.w.length,.osl p wp 4 0 a0.h.p.length,vi a0.h.s,vi a0.h.b,.osl 52288 w3 1 0 a0.o.length,.osl 52480 w4 1 0 a0.t.length,.osl 52672 w5 1 0 a0.q.length,vi a0.d,vi a0.r.j,vi a0.r.K,vi a0.r.F,vi a0.r.E,vi a0.r.f,vi a0.r.y]] 0))(hK:∀y,k y=some r→∀s' kk,FwH s' wb w1 p wp w3 w4 w5 a0→K (nxS st (XH dst st.n) (vb y) (XjH st.s s') st.n kk))(t:Prf ([.ept 51264 wb 16 0 0,vi a1]:List D)):CallX prog C 219 [.ept 51264 wb 16 0 0,vi a1] dst st K t:=by
 refine Xbj hr λy hr hk2=>?_;have E:=And.intro E0 (And.intro E1 (And.intro E2 (And.intro E3 (And.intro E4 E5))));clear E0 E1 E2 E3 E4 E5;have hse:=@XgM _ hw;rcases hp with rfl|rfl<;>(refine CallX.inl (f:=219) 1600 (fn:=f219) (rs:=[.tmp 4]) (nt:=45) 1000 ae (λx=>?_) _;simp only[f219,Option.get!];rw[QcX]at hr;repeat' first
 |(refine El.el hr ?_;clear hr;intro hr)
 |(with_reducible intro h;refine Y5 hr h ?_;clear hr;intro hr)
 |with_reducible intro _
 |simp only[go_sem,simprocAttr,E,XT,hse]
 |(with_reducible first|apply XP|apply XO|apply YF|apply YN|apply YO)
 |((first|with_reducible refine Jh hr ah ?_ ?_|(with_reducible refine KO hr ?_ ?_;rotate_left;intro p;rotate_right));(·simp only[go_sem,simprocAttr,hse]);intro hp hn hd hr;(try have XT:=hd _ YT;simp only[go_sem,simprocAttr]at XT))
 |(refine YG ?_ ?_;.first|assumption|omega)
 |(refine CallX.inl (f:=221) 2400 (fn:=f221) (rs:=[.tmp 2]) (nt:=9) 1000 ae (λx=>?_) _;simp only[f221,Option.get!])
 |(with_reducible first|refine CallX.c ?_ _|refine OK.c hr hw ?_ (λy hr=>?_) _|refine OK.d hr hw ?_ (λy hr=>?_) _)
 |refine dp ?_
 |exact XaY hr
 |exact VG hr
 |(apply VH;assumption)
 |(refine Yq hr ?_;rintro rfl;(try simp only[go_sem,simprocAttr,E,XT,hse]);refine Xpf (K:=λs=>K (nxS _ _ _ s _ _)) (λh=>hK _ hk2 _ _ h) ?_ ?_;refine⟨?_,?_,?_,?_,?_,?_⟩;(iterate 6 (·exact zs));exact zl)
 |(with_reducible apply Xda;(·simp only[go_sem,simprocAttr,E,XT,hse];repeat' first|rfl|refine⟨?_,?_⟩);(·simp only[ZO,snap,go_sem,simprocAttr,E,XT,hse];repeat' first|rfl|refine⟨?_,?_⟩);(·simp only[go_sem,simprocAttr,E,XT,hse];first|done|omega|(simp;omega))))
instance QoY:∀N(a0:Int),O1 (QfQ N a0) 39 [vu a0] (λr=>.tup [Xmk r.1,vi r.2]):=by
 refineλN _=>rk f39 ?_<;>(rintro _ hw r hr C _ rfl hwf hf;have hgw:=hw.1;simp only[f39,Option.get!];(rw[QfQ]at hr);repeat' first
 |(refine El.el hr ?_;clear hr;intro hr)
 |(with_reducible intro h;refine Y5 hr h ?_;clear hr;intro hr)
 |with_reducible intro _
 |simp only[go_sem,simprocAttr,Xv6,Zq,hgw,Ws,WA,UF]
 |(with_reducible first|apply XP|apply XO|apply YF|apply YN|apply YO)
 |((first|with_reducible refine Jh hr ah ?_ ?_|(with_reducible refine KO hr ?_ ?_;rotate_left;intro p;rotate_right));(·simp only[go_sem,simprocAttr,hgw,Ws,WA,UF]);intro hp hn hd hr;(try have Zq:=hd _ e59;simp only[go_sem,simprocAttr]at Zq))
 |(refine YG ?_ ?_;.first|assumption|omega)
 |(with_reducible refine XjI hr ?_ ?_;(·simp only[go_sem]);intro p hp hn hd hr;(try have Zq:=hd _ e59;simp only[go_sem,simprocAttr]at Zq))
 |(with_reducible first|refine CallX.c ?_ _|refine OK.c hr hw ?_ (λy hr=>?_) _)
 |with_reducible refine O7 6 ?_ _
 |with_reducible refine LoopU.s 1000 ?_ _
 |refine dq 39 6 hf [(0,[],[384]),(1,[],[384]),(2,[],[384]),(3,[],[384]),(4,[],[384]),(5,[],[384]),(6,[],[384]),(7,[],[384]),(8,[],[384]),(9,[],[384]),(10,[],[384]),(11,[],[384]),(12,[],[384]),(13,[384],[]),(14,[384],[])] ?_
 |(refine Yq hr ?_;rintro rfl;with_reducible refine ZJ ?_)
 |exact XaY hr
 |exact VG hr
 |(apply VH;assumption))
end Go.Sx
