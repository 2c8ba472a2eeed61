import Derived.Test.YtokkmapiallffaaGreatDoorKG12
set_option linter.all false
namespace Go.Sx
open Go.Proofs Tryz
set_option maxRecDepth 10000
set_option maxHeartbeats 100000000
instance QpV:∀N(a0:WO)(a1:Int)(a2:Int)(a3:Int)(a4:Int)(a5:OB),O1 (QfA N a0 a1 a2 a3 a4 a5) 53 [c42 a0,vi a1,vu a2,vu a3,vu a4,Xte a5] (λr=>.tup [c42 r.1,vu r.2.1,vi r.2.2]):=by
 refineλN _ _ _ _ _ _=>rk f53 ?_<;>(rintro _ hw r hr C _ rfl hwf hf;have hse:=@XgM _ hw;simp only[f53,Option.get!];(rw[QfA]at hr);repeat' first
 |(refine El.el hr ?_;clear hr;intro hr)
 |(with_reducible intro h;refine Y5 hr h ?_;clear hr;intro hr)
 |with_reducible intro _
 |simp only[go_sem,simprocAttr,Zq,JE,hse]
 |(with_reducible first|apply XP|apply XO|apply YF|apply YN|apply YO)
 |((first|with_reducible refine Jh hr ah ?_ ?_|(with_reducible refine KO hr ?_ ?_;rotate_left;intro p;rotate_right));(·simp only[go_sem,simprocAttr,hse]);intro hp hn hd hr;(try have Zq:=hd _ e59;simp only[go_sem,simprocAttr]at Zq);(try have JE:=hd _ XcJ;simp only[go_sem,simprocAttr]at JE))
 |(refine YG ?_ ?_;.first|assumption|omega)
 |(with_reducible first|refine CallX.c ?_ _|refine OK.c hr hw ?_ (λy hr=>?_) _|refine OK.d hr hw ?_ (λy hr=>?_) _)
 |refine dq 53 16 hf [(0,[4864],[5312,5440]),(1,[],[4864,5312,5440]),(2,[],[4864,5312,5440]),(3,[4864],[5312,5440]),(4,[],[4864,5312]),(5,[],[4864]),(6,[],[4864]),(7,[5312],[4864]),(8,[],[4864]),(9,[5312,5440],[4864]),(10,[4864],[]),(12,[384],[])] ?_
 |refine dq 53 27 hf [(14,[],[384]),(15,[384],[])] ?_
 |(refine Yq hr ?_;rintro rfl;with_reducible refine ZJ ?_)
 |exact XaY hr
 |exact VG hr
 |(apply VH;assumption))
abbrev QhW:=λN e f a h j Q n (st:St)=>∃i,Iv (Qax N e f a h j n i) Q ((∃b g c d,st.n=89/\r59 st 2624 b a.1/\pt st 1 64 g 6/\pt st 2 128 c 3/\st.t 3=s59 f.1/\st.t 5=vi h/\pt st 6 384 d 3/\ol st 8 2624 b 1 a.1.length/\st.t 10=vi i/\bx st 64 g 28 6 (e28 e)/\bx st 128 c 358 3 [vi 0,vi 0,vu 0]/\bx st 384 d 98 3 (e98 j.1)))
abbrev QhX:=λN a e Q n (st:St)=>∃d,Iv (Qbv N a e n d) Q ((∃c b,st.n=89/\pt st 1 64 c 6/\pt st 2 128 b 3/\st.t 3=s59 e.1/\st.t 5=vi d/\bx st 64 c 28 6 (e28 a)/\bx st 128 b 358 3 [vi 0,vi 0,vu 0]))
abbrev Qmp:=λN a Q n (st:St)=>∃g d,Iv (QfW N a n g d) Q ((∃b c,st.n=31/\Xti st 1792 b d/\pt st 1 64 c 6/\ol st 4 1792 b 4 d.length/\st.t 13=vi a.p.length/\st.t 14=vi g/\bx st 64 c 28 6 (e28 a))\/(∃c,(st.n=31/\pt st 1 64 c 6/\st.t 4=.nsl/\st.t 13=vi a.p.length/\st.t 14=vi g/\bx st 64 c 28 6 (e28 a))/\d=[]))
def g38.sp{p:Prop}(h:p:=by first|((first|((with_reducible refine lp (QhW N _ _ _ _ _) hr N ?_ (λ_ p q=>⟨_,_,p,q,?_⟩) _);have lq:=@Qax.eq_2;exact zr)|((with_reducible refine lp (QhX N _ _) hr N ?_ (λ_ p q=>⟨_,_,p,q,?_⟩) _);have lq:=@Qbv.eq_2;exact zr)|((with_reducible refine lp (Qmp N _) hr N ?_ (λ_ p q=>⟨_,_,_,p,q,?_⟩) _);have lq:=@QfW.eq_2;exact zr)|refine dq 302 5 hf [(0,[],[384]),(1,[],[384]),(2,[],[384]),(3,[],[384]),(4,[],[384]),(5,[],[384]),(6,[],[384]),(7,[],[384]),(8,[],[384]),(9,[384],[]),(10,[384],[])] ?_|refine dq 302 6 hf [(5,[2624],[])] ?_)<;>exact zz)|fail):p:=h
def g38.g:(∀N(a0:Wh),O1 (Qdw N a0) 302 [c28 a0] (λr=>Xrz r))/\(∀N(a0:Wh),O1 (Qht N a0) 150 [c28 a0] (λr=>.tup [.fsl 242 4 (r.1.map VL),vi r.2])):=by refine⟨λN _=>rk f302 ?_,λN _=>rq f150 [1792] ?_⟩<;>(simp only[f302,f150,Option.get!,Qdw,Qht];exact zh)
abbrev Qjv:=g38.g.1
abbrev Qom:=g38.g.2
attribute [instance] Qjv Qom
def g37:(∀N(a0:Wh)(a1:Int),O1 (QdA N a0 a1) 260 [c28 a0,vu a1] (λr=>vb r))/\(∀N(a0:Wh)(a1:Int),O1 (Qe1 N a0 a1) 135 [c28 a0,vi a1] (λr=>.tup [s59 r.1,vi r.2])):=by refine⟨λN _ _=>rk f260 ?_,λN _ _=>rk f135 ?_⟩<;>(simp only[f260,f135,Option.get!,QdA,Qe1];exact zh)
abbrev Qjw:=g37.1
abbrev Qn9:=g37.2
attribute [instance] Qjw Qn9
end Go.Sx
