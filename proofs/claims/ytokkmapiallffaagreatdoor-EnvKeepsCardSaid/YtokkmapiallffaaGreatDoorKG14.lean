import Derived.Test.YtokkmapiallffaaGreatDoorKG12
set_option linter.all false
namespace Go.Sx
open Go.Proofs Tryz
set_option maxRecDepth 10000
set_option maxHeartbeats 100000000
abbrev Qjx:=λN a e f (c:Nat) Q n (st:St)=>∃g d,Iv (Qcr N a e f n g d) Q ((∃b,st.n=42/\r59 st 284160 b d/\st.t 0=s59 f.1/\ol st 1 284160 b 1 d.length/\st.t 2=s59 e/\st.t 8=vi g/\bx st 128 c 28 6 (e28 a))\/((st.n=42/\st.t 0=s59 f.1/\st.t 1=.nsl/\st.t 2=s59 e/\st.t 8=vi g/\bx st 128 c 28 6 (e28 a))/\d=[]))
abbrev Qjy:=λN e f a h (d:Nat) Q n (st:St)=>∃g c,Iv (Qcs N e f a h n g c) Q ((∃b,st.n=42/\r59 st 284160 b c/\st.t 0=s59 f.1/\ol st 1 284160 b 1 c.length/\st.t 2=s59 a/\st.t 8=vi g/\bx st 128 d 28 6 (e28 e)))
abbrev Qjz:=λN a e Q n (st:St)=>∃g h d,Iv (Qez N a e n g h d) Q ((∃b c,st.n=52/\r59 st 284160 b d/\pt st 2 128 c 6/\st.t 6=s59 e.1/\ol st 8 284160 b 1 d.length/\st.t 9=vb g/\st.t 10=vi h/\bx st 128 c 28 6 (e28 a))\/(∃c,(st.n=52/\pt st 2 128 c 6/\st.t 6=s59 e.1/\st.t 8=.nsl/\st.t 9=vb g/\st.t 10=vi h/\bx st 128 c 28 6 (e28 a))/\d=[]))
instance QpD:∀N(a0:Wh)(a1:List Int),O1 (QfY N a0 a1) 31 [c28 a0,s59 a1] (λr=>.tup [s59 r.1,vi r.2]):=by
 refineλN _ _=>rk f31 ?_<;>(rintro _ hw r hr C _ rfl hwf hf;have hse:=@XgM _ hw;simp only[f31,Option.get!];(rw[QfY]at hr);repeat' first
 |(refine El.el hr ?_;clear hr;intro hr)
 |(with_reducible intro h;refine Y5 hr h ?_;clear hr;intro hr)
 |with_reducible intro _
 |(refine Yq hr ?_;rintro rfl;have hr:=hk;clear hk)
 |simp only[go_sem,simprocAttr,E,Fq,Zq,hse]
 |(with_reducible first|apply XP|apply XO|apply YF|apply YN|apply YO)
 |((first|with_reducible refine Jh hr ah ?_ ?_|(with_reducible refine KO hr ?_ ?_;rotate_left;intro p;rotate_right));(·simp only[go_sem,simprocAttr,hse]);intro hp hn hd hr;(try have Zq:=hd _ e59;simp only[go_sem,simprocAttr]at Zq))
 |(refine YG ?_ ?_;.first|assumption|omega|(dsimp only at *;omega))
 |(refine CallX.inl (f:=88) 4400 (fn:=f88) (rs:=[.tmp 6,.tmp 7]) (nt:=42) 1000 ae (λx=>?_) _;simp only[f88,Option.get!])
 |(with_reducible first|refine CallX.c ?_ _|refine OK.c hr hw ?_ (λy hr=>?_) _|refine OK.d hr hw ?_ (λy hr=>?_) _)
 |((refine LoopG.v (id:=128) (v:=?_) ?_ ?_ _;rotate_left;.first|rfl|(simp only[go_sem,simprocAttr,E,Fq];rfl));intro w128 h128;with_reducible refine lp (Qjx N _ _ _ w128) hr N ?_ (λ_ p q=>⟨_,_,_,p,q,?_⟩) _;(all_goals (subst h128));clear hr;(try clear Fq);rintro n1 st ⟨_,_,_,hr,hk,(⟨_,Fq⟩|⟨Fq,z0⟩)⟩<;>(try subst z0)<;>(obtain _|n1:=n1<;>rw[Qcr]at hr))
 |refine⟨_,UQ _,_,_,_,hr,hk,?_⟩
 |((refine LoopG.v (id:=128) (v:=?_) ?_ ?_ _;rotate_left;.first|rfl|(simp only[go_sem,simprocAttr,E,Fq];rfl));intro w128 h128;with_reducible refine lp (Qjy N _ _ _ _ w128) hr N ?_ (λ_ p q=>⟨_,_,_,p,q,?_⟩) _;(all_goals (subst h128));clear hr;(try clear Fq);rintro n2 st ⟨_,_,_,hr,hk,⟨_,Fq⟩⟩<;>(obtain _|n2:=n2<;>rw[Qcs]at hr))
 |(with_reducible refine lp (Qjz N _ _) hr N ?_ (λ_ p q=>⟨_,_,_,_,p,q,?_⟩) _;clear hr;(try clear E);(try clear Fq);rintro n3 st ⟨_,_,_,_,hr,hk,(⟨_,_,E⟩|⟨_,E,z0⟩)⟩<;>(try subst z0)<;>(obtain _|n3:=n3<;>rw[Qez]at hr))
 |refine⟨_,UQ _,_,_,_,_,hr,hk,?_⟩
 |refine dqm 31 10 hf 8 [] ?_
 |(refine Yq hr ?_;rintro rfl;with_reducible refine ZJ ?_)
 |exact XaY hr
 |exact VG hr
 |(apply VH;assumption)
 |((first|refine Y5 (c:=true) hr rfl ?_|refine Y5 (c:=false) hr rfl ?_|refine Y5 hr ah ?_);intro hr))
end Go.Sx
