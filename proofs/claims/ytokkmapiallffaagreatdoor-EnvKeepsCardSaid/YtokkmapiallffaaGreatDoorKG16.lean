import Derived.Test.YtokkmapiallffaaGreatDoorKG13
import Derived.Test.YtokkmapiallffaaGreatDoorKG14
set_option linter.all false
namespace Go.Sx
open Go.Proofs Tryz
set_option maxRecDepth 10000
set_option maxHeartbeats 100000000
abbrev QiG:=λN Q n (st:St)=>∃d g c,Iv (Qcv N n d g c) Q ((∃b,st.n=42/\Xti st 512 b c/\ol st 0 512 b 4 c.length/\st.t 1=.clo (.func 153) [] []/\st.t 5=vi d/\st.t 6=vi g))
instance Qpi:∀N(a0:Wh),O1 (QdR N a0) 82 [c28 a0] (λr=>.tup [s59 r.1,vi r.2]):=by
 refineλN _=>rk f82 ?_<;>(rintro _ hw r hr C _ rfl hwf hf;simp only[f82,Option.get!];(rw[QdR]at hr);repeat' first
 |(refine El.el hr ?_;clear hr;intro hr)
 |(with_reducible intro h;refine Y5 hr h ?_;clear hr;intro hr)
 |with_reducible intro _
 |(refine Yq hr ?_;rintro rfl;have hr:=hk;clear hk)
 |simp only[go_sem,simprocAttr,E,Fq,JF,Ws,WA,UF]
 |(with_reducible first|apply XP|apply XO|apply YF)
 |((first|with_reducible refine Jh hr ah ?_ ?_|(with_reducible refine KO hr ?_ ?_;rotate_left;intro p;rotate_right));(·simp only[go_sem,simprocAttr,Ws,WA,UF]);intro hp hn hd hr;(try have JF:=hd _ VL;simp only[go_sem,simprocAttr]at JF))
 |(refine YG ?_ ?_;.first|assumption|omega|(dsimp only at *;omega))
 |(refine CallX.inl (f:=152) 4800 (fn:=f152) (rs:=[.tmp 4]) (nt:=42) 1000 ae (λx=>?_) _;simp only[f152,Option.get!])
 |(with_reducible first|refine CallX.c ?_ _|refine OK.c hr hw ?_ (λy hr=>?_) _)
 |(with_reducible refine lp (QiG N) hr N ?_ (λ_ p q=>⟨_,_,_,_,p,q,?_⟩) _;clear hr;(try clear Fq);rintro n1 st ⟨_,_,_,_,hr,hk,⟨_,Fq⟩⟩<;>(obtain _|n1:=n1<;>rw[Qcv]at hr))
 |refine⟨_,UQ _,_,_,_,_,hr,hk,?_⟩
 |(refine Yq hr ?_;rintro rfl;with_reducible refine ZJ ?_)
 |exact XaY hr
 |exact VG hr
 |(apply VH;assumption)
 |((first|refine Y5 (c:=true) hr rfl ?_|refine Y5 (c:=false) hr rfl ?_|refine Y5 hr ah ?_);intro hr)
 |omega)
abbrev g40:∀N(a0:Wh)(a1:List Int)(a2:Int),O1 (QfR N a0 a1 a2) 11 [c28 a0,s59 a1,vu a2] (λr=>vb r):=by refineλN _ _ _=>rk f11 ?_<;>(simp only[f11,Option.get!,QfR];exact zh)
abbrev QkL:=g40
attribute [instance] QkL
end Go.Sx
