import Derived.Test.YtgbmffljpneflaaGreatDoorSG0
import Derived.Test.YtgbmffljpneflaaGreatDoorSG1
import Derived.Test.YtgbmffljpneflaaGreatDoorSG2
set_option linter.all false
namespace Go.Sx
open Go.Proofs
set_option maxRecDepth 10000
set_option maxHeartbeats 100000000
abbrev Qmk:=λN d (Q:(List Int)→Prop) n (st:St)=>∃f c g,Qbw N d n f c=some g/\Q g/\((∃a b,st.n=32/\st.s 1920=some (a,.arr false 39 1 (c.map e39) 0)/\st.t 1=.ept 64 b 1 0 0/\st.t 3=.osl 1920 a 1 0 c.length/\st.t 4=vi f/\st.s 64=some (b,.arr true 35 1 [[s74 d.e]] 0))\/(∃b,(st.n=32/\st.t 1=.ept 64 b 1 0 0/\st.t 3=.nsl/\st.t 4=vi f/\st.s 64=some (b,.arr true 35 1 [[s74 d.e]] 0))/\c=[]))
abbrev Qlg:=λN a b (Q:(Ex Int Unit)→Prop) n (st:St)=>∃c d,QbE N a b n c=some d/\Q d/\((st.n=31/\st.t 1=vi a/\st.t 5=Xm5 b/\st.t 6=vi c))
abbrev Qlh:=λN b a (Q:(Ex (List Int × Int) Unit)→Prop) n (st:St)=>∃c d e,QaD N b a n c d=some e/\Q e/\((st.n=49/\st.t 0=vu b/\st.t 1=s3 a/\st.t 6=vi c/\st.t 12=s3 a/\st.t 13=vi a.length/\st.t 14=vi d))
abbrev Qli:=λN b (Q:(Int × List Int)→Prop) n (st:St)=>∃d e c f,QaE N b n d e c=some f/\Q f/\((∃a,st.n=49/\st.s 2624=some (a,.arr false 39 1 (c.map e39) 0)/\st.t 0=vu d/\st.t 9=.osl 2624 a 1 0 c.length/\st.t 29=s3 b/\st.t 30=vi b.length/\st.t 31=vi e)\/((st.n=49/\st.t 0=vu d/\st.t 9=.nsl/\st.t 29=s3 b/\st.t 30=vi b.length/\st.t 31=vi e)/\c=[]))
abbrev QeP:=λN a (Q:(Ex Int Unit)→Prop) n (st:St)=>∃b c,Qaj N a n b=some c/\Q c/\((st.n=19/\st.t 0=Xkh a/\st.t 1=.clo (.func 209) [] []/\st.t 7=vi a.length/\st.t 8=vi b))
abbrev Qi3:=λN a (Q:Int→Prop) n (st:St)=>∃b c d,QbQ N a n b c=some d/\Q d/\((st.n=22/\st.t 5=vi b/\st.t 10=s72 a/\st.t 11=vi a.length/\st.t 12=vi c))
abbrev Qfl:=λN a (Q:(Ex Int Unit)→Prop) n (st:St)=>∃b c,Qal N a n b=some c/\Q c/\((st.n=19/\st.t 0=s74 a/\st.t 1=.clo (.func 128) [] []/\st.t 7=vi a.length/\st.t 8=vi b))
abbrev Qml:=λN b a (Q:(Ex Int Unit)→Prop) n (st:St)=>∃c d,QeE N b a n c=some d/\Q d/\((st.n=23/\st.t 1=vi b/\st.t 10=Xm5 a/\st.t 11=vi a.length/\st.t 12=vi c))
abbrev Qmm:=λN c d (Q:(Ex Bool Unit)→Prop) n (st:St)=>∃e f,QeI N c d n e=some f/\Q f/\((∃a b,st.n=60/\st.t 2=.ept 128 a 6 0 0/\st.t 3=.ept 192 b 6 0 0/\st.t 5=vi e/\st.s 128=some (a,.arr true 27 6 [e27 c] 0)/\st.s 192=some (b,.arr true 27 6 [e27 d] 0)))
def g10:(∀N a0,OK (Qbt N a0) 80 [.agg (e35 a0)] [] (λr=>.fsl 39 1 (r.map e39)) λr=>[])/\(∀N a0 a1,OK (Qbp N a0 a1) 284 [Ya a0,vi a1] [] (λr=>vi r) λr=>[])/\(∀N a0 a1,OK (Qdz N a0 a1) 277 [vu a0,s3 a1] [] (λr=>.tup [s39 r.1,vi r.2]) λr=>[])/\(∀N a0,OK (QaC N a0) 263 [Xkh a0,.clo (.func 209) [] []] [] (λr=>vi r) λr=>[])/\(∀N a0 a1,OK (QdP N a0 a1) 126 [.agg (Xm0 a0),vi a1] [] (λr=>vi r) λr=>[])/\(∀N a0,OK (QaV N a0) 205 [s74 a0,.clo (.func 128) [] []] [] (λr=>vi r) λr=>[])/\(∀N a0 a1,OK (Qei N a0 a1) 350 [Ya a0,vi a1] [] (λr=>vi r) λr=>[])/\(∀N a0 a1,OK (Qh0 N a0 a1) 32 [.agg (e27 a0),.agg (e27 a1)] [] (λr=>.v (.bool r)) λr=>[]):=by
 refine⟨λN _=>rq Tryz.f80 [1920] ?_,λN _ _=>rk Tryz.f284 ?_,λN _ _=>rk Tryz.f277 ?_,λN _=>rk Tryz.f263 ?_,λN _ _=>rk Tryz.f126 ?_,λN _=>rk Tryz.f205 ?_,λN _ _=>rk Tryz.f350 ?_,λN _ _=>rk Tryz.f32 ?_⟩<;>(rintro _ hw r hr C _ rfl hwf hf;simp only[Tryz.f80,Tryz.f284,Tryz.f277,Tryz.f263,Tryz.f126,Tryz.f205,Tryz.f350,Tryz.f32,Option.get!];(first|rw[Qbt]at hr|rw[Qbp]at hr|rw[Qdz]at hr|rw[QaC]at hr|rw[QdP]at hr|rw[QaV]at hr|rw[Qei]at hr|rw[Qh0]at hr);repeat' first
 |(refine El.el hr ?_;clear hr;intro hr)
 |(with_reducible intro h;refine Xv hr h ?_;clear hr;intro hr)
 |with_reducible intro _
 |(refine Xm hr ?_;rintro rfl;have hr:=hk;clear hk)
 |simp only[go_sem,simprocAttr,E,hl3,Xw,Yw,YJ,Xbk,XeB]
 |(with_reducible first|apply Xi|apply Xh|apply Xo|apply Xr|apply Xs)
 |((first|with_reducible refine Yn hr ag ?_ ?_|(with_reducible refine Yj hr ?_ ?_;rotate_left;intro p;rotate_right));(·simp only[go_sem,simprocAttr]);intro hp hn hd hr;(try have hl3:=hd _ e3);(try simp only[go_sem,simprocAttr]at hl3);(try have Xw:=hd _ e39);(try simp only[go_sem,simprocAttr]at Xw);(try have Yw:=hd _ e72);(try simp only[go_sem,simprocAttr]at Yw);(try have YJ:=hd _ e74);(try simp only[go_sem,simprocAttr]at YJ);(try have Xbk:=hd _ VQ);(try simp only[go_sem,simprocAttr]at Xbk);(try have XeB:=hd _ Xkg);(try simp only[go_sem,simprocAttr]at XeB))
 |(refine Xp ?_ ?_;.first|assumption|omega)
 |(with_reducible first|refine CallX.c ?_ _|refine OK.c hr hw ?_ (λy hr=>?_) _)
 |(with_reducible refine lp (Qmk N _) hr N ?_ (λex hq hk=>⟨_,_,ex,hq,hk,?_⟩) _;clear hr;(try clear E);rintro n1 st ⟨v1,v2,ex,hr,hk,(⟨_,_,E⟩|⟨_,E,z0⟩)⟩<;>(try subst z0)<;>(obtain _|n1:=n1<;>rw[Qbw]at hr))
 |refine⟨_,WA _,_,_,_,hr,hk,?_⟩
 |(with_reducible refine lp (Qlg N _ _) hr N ?_ (λex hq hk=>⟨_,ex,hq,hk,?_⟩) _;clear hr;(try clear E);rintro n1 st ⟨v2,ex,hr,hk,E⟩<;>(obtain _|n1:=n1<;>rw[QbE]at hr))
 |refine⟨_,WA _,_,_,hr,hk,?_⟩
 |(with_reducible refine lp (Qlh N _ _) hr N ?_ (λex hq hk=>⟨_,_,ex,hq,hk,?_⟩) _;clear hr;(try clear E);rintro n1 st ⟨v1,v2,ex,hr,hk,E⟩<;>(obtain _|n1:=n1<;>rw[QaD]at hr))
 |(with_reducible refine lp (Qli N _) hr N ?_ (λex hq hk=>⟨_,_,_,ex,hq,hk,?_⟩) _;clear hr;(try clear E);rintro n2 st ⟨v5,v6,v7,ex,hr,hk,(⟨_,E⟩|⟨E,z0⟩)⟩<;>(try subst z0)<;>(obtain _|n2:=n2<;>rw[QaE]at hr))
 |refine⟨_,WA _,_,_,_,_,hr,hk,?_⟩
 |(with_reducible refine lp (QeP N _) hr N ?_ (λex hq hk=>⟨_,ex,hq,hk,?_⟩) _;clear hr;(try clear E);rintro n1 st ⟨v1,ex,hr,hk,E⟩<;>(obtain _|n1:=n1<;>rw[Qaj]at hr))
 |(with_reducible refine lp (Qi3 N _) hr N ?_ (λex hq hk=>⟨_,_,ex,hq,hk,?_⟩) _;clear hr;(try clear E);rintro n1 st ⟨v2,v3,ex,hr,hk,E⟩<;>(obtain _|n1:=n1<;>rw[QbQ]at hr))
 |(with_reducible refine lp (Qfl N _) hr N ?_ (λex hq hk=>⟨_,ex,hq,hk,?_⟩) _;clear hr;(try clear E);rintro n1 st ⟨v1,ex,hr,hk,E⟩<;>(obtain _|n1:=n1<;>rw[Qal]at hr))
 |(with_reducible refine lp (Qml N _ _) hr N ?_ (λex hq hk=>⟨_,ex,hq,hk,?_⟩) _;clear hr;(try clear E);rintro n1 st ⟨v2,ex,hr,hk,E⟩<;>(obtain _|n1:=n1<;>rw[QeE]at hr))
 |(with_reducible refine lp (Qmm N _ _) hr N ?_ (λex hq hk=>⟨_,ex,hq,hk,?_⟩) _;clear hr;(try clear E);rintro n1 st ⟨v2,ex,hr,hk,⟨_,_,E⟩⟩<;>(obtain _|n1:=n1<;>rw[QeI]at hr))
 |refine dc 32 6 hf 49 [(0,996,[]),(1,996,[]),(0,995,[]),(7,992,[]),(15,992,[]),(0,159,[]),(32,159,[]),(0,127,[]),(224,31,[]),(480,31,[]),(1023,0,[])] ?_
 |(refine Xm hr ?_;rintro rfl;with_reducible refine XI ?_)
 |exact Ym hr
 |((first|refine Xv (c:=true) hr rfl ?_|refine Xv (c:=false) hr rfl ?_|refine Xv hr ag ?_);intro hr)
 |fail)
abbrev QpG:=g10.1
abbrev Qov:=g10.2.1
abbrev Qow:=g10.2.2.1
abbrev Qfb:=g10.2.2.2.1
abbrev Qjq:=g10.2.2.2.2.1
abbrev QfL:=g10.2.2.2.2.2.1
abbrev QpH:=g10.2.2.2.2.2.2.1
abbrev QpI:=g10.2.2.2.2.2.2.2
attribute [instance] QpG Qov Qow Qfb Qjq QfL QpH QpI
end Go.Sx
