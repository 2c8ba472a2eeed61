import Derived.Test.YtcclgbgphjofaaaGreatHG3
import Derived.Test.YtcclgbgphjofaaaGreatHG4
set_option linter.all false
namespace Go.Sx
open Go.Proofs
set_option maxRecDepth 10000
set_option maxHeartbeats 100000000
def g11:(∀N a0 a1,OK (Qbn N a0 a1) 121 [s55 a0,vu a1] [] (λr=>.tup [vu r.1,vi r.2]) λr=>[])/\(∀N a0 a1,OK (Qfj N a0 a1) 197 [.agg (e28 a0),vu a1] [] (λr=>vi r) λr=>[])/\(∀N a0 a1,OK (QfB N a0 a1) 229 [.agg (JH a0),vi a1] [] (λr=>.tup [.agg (JH r.1),vu r.2.1,.v (.bool r.2.2)]) λr=>[])/\(∀N a0 a1,OK (Qee N a0 a1) 141 [.agg (e32 a0),vu a1] [] (λr=>.tup [.agg (e32 r.1),vi r.2.1,vi r.2.2.1,vi r.2.2.2]) λr=>[])/\(∀N a0,OK (Qcu N a0) 151 [vu a0] [] (λr=>.tup [.agg (Xqv r.1),vi r.2]) λr=>[])/\(∀N a0 a1 a2,OK (Qcw N a0 a1 a2) 153 [.agg (e35 a0),vi a1,vi a2] [] (λr=>.tup [.agg (e35 r.1),vi r.2]) λr=>[])/\(∀N a0,OK (QeL N a0) 92 [.agg (e32 a0)] [] (λr=>.tup [.agg (e32 r.1),vi r.2]) λr=>[])/\(∀N a0 a1 a2 a3,OK (Qd8 N a0 a1 a2 a3) 93 [.agg (e42 a0),vi a1,vu a2,vu a3] [] (λr=>.tup [.agg (e42 r.1),vu r.2]) λr=>[])/\(∀N a0 a1,OK (QgA N a0 a1) 223 [.agg (e24 a0),vi a1] [] (λr=>vi r) λr=>[])/\(∀N a0,OK (Qft N a0) 188 [vu a0] [] (λr=>.tup [.agg (e84 r.1),.v (.bool r.2)]) λr=>[])/\(∀N a0 a1,OK (Qem N a0 a1) 57 [.agg (e84 a0),vi a1] [] (λr=>.v (.bool r)) λr=>[])/\(∀N a0,OK (Qbt N a0) 96 [s3 a0,.clo (.func 97) [] []] [] (λr=>.v (.bool r)) λr=>[])/\(∀N a0,OK (Qge N a0) 44 [s25 a0] [] (λr=>s55 r) λr=>[])/\(∀N a0 a1,OK (Qet N a0 a1) 114 [.agg (e52 a0),vu a1] [] (λr=>vi r) λr=>[]):=by
 refine⟨λN _ _=>rk Tryz.f121 ?_,λN _ _=>rk Tryz.f197 ?_,λN _ _=>rk Tryz.f229 ?_,λN _ _=>rk Tryz.f141 ?_,λN _=>rk Tryz.f151 ?_,λN _ _ _=>rk Tryz.f153 ?_,λN _=>rk Tryz.f92 ?_,λN _ _ _ _=>rk Tryz.f93 ?_,λN _ _=>rk Tryz.f223 ?_,λN _=>rk Tryz.f188 ?_,λN _ _=>rk Tryz.f57 ?_,λN _=>rk Tryz.f96 ?_,λN _=>rk Tryz.f44 ?_,λN _ _=>rk Tryz.f114 ?_⟩<;>(rintro _ hw r hr C _ rfl hwf hf;simp only[Tryz.f121,Tryz.f197,Tryz.f229,Tryz.f141,Tryz.f151,Tryz.f153,Tryz.f92,Tryz.f93,Tryz.f223,Tryz.f188,Tryz.f57,Tryz.f96,Tryz.f44,Tryz.f114,Option.get!];(first|rw[Qbn]at hr|rw[Qfj]at hr|rw[QfB]at hr|rw[Qee]at hr|rw[Qcu]at hr|rw[Qcw]at hr|rw[QeL]at hr|rw[Qd8]at hr|rw[QgA]at hr|rw[Qft]at hr|rw[Qem]at hr|rw[Qbt]at hr|rw[Qge]at hr|rw[Qet]at hr);repeat' first
 |(refine El.el hr ?_;intro hr)
 |(with_reducible intro h;refine XH hr h ?_;intro hr)
 |with_reducible intro _
 |simp only[go_sem,simprocAttr,hl3,X2,Xan,Km,XS,Wx,WR,UX]
 |(with_reducible first|apply Xk|apply Xj|apply XA|apply XF|apply XG)
 |((first|with_reducible refine Y1 hr ag ?_ ?_|(with_reducible refine YN hr ?_ ?_;rotate_left;intro p;rotate_right));(·simp only[go_sem,simprocAttr,Wx,WR,UX]);intro hp hn hd hr;(try have hl3:=hd _ e3);(try simp only[go_sem,simprocAttr]at hl3);(try have X2:=hd _ e55);(try simp only[go_sem,simprocAttr]at X2);(try have Xan:=hd _ e89);(try simp only[go_sem,simprocAttr]at Xan);(try have Km:=hd _ XaR);(try simp only[go_sem,simprocAttr]at Km);(try have XS:=hd _ Y8);(try simp only[go_sem,simprocAttr]at XS))
 |(refine XB ?_ ?_;.first|assumption|omega)
 |(with_reducible refine Xse hr ?_ ?_;(·simp only[go_sem]);intro p hp hn hd hr;(try have hl3:=hd _ e3);(try simp only[go_sem,simprocAttr]at hl3);(try have X2:=hd _ e55);(try simp only[go_sem,simprocAttr]at X2);(try have Xan:=hd _ e89);(try simp only[go_sem,simprocAttr]at Xan);(try have Km:=hd _ XaR);(try simp only[go_sem,simprocAttr]at Km);(try have XS:=hd _ Y8);(try simp only[go_sem,simprocAttr]at XS))
 |(with_reducible first|refine CallX.c ?_ _|refine OK.c hr hw ?_ (λy hr=>?_) _|refine OK.d hr hw ?_ (λy hr=>?_) _)
 |refine dc 229 4 hf 23 [(0,0,[]),(1,0,[]),(3,0,[]),(7,250360,[]),(15,250360,[]),(31,250360,[]),(7,249959,[]),(71,249959,[]),(7,249887,[]),(263,249887,[]),(967,249863,[]),(1991,249863,[]),(4095,249856,[]),(8191,249856,[]),(16383,249856,[]),(7,249855,[]),(65535,245760,[]),(7,16383,[]),(131079,16383,[]),(393223,16383,[]),(917511,16383,[]),(2097151,0,[]),(4194303,0,[])] ?_
 |refine dc 229 11 hf 78 [(0,16286,[]),(0,16257,[]),(2,16257,[]),(6,16257,[]),(14,16257,[]),(31,16256,[]),(63,16256,[]),(0,1151,[]),(128,1151,[]),(384,1151,[]),(0,1023,[]),(1920,127,[]),(3968,127,[]),(8064,127,[]),(16383,0,[]),(32767,0,[]),(65535,0,[])] ?_
 |refine dc 229 12 hf 94 [(0,8184,[]),(1,8184,[]),(3,8184,[]),(0,8183,[]),(0,2191,[]),(16,2191,[]),(48,2191,[]),(0,2175,[]),(240,2063,[]),(496,2063,[]),(1008,2063,[]),(0,2047,[]),(4080,15,[]),(8191,0,[]),(16383,0,[]),(32767,0,[[640,4160],[]])] ?_
 |refine dc 141 6 hf 25 [(0,522238,[]),(0,522009,[]),(2,522009,[]),(0,521991,[]),(8,521991,[]),(30,521985,[]),(62,521985,[]),(126,521985,[]),(0,520447,[]),(256,520447,[]),(768,520447,[]),(2047,520192,[]),(0,53247,[]),(4096,53247,[]),(0,16383,[]),(16384,16383,[]),(61440,4095,[]),(126976,4095,[]),(258048,4095,[]),(524287,0,[])] ?_
 |refine dc 141 10 hf 9 [(0,527765581332480,[]),(1,527765581332480,[]),(3,527765581332480,[]),(0,30786325577729,[]),(8,30786325577729,[]),(24,30786325577729,[]),(56,30786325577729,[]),(7,527765581332480,[]),(255,0,[])] ?_
 |refine dc 93 6 hf 37 [(0,500,[]),(1,500,[]),(0,499,[]),(7,496,[]),(0,207,[]),(16,207,[]),(0,63,[]),(64,63,[]),(240,15,[]),(511,0,[[896],[]]),(1023,0,[]),(2047,0,[[256],[]])] ?_
 |refine dc 93 10 hf 60 [(0,126,[]),(0,9,[[],[512]]),(2,9,[[],[512]]),(0,7,[[],[512]]),(14,1,[[],[512]]),(30,1,[[],[512]]),(62,1,[[],[512]]),(1,126,[[512],[]]),(255,0,[])] ?_
 |refine dc 188 4 hf 6 [(0,267386881,[[],[384]]),(1,267386881,[[],[384]]),(3,267386881,[[],[384]]),(7,267386881,[[],[384]]),(0,252641281,[[],[384]]),(16,252641281,[[],[384]]),(48,252641281,[[],[384]]),(112,252641281,[[],[384]]),(0,16711681,[[],[384]]),(256,16711681,[[],[384]]),(768,16711681,[[],[384]]),(1792,16711681,[[],[384]]),(4095,1,[[],[384]]),(0,536805376,[[384],[]]),(16383,0,[[384],[]])] ?_
 |(refine Xu hr ?_;rintro rfl;with_reducible refine X4 ?_)
 |exact Za hr
 |exact Yb hr
 |(apply Yc;assumption)
 |with_reducible refine XqA (λhi=>?_) (λhi=>?_)
 |(exfalso;omega)
 |fail)
abbrev Qnb:=g11.1
abbrev Qnc:=g11.2.1
abbrev Qmf:=g11.2.2.1
abbrev QnQ:=g11.2.2.2.1
abbrev Qln:=g11.2.2.2.2.1
abbrev Qlo:=g11.2.2.2.2.2.1
abbrev QnR:=g11.2.2.2.2.2.2.1
abbrev Qnd:=g11.2.2.2.2.2.2.2.1
abbrev QnS:=g11.2.2.2.2.2.2.2.2.1
abbrev Qks:=g11.2.2.2.2.2.2.2.2.2.1
abbrev QjB:=g11.2.2.2.2.2.2.2.2.2.2.1
abbrev Qf4:=g11.2.2.2.2.2.2.2.2.2.2.2.1
abbrev Qne:=g11.2.2.2.2.2.2.2.2.2.2.2.2.1
abbrev Qix:=g11.2.2.2.2.2.2.2.2.2.2.2.2.2
attribute [instance] Qnb Qnc Qmf QnQ Qln Qlo QnR Qnd QnS Qks QjB Qf4 Qne Qix
abbrev Qkt:=λN d (Q:(List Int)→Prop) n (st:St)=>∃e c f,Qbw N d n e c=some f/\Q f/\((∃a b,st.n=32/\st.s 1920=some (a,.arr false 55 1 (c.map e55) 0)/\st.t 1=.ept 64 b 3 0 0/\st.t 3=.osl 1920 a 1 0 c.length/\st.t 4=vi e/\st.s 64=some (b,.arr true 32 3 [e32 d] 0))\/(∃b,(st.n=32/\st.t 1=.ept 64 b 3 0 0/\st.t 3=.nsl/\st.t 4=vi e/\st.s 64=some (b,.arr true 32 3 [e32 d] 0))/\c=[]))
abbrev Qku:=λN b c (Q:(Ex Int Unit)→Prop) n (st:St)=>∃d e,Qcz N b c n d=some e/\Q e/\((∃a,st.n=28/\st.t 1=vi c/\st.t 2=.ept 128 a 2 0 0/\st.t 5=vi d/\st.s 128=some (a,.arr true 24 2 [e24 b] 0)))
abbrev Qia:=λN d (Q:(List Int)→Prop) n (st:St)=>∃e c f,Qb1 N d n e c=some f/\Q f/\((∃a b,st.n=23/\st.s 1344=some (a,.arr false 3 1 (c.map e3) 0)/\st.t 1=.ept 64 b 3 0 0/\st.t 3=.osl 1344 a 1 0 c.length/\st.t 4=vi e/\st.s 64=some (b,.arr true 84 3 [e84 d] 0))\/(∃b,(st.n=23/\st.t 1=.ept 64 b 3 0 0/\st.t 3=.nsl/\st.t 4=vi e/\st.s 64=some (b,.arr true 84 3 [e84 d] 0))/\c=[]))
abbrev Qkv:=λN d (Q:(List Ul)→Prop) n (st:St)=>∃e f c g,QbA N d n e f c=some g/\Q g/\((∃a b,st.n=48/\st.s 1344=some (a,.arr false 136 3 (c.map K2) 0)/\st.t 1=s55 d/\st.t 4=.ept 256 b 1 0 0/\st.t 6=.osl 1344 a 3 0 c.length/\st.t 7=vi e/\st.t 8=vi f/\st.s 256=some (b,.arr true 35 1 [[.nsl]] 0)))
abbrev Qkw:=λN d (Q:(List Int)→Prop) n (st:St)=>∃e c f,QdX N d n e c=some f/\Q f/\((∃a b,st.n=25/\st.s 1472=some (a,.arr false 55 1 (c.map e55) 0)/\st.t 1=.ept 64 b 4 0 0/\st.t 3=.osl 1472 a 1 0 c.length/\st.t 4=vi e/\st.s 64=some (b,.arr true 86 4 [e86 d] 0))\/(∃b,(st.n=25/\st.t 1=.ept 64 b 4 0 0/\st.t 3=.nsl/\st.t 4=vi e/\st.s 64=some (b,.arr true 86 4 [e86 d] 0))/\c=[]))
abbrev QfJ:=λN a b (Q:Int→Prop) n (st:St)=>∃c d e,Qap N a b n c d=some e/\Q e/\((st.n=54/\st.t 0=s55 a/\st.t 1=vu b/\st.t 6=vi a.length/\st.t 7=vi c/\st.t 8=vi d))
def g12:(∀N a0,OK (Qcy N a0) 26 [.agg (e32 a0)] [] (λr=>s55 r) λr=>[])/\(∀N a0 a1,OK (QeF N a0 a1) 60 [.agg (e24 a0),vi a1] [] (λr=>vi r) λr=>[])/\(∀N a0,OK (Qe6 N a0) 232 [.agg (e84 a0)] [] (λr=>s3 r) λr=>[])/\(∀N a0 a1,OK (QcD N a0 a1) 73 [.agg (e35 a0),s55 a1] [] (λr=>.tup [.agg (e35 r.1),vi r.2]) λr=>[])/\(∀N a0,OK (Qf7 N a0) 137 [.agg (e86 a0)] [] (λr=>s55 r) λr=>[])/\(∀N a0 a1,OK (Qay N a0 a1) 107 [s55 a0,vu a1] [] (λr=>.tup [vi r.1,.v (.bool r.2)]) λr=>[]):=by
 refine⟨λN _=>rk Tryz.f26 ?_,λN _ _=>rk Tryz.f60 ?_,λN _=>rk Tryz.f232 ?_,λN _ _=>rk Tryz.f73 ?_,λN _=>rk Tryz.f137 ?_,λN _ _=>rk Tryz.f107 ?_⟩<;>(rintro _ hw r hr C _ rfl hwf hf;simp only[Tryz.f26,Tryz.f60,Tryz.f232,Tryz.f73,Tryz.f137,Tryz.f107,Option.get!];(first|rw[Qcy]at hr|rw[QeF]at hr|rw[Qe6]at hr|rw[QcD]at hr|rw[Qf7]at hr|rw[Qay]at hr);repeat' first
 |(refine El.el hr ?_;intro hr)
 |(with_reducible intro h;refine XH hr h ?_;intro hr)
 |with_reducible intro _
 |(refine Xu hr ?_;rintro rfl;have hr:=hk;clear hk)
 |simp only[go_sem,simprocAttr,E,X2,YW,Zx]
 |(with_reducible first|apply Xk|apply Xj|apply XA)
 |((first|with_reducible refine Y1 hr ag ?_ ?_|(with_reducible refine YN hr ?_ ?_;rotate_left;intro p;rotate_right));(·simp only[go_sem,simprocAttr]);intro hp hn hd hr;(try have X2:=hd _ e55);(try simp only[go_sem,simprocAttr]at X2);(try have YW:=hd _ Vl);(try simp only[go_sem,simprocAttr]at YW);(try have Zx:=hd _ K2);(try simp only[go_sem,simprocAttr]at Zx))
 |(refine XB ?_ ?_;.first|assumption|omega)
 |(with_reducible first|refine CallX.c ?_ _|refine OK.c hr hw ?_ (λy hr=>?_) _)
 |(with_reducible refine lp (Qkt N _) hr N ?_ (λex hq hk=>⟨_,_,ex,hq,hk,?_⟩) _;clear hr;(try clear E);rintro n1 st ⟨v1,v2,ex,hr,hk,(⟨_,_,E⟩|⟨_,E,z0⟩)⟩<;>(try subst z0)<;>(obtain _|n1:=n1<;>rw[Qbw]at hr))
 |refine⟨_,WK _,_,_,_,hr,hk,?_⟩
 |(with_reducible refine lp (Qku N _ _) hr N ?_ (λex hq hk=>⟨_,ex,hq,hk,?_⟩) _;clear hr;(try clear E);rintro n1 st ⟨v3,ex,hr,hk,⟨_,E⟩⟩<;>(obtain _|n1:=n1<;>rw[Qcz]at hr))
 |refine⟨_,WK _,_,_,hr,hk,?_⟩
 |(with_reducible refine lp (Qia N _) hr N ?_ (λex hq hk=>⟨_,_,ex,hq,hk,?_⟩) _;clear hr;(try clear E);rintro n1 st ⟨v1,v2,ex,hr,hk,(⟨_,_,E⟩|⟨_,E,z0⟩)⟩<;>(try subst z0)<;>(obtain _|n1:=n1<;>rw[Qb1]at hr))
 |(with_reducible refine lp (Qkv N _) hr N ?_ (λex hq hk=>⟨_,_,_,ex,hq,hk,?_⟩) _;clear hr;(try clear E);rintro n1 st ⟨v3,v4,v5,ex,hr,hk,⟨_,_,E⟩⟩<;>(obtain _|n1:=n1<;>rw[QbA]at hr))
 |refine⟨_,WK _,_,_,_,_,hr,hk,?_⟩
 |(with_reducible refine lp (Qkw N _) hr N ?_ (λex hq hk=>⟨_,_,ex,hq,hk,?_⟩) _;clear hr;(try clear E);rintro n1 st ⟨v1,v2,ex,hr,hk,(⟨_,_,E⟩|⟨_,E,z0⟩)⟩<;>(try subst z0)<;>(obtain _|n1:=n1<;>rw[QdX]at hr))
 |(with_reducible refine lp (QfJ N _ _) hr N ?_ (λex hq hk=>⟨_,_,ex,hq,hk,?_⟩) _;clear hr;(try clear E);rintro n1 st ⟨v1,v2,ex,hr,hk,E⟩<;>(obtain _|n1:=n1<;>rw[Qap]at hr))
 |(refine Xu hr ?_;rintro rfl;with_reducible refine X4 ?_)
 |exact Za hr
 |exact Yb hr
 |(apply Yc;assumption)
 |((first|refine XH (c:=true) hr rfl ?_|refine XH (c:=false) hr rfl ?_|refine XH hr ag ?_);intro hr)
 |fail)
abbrev Qnf:=g12.1
abbrev Qng:=g12.2.1
abbrev QjC:=g12.2.2.1
abbrev Qnh:=g12.2.2.2.1
abbrev Qni:=g12.2.2.2.2.1
abbrev Qgk:=g12.2.2.2.2.2
attribute [instance] Qnf Qng QjC Qnh Qni Qgk
end Go.Sx
