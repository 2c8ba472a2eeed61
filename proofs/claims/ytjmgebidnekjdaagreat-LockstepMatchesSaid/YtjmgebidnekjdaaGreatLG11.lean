import Derived.Test.YtjmgebidnekjdaaGreatLG8
import Derived.Test.YtjmgebidnekjdaaGreatLG9
set_option linter.all false
namespace Go.Sx
open Go.Proofs
set_option maxRecDepth 10000
set_option maxHeartbeats 100000000
def g19:(∀ N a0 a1,OK (Qav N a0 a1) 138 [.agg (e27 a0),vu a1] [] (λ r=>.tup [.agg (e72 r.1),vi r.2]) λ r=>[])/\(∀ N a0 a1 a2,OK (Qfz N a0 a1 a2) 273 [.agg (e27 a0),vi a1,vi a2] [] (λ r=>vu r) λ r=>[])/\(∀ N a0 a1 a2,OK (Qet N a0 a1 a2) 250 [.agg (e27 a0),vi a1,vi a2] [] (λ r=>.tup [.agg (e27 r.1),vu r.2.1,.v (.bool r.2.2)]) λ r=>[])/\(∀ N a0 a1 a2,OK (QcG N a0 a1 a2) 251 [.agg (e27 a0),vu a1,.agg (e72 a2)] [] (λ r=>.tup [.agg (e27 r.1),vi r.2]) λ r=>[])/\(∀ N a0 a1 a2 a3 a4,OK (QfO N a0 a1 a2 a3 a4) 163 [.agg (e42 a0),vi a1,vu a2,vu a3,.v (.bool a4)] [] (λ r=>vi r) λ r=>[])/\(∀ N a0 a1,OK (QaE N a0 a1) 98 [.agg (e42 a0),vu a1] [] (λ r=>.tup [vu r.1,vi r.2]) λ r=>[])/\(∀ N a0 a1,OK (QeF N a0 a1) 103 [.agg (e42 a0),vu a1] [] (λ r=>.agg (e42 r)) λ r=>[])/\(∀ N a0 a1 a2,OK (QdR N a0 a1 a2) 124 [vi a0,.ept 1000000 0 10 0 0,.ept 1000001 0 4 0 0] [.arr true 61 10 [[vi a1.Conf.PageWords,vi a1.Conf.Pages,K8 a1.Things,s88 a1.Locals.Slots,s94 a1.Locals.Scopes,s3 a1.Locals.Issued,s90 a1.Globals.Entries,s90 a1.Weaks.Entries,KS a1.Marks,s76 a1.Roots]] 0,.arr true 107 4 [[vi a2.Header.Kind,vi a2.Header.Length,vw a2.Header.Map,s76 a2.Fields]] 0] (λ r=>.v (.bool r)) λ r=>[.arr true 61 10 [[vi a1.Conf.PageWords,vi a1.Conf.Pages,K8 a1.Things,s88 a1.Locals.Slots,s94 a1.Locals.Scopes,s3 a1.Locals.Issued,s90 a1.Globals.Entries,s90 a1.Weaks.Entries,KS a1.Marks,s76 a1.Roots]] 0,.arr true 107 4 [[vi a2.Header.Kind,vi a2.Header.Length,vw a2.Header.Map,s76 a2.Fields]] 0]):=by
 refine ⟨λ N _ _=>rk Tryz.f138 [.cell 4 72,.tmp 5] [] 96 ?_,λ N _ _ _=>rk Tryz.f273 [.tmp 6] [] 11 ?_,λ N _ _ _=>rk Tryz.f250 [.cell 6 27,.tmp 7,.tmp 8] [] 49 ?_,λ N _ _ _=>rk Tryz.f251 [.cell 6 27,.tmp 7] [] 43 ?_,λ N _ _ _ _ _=>rk Tryz.f163 [.tmp 10] [] 41 ?_,λ N _ _=>rk Tryz.f98 [.tmp 4,.tmp 5] [] 54 ?_,λ N _ _=>rk Tryz.f103 [.cell 4 42] [] 52 ?_,λ N _ _ _=>rk Tryz.f124 [.tmp 4] [] 14 ?_⟩<;>(rintro _ hw r hr C _ rfl hwf hf;simp only[Tryz.f138,Tryz.f273,Tryz.f250,Tryz.f251,Tryz.f163,Tryz.f98,Tryz.f103,Tryz.f124,Option.get!];(first|rw[Qav] at hr|rw[Qfz] at hr|rw[Qet] at hr|rw[QcG] at hr|rw[QfO] at hr|rw[QaE] at hr|rw[QeF] at hr|rw[QdR] at hr);repeat' first
 |(refine El.el hr ?_;intro hr)
 |(with_reducible intro h;refine Xx hr h ?_;intro hr)
 |with_reducible intro _
 |simp only[go_sem,simprocAttr,XS,XE]
 |(with_reducible first|apply Xh|apply Xg|apply Xr|apply Xt|apply Xu)
 |((first|with_reducible refine Yn hr (by assumption) ?_ ?_|(with_reducible refine Yk hr ?_ ?_;rotate_left;intro p;rotate_right));(·simp only[go_sem,simprocAttr]);intro hp hn hd hr;(try have XS:=hd _ e76);(try simp only[go_sem,simprocAttr] at XS);(try have XE:=hd _ Yp);(try simp only[go_sem,simprocAttr] at XE))
 |(refine Xs ?_ ?_;·first|assumption|omega)
 |(with_reducible first|refine CallX.c ?_ _|refine OK.c hr hw ?_ (λ y hr=>?_) _|refine Ol hr hw ?_ (λ y hr=>?_) _)
 |refine dc 250 2 hf 17 [(0,0,[]),(1,0,[]),(3,0,[]),(7,104,[]),(15,104,[]),(31,104,[]),(7,231,[]),(127,224,[]),(7,31,[]),(263,31,[]),(831,24,[]),(2047,0,[]),(4095,0,[])] ?_
 |refine dc 250 5 hf 41 [(0,254,[]),(0,29,[[],[384]]),(0,3,[[],[384]]),(4,3,[[],[384]]),(12,3,[[],[384]]),(30,1,[[],[384]]),(62,1,[[],[384]]),(126,1,[[],[384]]),(1,254,[[384],[]]),(511,0,[]),(1023,0,[])] ?_
 |refine dc 251 4 hf 10 [(0,8257536,[[],[1856]]),(1,8257536,[[],[1856]]),(0,8224768,[[],[1856]]),(0,3375104,[]),(8,3375104,[[1856],[]]),(0,1015808,[[],[1856]]),(32,1015808,[[],[1856]]),(120,229376,[[1856],[]]),(255,0,[[1856],[]]),(511,0,[]),(1023,33554432,[]),(1023,16777217,[]),(2047,33554432,[]),(8191,0,[])] ?_
 |refine dc 124 1 hf 5 [(0,126,[[],[704]]),(0,9,[]),(2,9,[]),(0,7,[]),(14,1,[]),(30,1,[]),(62,1,[[704],[]]),(127,0,[]),(255,0,[]),(511,0,[])] ?_
 |(refine Xo hr ?_;rintro rfl;with_reducible refine XP ?_)
 |exact Yw hr
 |exact XV hr
 |(apply XW;assumption)
 |fail)
abbrev Qo4:=g19.1
abbrev Qon:=g19.2.1
abbrev Qne:=g19.2.2.1
abbrev Qoo:=g19.2.2.2.1
abbrev Qlr:=g19.2.2.2.2.1
abbrev Qls:=g19.2.2.2.2.2.1
abbrev Qmf:=g19.2.2.2.2.2.2.1
abbrev Qh4:=g19.2.2.2.2.2.2.2
attribute [instance] Qo4 Qon Qne Qoo Qlr Qls Qmf Qh4
end Go.Sx
