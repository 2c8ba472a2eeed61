import Derived.Test.YtgdhlnfcogcicaaGreatDoorTS
import Derived.Test.YtgdhlnfcogcicaaGreatDoorTF
import Derived.Test.YtgdhlnfcogcicaaGreatDoorTG8
import Derived.Test.YtgdhlnfcogcicaaGreatDoorTG12
import Derived.Test.YtgdhlnfcogcicaaGreatDoorTG14
import Derived.Test.YtgdhlnfcogcicaaGreatDoorTG17
import Derived.Test.YtgdhlnfcogcicaaGreatDoorTG18
import Derived.Test.YtgdhlnfcogcicaaGreatDoorTG20
import Derived.Test.YtgdhlnfcogcicaaGreatDoorTG21
set_option linter.all false
namespace Go.Sx
open Go.Proofs Go.Maps Go.MapKept Go.RowKit
set_option maxRecDepth 100000
theorem EntL.keyU {M:Mem} {xs:List (Int×D)}:∀ {l:List MapEntry},EntL Tryz.prog M .u64 l xs->l.map (·.key)=xs.map λ p=>Value.int .u64 p.1:=by
 intro l
 induction l generalizing xs with
 | nil=>intro h;simp only[EntL] at h;subst h;rfl
 | cons e l ih =>
  intro h
  simp only[EntL] at h
  obtain ⟨x,d,es',rfl,h2,h3,h4⟩:=h
  simp only[WV,h2,ih h4]
theorem EntL.valU {M:Mem} {xs:List (Int×D)}:∀ {l:List MapEntry},EntL Tryz.prog M .u64 l xs->(∀ p∈xs,p.2=.v (.bool true))->∀ e∈l,e.val=.bool true:=by
 intro l
 induction l generalizing xs with
 | nil=>intro _ _ e he;cases he
 | cons e l ih =>
  intro h hb x hx
  simp only[EntL] at h
  obtain ⟨n,d,es',rfl,h2,h3,h4⟩:=h
  rcases UN.1 hx with rfl | hx
  ·have:d=.v (.bool true):=hb (n,d) (by simp)
   subst this
   exact h3.1
  ·exact ih h4 (λ p hp=>hb p (Ud _ hp)) x hx
def XnA:Value->Int
 | .int _ n=>n
 | _=>0
theorem XpK:Tryz.prog.underlying 4=some .bool:=by kernel_rfl
theorem wfU {x:Int} (h0:0<=x) (h1:x<=18446744073709551615):(Lit.int .u64 x).wf=true:=by
 show (decide (IntKind.u64.min<=x)&&decide (x<=IntKind.u64.max))=true
 rw[Wo (show IntKind.u64.min<=x from h0),Wo (show x<=IntKind.u64.max from h1)]
 rfl
section
variable {M:Mem} {ents:Array MapEntry} {clock:Nat} {es:List (Int×D)}
theorem Xmw (hE:EntL Tryz.prog M .u64 ents.toList es) (hb:∀ p∈es,p.2=.v (.bool true)/\0<=p.1/\p.1<=18446744073709551615) {x:MapEntry} (hx:x∈ents.toList):WideElems.rd (H:=Unit) Tryz.prog 37 (plainElem Tryz.prog 4) x=some (.int .u64 (XnA x.key),.lit (.bool true)):=by
 have h1:x.key∈es.map λ p=>Value.int .u64 p.1:=by rw[← hE.keyU];exact W8.2 ⟨x,hx,rfl⟩
 obtain ⟨p,hp,hk⟩:=W8.1 h1
 have h2:=hE.valU (λ p hp=>(hb p hp).1) x hx
 obtain ⟨key,val,born⟩:=x
 simp only at hk h2
 subst hk h2
 exact WideElems.rd_mk (keyOf_int_mk und37 (wfU (hb p hp).2.1 (hb p hp).2.2)) (plainElem_bool XpK true)
theorem XnB (hE:EntL Tryz.prog M .u64 ents.toList es) (hb:∀ p∈es,p.2=.v (.bool true)/\0<=p.1/\p.1<=18446744073709551615) (hp:(ents.toList.map (·.born)).Pairwise (·<·)) (hc:∀ e∈ents.toList,e.born<clock) (hnd:(es.map (·.1)).Nodup) (hl:es.length<=Xn) :
 WideElems.Fit (H:=Unit) Tryz.prog 37 (plainElem Tryz.prog 4) ents clock:=by
 refine ⟨?_,⟨hc,?_,?_⟩,λ x hx=>⟨_,Xmw hE hb hx⟩⟩
 ·have:=hE.length
  simp only[Xn] at hl
  simp at this
  unfold maxLen
  omega
 ·rw[Ia];exact hp.imp λ h=>Nat.ne_of_lt h
 ·rw[hE.keyU,Ia,List.pairwise_map]
  rw[Ia,List.pairwise_map] at hnd
  exact hnd.imp λ h e=>h (by simpa using e)
theorem Xl3 (hE:EntL Tryz.prog M .u64 ents.toList es) (hb:∀ p∈es,p.2=.v (.bool true)/\0<=p.1/\p.1<=18446744073709551615):(intKeys (H:=Unit) (.map ((ents.toList.map (WideElems.rg Tryz.prog 37 (plainElem Tryz.prog 4))).foldr DataW.insert []))).Perm (es.map (·.1)):=by
 have h1:=((Go.WideShapes.sorted_perm (ents.toList.map (WideElems.rg (H:=Unit) Tryz.prog 37 (plainElem Tryz.prog 4)))).map λ p=>intOf p.1)
 have h2:(ents.toList.map (WideElems.rg (H:=Unit) Tryz.prog 37 (plainElem Tryz.prog 4))).map (λ p=>intOf p.1)=es.map (·.1):=by
  rw[OG]
  have h3:ents.toList.map ((λ p=>intOf p.1) ∘ WideElems.rg (H:=Unit) Tryz.prog 37 (plainElem Tryz.prog 4))=(ents.toList.map (·.key)).map XnA:=by
   rw[OG]
   refine List.map_congr_left λ x hx=>?_
   show intOf (WideElems.rg Tryz.prog 37 (plainElem Tryz.prog 4) x).1=XnA x.key
   rw[WideElems.rg_of (Xmw hE hb hx)]
   rfl
  rw[h3,hE.keyU,OG]
  exact List.map_congr_left λ p _=>rfl
 rw[h2] at h1
 exact h1
end
theorem Xe2 {M:Mem} {b:Nat}:∀ (xs:List Int) (o:Nat),(∀ x∈xs,0<=x/\x<=18446744073709551615)->(∀ (j:Nat) x,xs[j]? = some x->M b (o+j)=some (.int .u64 x))->RepE Tryz.prog M (xs.map λ x=>[D.v (.int .u64 x)]) b o
 | [],o,_,_=>by simp[RepE]
 | x::xs,o,hx,hc=>by
  simp only[WV,RepE,RepC,and_true,WM,Ub,UM]
  refine ⟨⟨_,by simpa using hc 0 x rfl,?_⟩,Xe2 xs (o+1) (λ y hy=>hx y (Ud _ hy)) λ j y hj=>by have:=hc (j+1) y (by simpa using hj);rwa[show o+(j+1)=o+1+j by omega] at this⟩
  have:=hx x (by simp)
  simp only[Rep,wfV,true_and]
  exact ⟨this.1,this.2⟩
theorem XpL:Tryz.prog.bytesOf 37=8:=by kernel_rfl
theorem Xkj {C:Cx} {dst:Option Nat} {st:St} {K:St->Prop} {id v mid mv fz:Nat} {es:List (Int×D)}
 (hs:st.s id=some (v,.arr true 135 1 [[.omp mid mv]] fz)) (hm:st.s mid=some (mv,.mp .u64 es)) (hnd:(es.map (·.1)).Nodup)
 (hb:∀ p∈es,p.2=.v (.bool true)/\0<=p.1/\p.1<=18446744073709551615) (hl8:es.length*8<=140737488355328)
 (hK:∀ xs:List Int,xs.Perm (es.map (·.1))->K (nxS st (XX dst st.n) (.isl 37 1 (xs.map λ x=>[.v (.int .u64 x)])) st.s st.n st.k))
 (t:Prf [D.clo (.func 121) [] [.ept id v 1 0 0]]):CallX Tryz.prog C 62 [.clo (.func 121) [] [.ept id v 1 0 0]] dst st K t:=by
 refine ⟨⟨Tryz.f62,it62,by kernel_rfl,by kernel_rfl⟩,λ M β w vs hB I hr=>?_⟩
 simp only[RepL,Rep] at hr
 obtain ⟨x,xs,rfl,⟨va,vb,rfl,rfl,y,ys,rfl,⟨b,cb,hbe,rfl⟩,rfl⟩,rfl⟩:=hr
 obtain ⟨x0,hx0,hob⟩:=I.obs id v _ hs
 rw[hbe] at hx0
 obtain rfl:some (b,cb)=x0:=by simpa using hx0
 obtain ⟨cs,T0,k1,k2,k3,k4,k5,k6,k7,k8,k9,k10⟩:=hob
 obtain ⟨z,hz,hzr⟩:=k10 0 (.omp mid mv) rfl
 simp only[XaT,if_true,Rep] at hzr
 obtain ⟨mb,mcb,hmb,rfl⟩:=hzr
 obtain ⟨x1,hx1,hom⟩:=I.obs mid mv _ hm
 rw[hmb] at hx1
 obtain rfl:some (mb,mcb)=x1:=by simpa using hx1
 obtain ⟨rfl,hl,hM0,ents,clock,g3,g4,g5,g6⟩:=hom
 have F:=XnB g4 hb g5 g6 hnd hl
 have hkp:=Xl3 g4 hb
 generalize hD:(DataW.map ((ents.toList.map (WideElems.rg (H:=Unit) Tryz.prog 37 (plainElem Tryz.prog 4))).foldr DataW.insert []))=D0 at hkp
 have hown:w.ownsMap Tryz.prog 37 (plainElem Tryz.prog 4) mb ents.size D0:=⟨ents,clock,g3,F,WQ _,hD.symm⟩
 have hcell:w.cell? ⟨b,0,none⟩=some (.map (some mb)):=by simp[World.cell?,k1,hz]
 have hbl:b<w.heap.size:=(UG.1 k1).1
 have hsz:Maps.size D0=es.length:=by
  have h1:=hkp.length_eq
  rw[← hD] at h1 ⊢
  simpa [intKeys,Maps.size] using h1
 have hseq:=it_keys_gives (H:=Unit) Fence.wide 1 trivial rfl (WQ _) b mb ents.size D0 w hbl hcell hown
 have hcall:=it_collect_in Fence.wide 3 trivial trivial rfl (WQ _) 121 #[.pointer (some ⟨b,0,none⟩)] trivial (enters_of it121 (by kernel_rfl) rfl) _ _ (by rw[hsz];unfold maxLen;omega) (by rw[hsz];exact hl8) w hseq
 refine (callsIn_wide.1 hcall).mono ?_
 rintro e w' ⟨u,ss,rfl,hS,hrow,hnil,hbw⟩
 have hperm:ss.Perm (es.map (·.1)):=hS.trans hkp
 have hlen:ss.length=es.length:=by rw[hperm.length_eq,Wt]
 have hrange:∀ x∈ss,0<=x/\x<=18446744073709551615:=λ x hx=>by
  obtain ⟨p,hp,rfl⟩:=W8.1 (hperm.mem_iff.1 hx)
  exact (hb p hp).2
 have hkeep:Kp w [] w':=⟨hbw.os,hbw.tape,hbw.output,hbw.size,λ k hk _=>hbw.block k hk⟩
 have fin:∀ M':Mem,MemOK M' w'->(∀ b o,b<w.heap.size->M' b o=M b o)->Rep Tryz.prog M' β (.isl 37 1 (ss.map λ x=>[.v (.int .u64 x)])) u->∃ v d s' k' M' β',Ending.returned u=.returned v/\Iw Tryz.prog C s' (·<k') M' β' w'/\Rep Tryz.prog M' β' d v/\MLe M M'/\BLe β β'/\K (nxS st (XX dst st.n) d s' st.n k'):=by
  intro M' hm' hold hrep
  obtain ⟨I2,hM2⟩:=I.called (ids:=[]) (lb:=[]) (obs:=[]) ⟨Is,λ _ h=>by cases h⟩ (λ j i h=>by simp at h) rfl hkeep hm' hold rfl (λ k ob x h=>by simp at h)
  exact ⟨u,_,st.s,st.k,M',β,rfl,I2,hrep,hM2,BLe.refl _,hK ss hperm⟩
 have hlt:ss.length<=Xn/\ss.length*8<=Xn:=by simp only[Xn];omega
 rcases hrow.2 with ⟨rfl,h0⟩ | ⟨g,cap,cur,rfl,hbase,hgb,hr1,hr2,hr3,hr4⟩
 ·have hss:ss=[]:=hnil.1 rfl
  subst hss
  refine fin M (λ b o x hx=>?_) (λ _ _ _=>rfl) ?_
  ·have hlt:=I.mem.lt hx
   have:=I.mem b o x hx
   refine ⟨?_,this.2⟩
   rw[← this.1]
   simp[World.cell?,hbw.block b hlt]
  ·simp only[UO,Rep]
   exact ⟨by simp,by simp,by simp,none,0,rfl,WQ _,by simp⟩
 ·rw[Nat.mul_one] at hr4
  have row2:∀ o,o<ss.length->cur[o]? = (ss[o]?).map encU:=λ o ho=>by
   have h1:(cur.toList.take ss.length)[o]? = (ss.map encU)[o]?:=by rw[hr4]
   rw[List.getElem?_take_of_lt ho,W7,Ii] at h1
   exact h1
  have row:∀ o,o<ss.length->∀ x,cur[o]? = some x->∃ y,y∈ss/\x=encU y:=λ o ho x hx=>by
   rw[row2 o ho,Wc ho] at hx
   exact ⟨_,W6 ho,(Ww hx).symm⟩
  refine fin (λ b o=>if b=g then (if o<ss.length then cur[o]? else none) else M b o) (λ b o x hx=>?_) (λ b o hb=>Wh (by omega)) ?_
  ·simp only at hx
   split at hx
   ·rename_i e
    subst e
    split at hx
    ·rename_i ho
     refine ⟨by simp[World.cell?,hgb,hx],?_⟩
     obtain ⟨y,_,rfl⟩:=row o ho x hx
     rfl
    ·cases hx
   ·have hlt:=I.mem.lt hx
    have:=I.mem b o x hx
    refine ⟨?_,this.2⟩
    rw[← this.1]
    simp[World.cell?,hbw.block b hlt]
  ·simp only[Rep]
   refine ⟨by simp,by rw[Wt];exact hlt.1,by rw[Wt,XpL];exact hlt.2,_,_,by rw[Wt],by rw[Wt];exact hr1,.inr ⟨g,0,rfl,Xe2 ss 0 hrange λ j y hj=>?_⟩⟩
   have hjl:j<ss.length:=(IT.1 hj).1
   rw[Wn rfl,UM,Wn hjl,row2 j hjl,hj];rfl
def Z9:List Oper->List Oper
 | []=>[]
 | [_]=>[]
 | a::b::l=>a::Z9 (b::l)
def XaS:List Oper->Oper
 | []=>default
 | [a]=>a
 | _::b::l=>XaS (b::l)
theorem Xl4 {a:Oper}:Z9 [a]=[]:=rfl
theorem Xl5 {a b:Oper} {l:List Oper}:Z9 (a::b::l)=a::Z9 (b::l):=rfl
theorem Xl6 {a:Oper}:XaS [a]=a:=rfl
theorem Xl7 {a b:Oper} {l:List Oper}:XaS (a::b::l)=XaS (b::l):=rfl
theorem dbL {C:Cx} {R:St->Prop} {k:List It} {st:St} {l:List Oper} (f id b:Nat) (aux:List (Nat×Nat×List (List Nat))) (hl:Z9 l++[XaS l]=l) (hb:Xgd (Z9 l) (XaS l)=true) (ho:(JZ b 0 (Z9 l) aux).map (·.o)=Z9 l) (hi:(JZ b 0 (Z9 l) aux).map (·.i)=List.range (JZ b 0 (Z9 l) aux).length) (hc:Xfm (JZ b 0 (Z9 l) aux)=true)
 (h:dr Tryz.prog C ⟨Z9 l⟩ st.k (JZ b 0 (Z9 l) aux) st λ st'=>run Tryz.prog C R 1000 (.ops ⟨l⟩ [XaS l]::k) ⟨st'.t,st'.s,st'.n,st.k+(JZ b 0 (Z9 l) aux).length⟩) (t:Prf (⟨l⟩:Array Oper)):DrawnG Tryz.prog C R id ⟨l⟩ k st t:=by
 have:DrawnG Tryz.prog C R id ⟨Z9 l++[XaS l]⟩ k st trivial:=OT hb Xmt (JZ b 0 (Z9 l) aux) 1000 ho hi hc (by rw[hl];exact h) trivial
 rw[hl] at this
 exact this
theorem Za:JC Tryz.prog 135=some (.u64,4):=by kernel_rfl
def mpF (F:List Int):List (Int×D):=F.map λ x=>(x,D.v (.bool true))
theorem XgU:∀ {F:List Int} {x:Int},x∉F->Vi (mpF F) x (.v (.bool true))=mpF (F++[x])
 | [],x,_=>rfl
 | y::F,x,h=>by
  simp only[UN,not_or] at h
  show (if x=y then _ else _)=_
  rw[Wh h.1]
  exact congrArg _ (XgU h.2)
theorem YK (F:List Int):(mpF F).length=F.length:=by simp[mpF]
theorem XgV (F:List Int):(mpF F).map (·.1)=F:=by simp[mpF,Function.comp_def]
def RS (a0:Wm) (out:List Bool) (F:List Int) (st:St):Prop:=st.s 64=some (1,.arr true 61 10 [e61 a0] 0)/\st.s 192=some (10,.arr true 85 1 [[.osl 1280 9 1 0 a0.Things.length]] 0)/\st.s 256=some (13,.arr true 135 1 [[.omp 1344 12]] 0)/\st.s 1280=some (9,.arr false 4 1 (out.map e4) 0)/\st.s 1344=some (12,.mp .u64 (mpF F))
def FT (st:St):Prop:=st.n=86/\st.t 1=.ept 64 1 10 0 0/\st.t 3=.ept 192 10 1 0 0/\st.t 4=.ept 256 13 1 0 0/\st.t 5=.clo (.func 58) [] [.ept 192 10 1 0 0,.ept 256 13 1 0 0]
theorem XnC {N:Nat} {a0:Wm} {l F todo:List Int} {out:List Bool} (hn:a0.Things.length<=140737488355328) (h:OJ N a0 l out F todo) {x:Int} (h0:0<=x) (h1:x<=a0.Things.length) :
 (x=0/\Jv out x=out/\XaU out F x=F)\/((x != 0)=true/\wU (x-1)=x-1/\(0<=x-1/\x-1<a0.Things.length)/\(out.map e4).getD (x-1).toNat []=[.v (.bool true)]/\Jv out x=out/\XaU out F x=F) \/
 ((x != 0)=true/\wU (x-1)=x-1/\(0<=x-1/\x-1<a0.Things.length)/\(out.map e4).getD (x-1).toNat []=[.v (.bool false)]/\(out.map e4).set (x-1).toNat [.v (.bool true)]=(Jv out x).map e4/\Vi (mpF F) x (.v (.bool true))=mpF (XaU out F x)):=by
 by_cases hx:x=0
 ·subst hx;exact .inl ⟨rfl,rfl,rfl⟩
 have hx':(x != 0)=true:=by simpa using hx
 have hj:(x-1).toNat<out.length:=by rw[h.len];omega
 have hg:out.getD (x-1).toNat false=out[(x-1).toNat]:=by rw[Wk,Wc hj];rfl
 have hm:(out.map e4).getD (x-1).toNat []=[.v (.bool out[(x-1).toNat])]:=by rw[Wk,W7,Wc hj];rfl
 have hw:wU (x-1)=x-1:=XT (by omega) (by omega)
 unfold Jv XaU Vs
 rw[hg,hx',WN,hm]
 cases hb:out[(x-1).toNat] with
 | true=>exact .inr (.inl ⟨rfl,hw,by omega,rfl,rfl,rfl⟩)
 | false =>
  refine .inr (.inr ⟨rfl,hw,by omega,rfl,?_,?_⟩)
  ·simp only[WS,if_true,List.map_set];rfl
  ·simp only[WS,if_true]
   refine XgU λ hm=>?_
   have:=(h.mem x (.inl hm)).2.2
   rw[Wc hj,hb] at this
   cases this
theorem Xl8 {i n:Nat} (h:i<n) (hn:n<=140737488355328):wI ((i:Int)+1)=((i+1:Nat):Int):=by rw[Xe (by omega) (by omega)];omega
def Rt (l:List Int) (out:List Bool):Prop:=∀ x∈l,x≠0->out[(x-1).toNat]? = some true
def Vu1 (N:Nat) (a0:Wm) (l y:List Int) (n:Nat) (st:St):Prop:=∃ (i:Nat) (out:List Bool) (F:List Int),i<=y.length/\n=y.length-i/\OJ N a0 l out F []/\(∀ (j:Nat) x,j<i->y[j]? = some x->x≠0->out[(x-1).toNat]? = some true)/\st.n=29/\st.t 1=.ept 192 10 1 0 0/\st.t 2=.ept 256 13 1 0 0/\st.t 6=.isl 37 1 (y.map e37)/\st.t 7=.v (.int .i64 (y.length:Int))/\st.t 8=.v (.int .i64 (i:Int))/\RS a0 out F st
def Vu2 (N:Nat) (a0:Wm) (l y:List Int) (n:Nat) (st:St):Prop:=∃ (i:Nat) (out:List Bool) (F:List Int),i<=a0.Marks.length/\n=a0.Marks.length-i/\OJ N a0 l out F []/\Rt y out/\(∀ (j:Nat) m,j<i->a0.Marks[j]? = some m->m.Id≠0->out[(m.Id-1).toNat]? = some true)/\FT st/\st.t 36=.isl 116 3 (a0.Marks.map Yv)/\st.t 37=.v (.int .i64 (a0.Marks.length:Int))/\st.t 38=.v (.int .i64 (i:Int))/\RS a0 out F st
def Vu3 (N:Nat) (a0:Wm) (l:List Int) (n:Nat) (st:St):Prop:=∃ (out:List Bool) (F:List Int),OJ N a0 l out F []/\n=2*KS out+(if F=[] then 0 else 1)/\Rt l out/\FT st/\RS a0 out F st
def Vu4 (N:Nat) (a0:Wm) (l xs:List Int) (c0:Nat) (n:Nat) (st:St):Prop:=∃ (i:Nat) (out:List Bool) (F:List Int),i<=xs.length/\n=xs.length-i/\OJ N a0 l out F (xs.drop i)/\KS out+F.length=c0/\Rt l out/\FT st/\st.t 55=.isl 37 1 (xs.map e37)/\st.t 56=.v (.int .i64 (xs.length:Int))/\st.t 57=.v (.int .i64 (i:Int))/\RS a0 out F st
def Vu5 (N:Nat) (a0:Wm) (l xs:List Int) (c0 i:Nat) (t:W5) (ps:List Int) (n:Nat) (st:St):Prop:=∃ (m:Nat) (out:List Bool) (F:List Int),m<=ps.length/\n=ps.length-m/\OJ N a0 l out F (xs.drop i)/\KS out+F.length=c0/\Rt l out/\(∀ (j:Nat) k,j<m->ps[j]? = some k->t.Fields.getD k.toNat 0≠0->out[(t.Fields.getD k.toNat 0-1).toNat]? = some true)/\FT st/\st.t 55=.isl 37 1 (xs.map e37)/\st.t 56=.v (.int .i64 (xs.length:Int))/\st.t 57=.v (.int .i64 (i:Int)) /\
 st.t 69=.isl 3 1 (ps.map e3)/\st.t 70=.v (.int .i64 (ps.length:Int))/\st.t 71=.v (.int .i64 (m:Int))/\RS a0 out F st/\∃ w,st.t 11=.ept 704 w 4 0 0/\st.s 704=some (w,.arr true 77 4 [e77 t] 0)
instance Qlv:∀ N (a0:Wm),OK (Qe9 N a0) 21 [.agg (e61 a0)] [] (λ r=>.isl 4 1 (r.map e4)) λ r=>[]:=by
 refine λ N a0=>rn Tryz.f21 [.tmp 2] [] 86 (by kernel_rfl) ?_
 rintro _ hw r hr C x rfl hwf hf
 have hlen:a0.Things.length*48<=140737488355328:=by
  simp only[WfL,Wf,e61,Wt,Xn,XdK] at hwf
  exact hwf.1.2.2.1.2.2.1
 simp only[Tryz.f21,Option.get!]
 rw[Qe9] at hr
 repeat' first
  |(refine El.el hr ?_;clear hr;intro hr)
  |(with_reducible intro h;refine Xz hr h ?_;clear hr;intro hr)
  |with_reducible intro _
  |simp only[go_sem,simprocAttr,Za,Xl4,Xl5,Xl6,Xl7]
  |(with_reducible first|apply Xg|apply Xf|apply Xs)
  |(refine Xl ?_ ?_;·first|assumption|omega)
  |(refine dbL 21 6 23 [(0,2046,[[],[2048]]),(0,505,[]),(2,505,[]),(0,199,[]),(8,199,[]),(24,199,[]),(0,63,[]),(64,63,[]),(248,7,[]),(510,1,[[2048],[]]),(1022,1,[[2048],[]])] rfl (by kernel_rfl) rfl rfl (by kernel_rfl) ?_ _)
  |(refine CallX.inl (f:=58) 86 (fn:=Tryz.f58) (rs:=[]) (nt:=29) 1000 (by kernel_rfl) (λ x=>?_) _;simp only[Tryz.f58,Option.get!])
  |with_reducible refine CallX.c ?_ _
  |with_reducible refine OK.c hr hw ?_ (λ y hr=>?_) _
  |with_reducible refine Oy hr hw ?_ (λ y hr=>?_) _
  |(refine Xq hr ?_;rintro rfl;with_reducible refine XG ?_)
  |fail
 rename_i hok
 obtain ⟨ex,hex,hr⟩:∃ ex,Qar N a0 N 0 (List.replicate a0.Things.length false) (y++a0.Marks.map (·.Id))=some ex/\some ex=some r:=Jx hr λ ex h1 h2=>⟨ex,h1,h2⟩
 obtain rfl:=Ww hr
 have hd:=XcW hok
 have hfin:=XfK hd (by omega) hex
 clear hr
 generalize hl:y++a0.Marks.map (·.Id)=l at hd hfin
 have hyl:∀ x∈y,x∈l:=λ x hx=>by rw[← hl];exact Uf _ hx
 have hml:∀ m∈a0.Marks,m.Id∈l:=λ m hm=>by rw[← hl];exact Uj _ (W8.2 ⟨m,hm,rfl⟩)
 have hylen:y.length<=140737488355328:=by have:=hd.len;rw[← hl,Wr] at this;omega
 have hmlen:a0.Marks.length<=140737488355328:=by have:=hd.len;rw[← hl,Wr,Wt] at this;omega
 have hn0:a0.Things.length<=140737488355328:=by omega
 refine LoopG.of (Vu1 N a0 l y) 1000 y.length ?_ ?_ _
 ·refine ⟨0,List.replicate a0.Things.length false,[],Ix _,rfl,.start,λ j x hj=>by omega,?_⟩
  unfold RS
  simp only[go_sem,simprocAttr,List.map_replicate]
  simp[mpF]
 ·rintro n st ⟨i,out,F,hi,rfl,hI,hdone,E0,E1,E2,E3,E4,E5,H1,H2,H3,H4,H5⟩
  have hfl:F.length<140737488355328\/a0.Things.length=140737488355328:=by have:=hI.cnt;omega
  by_cases hil:i<y.length
  ·have hq:=Wc hil
   have hxm:y[i]∈l:=hyl _ (W6 hil)
   generalize y[i]=x at hq hxm
   have hx:=hd.roots x hxm
   have hol:x<=out.length:=by rw[hI.len];exact hx.2
   have hyd:(y.map e37).getD i []=e37 x:=by rw[Wk,W7,hq];rfl
   have hdc:decide ((i:Int)<(y.length:Int))=true:=Wo (by omega)
   have hws:=Xl8 hil hylen
   have hI2:=hI.see hx.1 hx.2 (λ h0=>OZ.root hxm h0)
   have hfl:F.length<140737488355328:=by have:=hI.cnt;omega
   have hdn:∀ (j:Nat) z,j<i+1->y[j]? = some z->z≠0->(Jv out x)[(z-1).toNat]? = some true:=λ j z hj hz h0=>by
    rcases Uk j i with h1 | h1
    ·exact Je hx.1 hol (hdone j z h1 hz h0)
    ·obtain rfl:j=i:=by omega
     rw[hq] at hz;obtain rfl:=Ww hz
     exact Xb1 hx.1 hol h0
   simp only[e37] at hyd
   rcases XnC hn0 hI hx.1 hx.2 with ⟨hz,hO,hF⟩ | ⟨hA,hB,hC2,hD,hO,hF⟩ | ⟨hA,hB,hC2,hD,hO,hF⟩
   ·
    repeat' first
     |simp only[go_sem,simprocAttr,Za,YK,E0,E1,E2,E3,E4,E5,H1,H2,H3,H4,H5,hdc,hyd,hz,WD,Wt]
     |(refine Xl ?_ ?_;·first|assumption|omega)
     |fail
    refine ⟨y.length-(i+1),by omega,i+1,_,_,by omega,rfl,hI2,hdn,?_⟩
    unfold RS
    simp only[go_sem,simprocAttr,E0,E1,E2,E3,E4,E5,H1,H2,H3,H4,H5,hws,hO,hF]
   ·
    repeat' first
     |simp only[go_sem,simprocAttr,Za,YK,E0,E1,E2,E3,E4,E5,H1,H2,H3,H4,H5,hdc,hyd,hA,hB,hD,hI.len,WD,Wt]
     |(refine Xl ?_ ?_;·first|assumption|omega)
     |fail
    refine ⟨y.length-(i+1),by omega,i+1,_,_,by omega,rfl,hI2,hdn,?_⟩
    unfold RS
    simp only[go_sem,simprocAttr,E0,E1,E2,E3,E4,E5,H1,H2,H3,H4,H5,hws,hO,hF]
   ·
    repeat' first
     |simp only[go_sem,simprocAttr,Za,YK,E0,E1,E2,E3,E4,E5,H1,H2,H3,H4,H5,hdc,hyd,hA,hB,hD,hI.len,WD,Wt]
     |(refine Xl ?_ ?_;·first|assumption|omega)
     |(refine db 58 4 ⟨⟩ 22 [(0,30,[]),(0,25,[]),(2,25,[]),(0,55,[[],[1280]]),(0,47,[[],[1280]]),(7,24,[]),(39,24,[[1280],[]]),(127,0,[[1344],[]])] rfl rfl (by kernel_rfl) ?_ _)
     |fail
    refine ⟨y.length-(i+1),by omega,i+1,_,_,by omega,rfl,hI2,hdn,?_⟩
    unfold RS
    simp only[go_sem,simprocAttr,E0,E1,E2,E3,E4,E5,H1,H2,H3,H4,H5,hws,hO,hF]
  ·obtain rfl:i=y.length:=by omega
   have hdc:decide ((y.length:Int)<(y.length:Int))=false:=Wl (by omega)
   have hRy:Rt y out:=λ x hx h0=>by
    obtain ⟨j,hj,rfl⟩:=WX hx
    exact hdone j _ hj (Wc hj) h0
   clear hdone hfl
   repeat' first
    |simp only[go_sem,simprocAttr,Za,YK,E0,E1,E2,E3,E4,E5,H1,H2,H3,H4,H5,hdc,WD,Wt]
    |(refine Xl ?_ ?_;·first|assumption|omega)
    |fail
   refine LoopG.of (Vu2 N a0 l y) 1000 a0.Marks.length ?_ ?_ _
   ·refine ⟨0,out,F,Ix _,rfl,hI,hRy,λ j x hj=>by omega,?_⟩
    unfold RS FT
    simp only[go_sem,simprocAttr,H1,H2,H3,H4,H5]
   ·clear E0 E1 E2 E3 E4 E5 H1 H2 H3 H4 H5 hdc hRy hI
    clear hi st out F
    rintro n st ⟨i,out,F,hi,rfl,hI,hRy,hdone,⟨E0,E1,E2,E3,E4⟩,E5,E6,E7,H1,H2,H3,H4,H5⟩
    by_cases hil:i<a0.Marks.length
    ·have hq:=Wc hil
     have hxm:a0.Marks[i].Id∈l:=hml _ (W6 hil)
     generalize a0.Marks[i]=mk at hq hxm
     have hx:=hd.roots mk.Id hxm
     have hol:mk.Id<=out.length:=by rw[hI.len];exact hx.2
     have hyd:(a0.Marks.map Yv).getD i []=Yv mk:=by rw[Wk,W7,hq];rfl
     have hdc:decide ((i:Int)<(a0.Marks.length:Int))=true:=Wo (by omega)
     have hws:=Xl8 hil hmlen
     have hI2:=hI.see hx.1 hx.2 (λ h0=>OZ.root hxm h0)
     have hfl:F.length<140737488355328:=by have:=hI.cnt;omega
     have hRy2:Rt y (Jv out mk.Id):=λ z hz h0=>Je hx.1 hol (hRy z hz h0)
     have hdn:∀ (j:Nat) z,j<i+1->a0.Marks[j]? = some z->z.Id≠0->(Jv out mk.Id)[(z.Id-1).toNat]? = some true:=λ j z hj hz h0=>by
      rcases Uk j i with h1 | h1
      ·exact Je hx.1 hol (hdone j z h1 hz h0)
      ·obtain rfl:j=i:=by omega
       rw[hq] at hz;obtain rfl:=Ww hz
       exact Xb1 hx.1 hol h0
     simp only[Yv] at hyd
     rcases XnC hn0 hI hx.1 hx.2 with ⟨hz,hO,hF⟩ | ⟨hA,hB,hC2,hD,hO,hF⟩ | ⟨hA,hB,hC2,hD,hO,hF⟩
     ·
      repeat' first
       |simp only[go_sem,simprocAttr,Za,YK,E0,E1,E2,E3,E4,E5,E6,E7,H1,H2,H3,H4,H5,hdc,hyd,XeZ,hz,WD,Wt]
       |(refine Xl ?_ ?_;·first|assumption|omega)
       |(refine CallX.inl (f:=58) 86 (fn:=Tryz.f58) (rs:=[]) (nt:=29) 1000 (by kernel_rfl) (λ x=>?_) _;simp only[Tryz.f58,Option.get!])
       |with_reducible refine OI 6 ?_ _
       |with_reducible refine LoopU.s 1000 ?_ _
       |fail
      refine ⟨a0.Marks.length-(i+1),by omega,i+1,_,_,by omega,rfl,hI2,hRy2,hdn,?_⟩
      unfold RS FT
      simp only[go_sem,simprocAttr,E0,E1,E2,E3,E4,E5,E6,E7,H1,H2,H3,H4,H5,hws,hO,hF]
     ·
      repeat' first
       |simp only[go_sem,simprocAttr,Za,YK,E0,E1,E2,E3,E4,E5,E6,E7,H1,H2,H3,H4,H5,hdc,hyd,XeZ,hA,hB,hD,hI.len,WD,Wt]
       |(refine Xl ?_ ?_;·first|assumption|omega)
       |(refine CallX.inl (f:=58) 86 (fn:=Tryz.f58) (rs:=[]) (nt:=29) 1000 (by kernel_rfl) (λ x=>?_) _;simp only[Tryz.f58,Option.get!])
       |with_reducible refine OI 6 ?_ _
       |with_reducible refine LoopU.s 1000 ?_ _
       |fail
      refine ⟨a0.Marks.length-(i+1),by omega,i+1,_,_,by omega,rfl,hI2,hRy2,hdn,?_⟩
      unfold RS FT
      simp only[go_sem,simprocAttr,E0,E1,E2,E3,E4,E5,E6,E7,H1,H2,H3,H4,H5,hws,hO,hF]
     ·
      repeat' first
       |simp only[go_sem,simprocAttr,Za,YK,E0,E1,E2,E3,E4,E5,E6,E7,H1,H2,H3,H4,H5,hdc,hyd,XeZ,hA,hB,hD,hI.len,WD,Wt]
       |(refine Xl ?_ ?_;·first|assumption|omega)
       |(refine CallX.inl (f:=58) 86 (fn:=Tryz.f58) (rs:=[]) (nt:=29) 1000 (by kernel_rfl) (λ x=>?_) _;simp only[Tryz.f58,Option.get!])
       |with_reducible refine OI 6 ?_ _
       |with_reducible refine LoopU.s 1000 ?_ _
       |(refine db 58 4 ⟨⟩ 22 [(0,30,[]),(0,25,[]),(2,25,[]),(0,55,[[],[1280]]),(0,47,[[],[1280]]),(7,24,[]),(39,24,[[1280],[]]),(127,0,[[1344],[]])] rfl rfl (by kernel_rfl) ?_ _)
       |fail
      refine ⟨a0.Marks.length-(i+1),by omega,i+1,_,_,by omega,rfl,hI2,hRy2,hdn,?_⟩
      unfold RS FT
      simp only[go_sem,simprocAttr,E0,E1,E2,E3,E4,E5,E6,E7,H1,H2,H3,H4,H5,hws,hO,hF]
    ·obtain rfl:i=a0.Marks.length:=by omega
     have hdc:decide ((a0.Marks.length:Int)<(a0.Marks.length:Int))=false:=Wl (by omega)
     have hR:Rt l out:=λ x hx h0=>by
      rw[← hl] at hx
      rcases WH.1 hx with hx | hx
      ·exact hRy x hx h0
      ·obtain ⟨m,hm,rfl⟩:=W8.1 hx
       obtain ⟨j,hj,rfl⟩:=WX hm
       exact hdone j _ hj (Wc hj) h0
     clear hdone hRy
     repeat' first
      |simp only[go_sem,simprocAttr,Za,YK,E0,E1,E2,E3,E4,E5,E6,E7,H1,H2,H3,H4,H5,hdc,WD,Wt]
      |(refine Xl ?_ ?_;·first|assumption|omega)
      |fail
     refine LoopG.of (Vu3 N a0 l) 1000 (2*KS out+(if F=[] then 0 else 1)) ?_ ?_ _
     ·refine ⟨out,F,hI,rfl,hR,?_⟩
      unfold RS FT
      simp only[go_sem,simprocAttr,E0,E1,E2,E3,E4,H1,H2,H3,H4,H5]
     ·clear E0 E1 E2 E3 E4 E5 E6 E7 H1 H2 H3 H4 H5 hdc hR hI
      clear hi st out F
      rintro n st ⟨out,F,hI,rfl,hR,⟨E0,E1,E2,E3,E4⟩,H1,H2,H3,H4,H5⟩
      by_cases hF0:F=[]
      ·subst hF0
       have hout:=(hI.fin hR).unique hfin (λ x hx=>(hd.roots x hx).1) (λ x c hc=>(hd.kid hc).1)
       have hdc:decide ((((mpF []).length:Nat):Int)>0)=false:=rfl
       repeat' first
        |simp only[go_sem,simprocAttr,Za,E0,E1,E2,E3,E4,H1,H2,H3,H4,H5,hdc,WD,Wt,hout]
        |(refine Xl ?_ ?_;·first|assumption|omega)
        |with_reducible refine XG ?_
        |fail
       refine ⟨Nat.le_of_eq hfin.len.symm,?_⟩
       rw[UZ (by rw[Wt,hfin.len];exact WQ _)]
       with_reducible refine XG ?_
       simp only[go_sem,simprocAttr]
      ·have hdc:decide ((((mpF F).length:Nat):Int)>0)=true:=by rw[YK];exact Wo (by have:=List.length_pos_iff.2 hF0;omega)
       have hmem:∀ p∈mpF F,p.2=.v (.bool true)/\0<=p.1/\p.1<=18446744073709551615:=λ p hp=>by
        obtain ⟨x,hx,rfl⟩:=W8.1 hp
        have:=hI.mem x (.inl hx)
        exact ⟨rfl,by show 0<=x;omega,by show x<=_;omega⟩
       have hl8:(mpF F).length*8<=140737488355328:=by rw[YK];have:=hI.cnt;omega
       have hnd:((mpF F).map (·.1)).Nodup:=by rw[XgV];exact hI.nodup
       repeat' first
        |simp only[go_sem,simprocAttr,Za,E0,E1,E2,E3,E4,H1,H2,H3,H4,H5,hdc,WD,Wt]
        |(refine Xl ?_ ?_;·first|assumption|omega)
        |(refine CallX.inl (f:=63) 120 (fn:=Tryz.f63) (rs:=[.tmp 2]) (nt:=4) 1000 (by kernel_rfl) (λ x=>?_) _;simp only[Tryz.f63,Option.get!])
        |fail
       refine Xkj (id:=7744) (mid:=1344) (mv:=12) (fz:=0) (es:=mpF F) (by simp only[go_sem,simprocAttr]) (by simp only[go_sem,simprocAttr,H5]) hnd hmem hl8 (λ xs hp=>?_) _
       rw[XgV] at hp
       have hI0:=hI.wave hp
       have hxl:xs.length<=140737488355328:=by have:=hI.cnt;rw[hp.length_eq];omega
       have hcl:KS out+0<2*KS out+(if F=[] then 0 else 1)\/True:=.inr trivial
       rw[Wh hF0]
       rw[show (xs.map λ x=>[D.v (.int .u64 x)])=xs.map e37 from rfl]
       repeat' first
        |simp only[go_sem,simprocAttr,Za,E0,E1,E2,E3,E4,H1,H2,H3,H4,H5,hdc,WD,Wt]
        |(refine Xl ?_ ?_;·first|assumption|omega)
        |fail
       refine LoopG.of (Vu4 N a0 l xs (KS out)) 1000 xs.length ?_ ?_ _
       ·refine ⟨0,out,[],Ix _,rfl,hI0,rfl,hR,?_⟩
        unfold RS FT
        simp only[go_sem,simprocAttr,E0,E1,E2,E3,E4,H1,H2,H3,H4,H5]
        simp[mpF]
       ·generalize KS out=c0
        clear E0 E1 E2 E3 E4 H1 H2 H3 H4 H5 hdc hR hI hI0 hcl hl8 hnd hmem hp hF0
        clear st out F
        rintro n st ⟨i,out,F,hi,rfl,hI,hc0,hR,⟨E0,E1,E2,E3,E4⟩,E5,E6,E7,H1,H2,H3,H4,H5⟩
        by_cases hil:i<xs.length
        ·have hq:=Wc hil
         have hdrop:=WA hil
         generalize xs[i]=x at hq hdrop
         have hx:=hI.mem x (.inr (by rw[hdrop];simp))
         have hxR:OZ (Zt N a0) l x:=by have:=hI.sound _ hx.2.2;rwa[show (((x-1).toNat:Nat):Int)+1=x by omega] at this
         have hyd:(xs.map e37).getD i []=e37 x:=by rw[Wk,W7,hq];rfl
         have hdc:decide ((i:Int)<(xs.length:Int))=true:=Wo (by omega)
         have hws:=Xl8 hil hxl
         have hwx:wU (x-1)=x-1:=XT (by omega) (by omega)
         have hxi:0<=x-1/\x-1<a0.Things.length:=by omega
         have hti:=Wc (show (x-1).toNat<a0.Things.length by omega)
         generalize a0.Things[(x-1).toNat]'(by omega)=t at hti
         have htd:(a0.Things.map e77).getD (x-1).toNat []=e77 t:=by rw[Wk,W7,hti];rfl
         obtain ⟨ps,hps,hrf,hpl,hpk⟩:=hd.thing t (WU hti)
         have hkid:Zt N a0 x=ps.map λ i=>t.Fields.getD i.toNat 0:=by unfold Zt;rw[hti];simp only[hps]
         simp only[e37] at hyd
         simp only[e77] at htd
         repeat' first
          |simp only[go_sem,simprocAttr,Za,YK,E0,E1,E2,E3,E4,E5,E6,E7,H1,H2,H3,H4,H5,hdc,hyd,hwx,htd,WD,Wt]
          |(refine Xl ?_ ?_;·first|assumption|omega)
          |with_reducible refine CallX.c ?_ _
          |with_reducible refine OK.t hps hw ?_ ?_ _
          |fail
         refine LoopG.of (Vu5 N a0 l xs c0 i t ps) 1000 ps.length ?_ ?_ _
         ·have fin:∀ st':St,FT st'/\(st'.t 55=.isl 37 1 (xs.map e37)/\st'.t 56=.v (.int .i64 (xs.length:Int))/\st'.t 57=.v (.int .i64 (i:Int))/\st'.t 69=.isl 3 1 (ps.map e3)/\st'.t 70=.v (.int .i64 (ps.length:Int))/\st'.t 71=.v (.int .i64 ((0:Nat):Int))/\RS a0 out F st')->(∀ w,st'.t 11=.ept 704 w 4 0 0->st'.s 704=some (w,.arr true 77 4 [e77 t] 0))->(∃ w,st'.t 11=.ept 704 w 4 0 0)->Vu5 N a0 l xs c0 i t ps ps.length st':=λ st' ⟨h1,h2,h3,h4,h5,h6,h7,h8⟩ h9 ⟨w,h10⟩=>⟨0,out,F,Ix _,rfl,hI,hc0,hR,λ j k hj=>by omega,h1,h2,h3,h4,h5,h6,h7,h8,w,h10,h9 w h10⟩
          refine fin _ ?h1 (λ w hw=>?h2) ⟨?w,?h3⟩
          case h3 =>
           simp only[go_sem,simprocAttr]
           rfl
          case h1 =>
           unfold RS FT
           simp only[go_sem,simprocAttr,E0,E1,E2,E3,E4,E5,E6,E7,H1,H2,H3,H4,H5]
           try exact ⟨trivial,rfl⟩
          case h2 =>
           simp only[go_sem,simprocAttr,D.ept.injEq,true_and,and_true] at hw
           subst hw
           simp only[go_sem,simprocAttr]
         ·clear E0 E1 E2 E3 E4 E5 E6 E7 H1 H2 H3 H4 H5 hdc hyd htd hR hI hc0 hx
          clear st out F
          rintro n st ⟨m,out,F,hm,rfl,hI,hc0,hR,hdone,⟨E0,E1,E2,E3,E4⟩,E5,E6,E7,E10,E11,E12,⟨H1,H2,H3,H4,H5⟩,w,E8,E9⟩
          by_cases hml2:m<ps.length
          ·have hq2:=Wc hml2
           have hkm:ps[m]∈ps:=W6 hml2
           generalize ps[m]=k at hq2 hkm
           obtain ⟨k0,k1,f0,f1⟩:=hpk k hkm
           have hfk:t.Fields.getD k.toNat 0∈Zt N a0 x:=by rw[hkid];exact W8.2 ⟨k,hkm,rfl⟩
           have hfd:(t.Fields.map e37).getD k.toNat []=e37 (t.Fields.getD k.toNat 0):=by rw[Wk,W7,Wk,Wc (show k.toNat<t.Fields.length by omega)];rfl
           generalize hf:t.Fields.getD k.toNat 0=f at hfk hfd f0 f1
           have hol:f<=out.length:=by rw[hI.len];exact f1
           have hyd:(ps.map e3).getD m []=e3 k:=by rw[Wk,W7,hq2];rfl
           have hdc:decide ((m:Int)<(ps.length:Int))=true:=Wo (by omega)
           have hws2:=Xl8 hml2 hpl
           have hI2:=hI.see f0 f1 (λ h0=>OZ.step hxR hfk h0)
           have hfl:F.length<140737488355328:=by have:=hI.cnt;omega
           have hc2:KS (Jv out f)+(XaU out F f).length=c0:=by rw[XcX f0 hol];exact hc0
           have hR2:Rt l (Jv out f):=λ z hz h0=>Je f0 hol (hR z hz h0)
           have hdn:∀ (j:Nat) z,j<m+1->ps[j]? = some z->t.Fields.getD z.toNat 0≠0->(Jv out f)[(t.Fields.getD z.toNat 0-1).toNat]? = some true:=λ j z hj hz h0=>by
            rcases Uk j m with h1 | h1
            ·exact Je f0 hol (hdone j z h1 hz h0)
            ·obtain rfl:j=m:=by omega
             rw[hq2] at hz;obtain rfl:=Ww hz
             rw[hf] at h0 ⊢
             exact Xb1 f0 hol h0
           simp only[e3] at hyd
           simp only[e37] at hfd
           rcases XnC hn0 hI f0 f1 with ⟨hz,hO,hF⟩ | ⟨hA,hB,hC2,hD,hO,hF⟩ | ⟨hA,hB,hC2,hD,hO,hF⟩
           ·
            repeat' first
             |simp only[go_sem,simprocAttr,Za,YK,E0,E1,E2,E3,E4,E5,E6,E7,E8,E9,E10,E11,E12,H1,H2,H3,H4,H5,hdc,hyd,hfd,XeZ,hz,WD,Wt]
             |(refine Xl ?_ ?_;·first|assumption|omega)
             |(refine CallX.inl (f:=58) 86 (fn:=Tryz.f58) (rs:=[]) (nt:=29) 1000 (by kernel_rfl) (λ x=>?_) _;simp only[Tryz.f58,Option.get!])
             |with_reducible refine OI 6 ?_ _
             |with_reducible refine LoopU.s 1000 ?_ _
             |fail
            refine ⟨ps.length-(m+1),by omega,m+1,_,_,by omega,rfl,hI2,hc2,hR2,hdn,?_,?_,?_,?_,?_,?_,?_,?_,w,?_,?_⟩<;>(try unfold RS)<;>(try unfold FT)<;>simp only[go_sem,simprocAttr,E0,E1,E2,E3,E4,E5,E6,E7,E8,E9,E10,E11,E12,H1,H2,H3,H4,H5,hws2,hO,hF]
           ·
            repeat' first
             |simp only[go_sem,simprocAttr,Za,YK,E0,E1,E2,E3,E4,E5,E6,E7,E8,E9,E10,E11,E12,H1,H2,H3,H4,H5,hdc,hyd,hfd,XeZ,hA,hB,hD,hI.len,WD,Wt]
             |(refine Xl ?_ ?_;·first|assumption|omega)
             |(refine CallX.inl (f:=58) 86 (fn:=Tryz.f58) (rs:=[]) (nt:=29) 1000 (by kernel_rfl) (λ x=>?_) _;simp only[Tryz.f58,Option.get!])
             |with_reducible refine OI 6 ?_ _
             |with_reducible refine LoopU.s 1000 ?_ _
             |fail
            refine ⟨ps.length-(m+1),by omega,m+1,_,_,by omega,rfl,hI2,hc2,hR2,hdn,?_,?_,?_,?_,?_,?_,?_,?_,w,?_,?_⟩<;>(try unfold RS)<;>(try unfold FT)<;>simp only[go_sem,simprocAttr,E0,E1,E2,E3,E4,E5,E6,E7,E8,E9,E10,E11,E12,H1,H2,H3,H4,H5,hws2,hO,hF]
           ·
            repeat' first
             |simp only[go_sem,simprocAttr,Za,YK,E0,E1,E2,E3,E4,E5,E6,E7,E8,E9,E10,E11,E12,H1,H2,H3,H4,H5,hdc,hyd,hfd,XeZ,hA,hB,hD,hI.len,WD,Wt]
             |(refine Xl ?_ ?_;·first|assumption|omega)
             |(refine CallX.inl (f:=58) 86 (fn:=Tryz.f58) (rs:=[]) (nt:=29) 1000 (by kernel_rfl) (λ x=>?_) _;simp only[Tryz.f58,Option.get!])
             |with_reducible refine OI 6 ?_ _
             |with_reducible refine LoopU.s 1000 ?_ _
             |(refine db 58 4 ⟨⟩ 22 [(0,30,[]),(0,25,[]),(2,25,[]),(0,55,[[],[1280]]),(0,47,[[],[1280]]),(7,24,[]),(39,24,[[1280],[]]),(127,0,[[1344],[]])] rfl rfl (by kernel_rfl) ?_ _)
             |fail
            refine ⟨ps.length-(m+1),by omega,m+1,_,_,by omega,rfl,hI2,hc2,hR2,hdn,?_,?_,?_,?_,?_,?_,?_,?_,w,?_,?_⟩<;>(try unfold RS)<;>(try unfold FT)<;>simp only[go_sem,simprocAttr,E0,E1,E2,E3,E4,E5,E6,E7,E8,E9,E10,E11,E12,H1,H2,H3,H4,H5,hws2,hO,hF]
          ·obtain rfl:m=ps.length:=by omega
           have hdc:decide ((ps.length:Int)<(ps.length:Int))=false:=Wl (by omega)
           rw[hdrop] at hI
           have hI3:=hI.next λ c hc h0=>by
            rw[hkid] at hc
            obtain ⟨k,hk,rfl⟩:=W8.1 hc
            obtain ⟨j,hj,rfl⟩:=WX hk
            exact hdone j _ hj (Wc hj) h0
           repeat' first
            |simp only[go_sem,simprocAttr,Za,YK,E0,E1,E2,E3,E4,E5,E6,E7,E8,E9,E10,E11,E12,H1,H2,H3,H4,H5,hdc,WD,Wt]
            |(refine Xl ?_ ?_;·first|assumption|omega)
            |fail
           refine ⟨xs.length-(i+1),by omega,i+1,out,F,by omega,rfl,hI3,hc0,hR,?_⟩
           unfold RS FT
           simp only[go_sem,simprocAttr,E0,E1,E2,E3,E4,E5,E6,E7,H1,H2,H3,H4,H5,hws]
        ·obtain rfl:i=xs.length:=by omega
         have hdc:decide ((xs.length:Int)<(xs.length:Int))=false:=Wl (by omega)
         rw[WZ (WQ _)] at hI
         repeat' first
          |simp only[go_sem,simprocAttr,Za,YK,E0,E1,E2,E3,E4,E5,E6,E7,H1,H2,H3,H4,H5,hdc,WD,Wt]
          |(refine Xl ?_ ?_;·first|assumption|omega)
          |fail
         refine ⟨2*KS out+(if F=[] then 0 else 1),?_,out,F,hI,rfl,hR,?_⟩
         ·split
          ·omega
          ·rename_i hF;have:=List.length_pos_iff.2 hF;omega
         ·unfold RS FT
          simp only[go_sem,simprocAttr,E0,E1,E2,E3,E4,H1,H2,H3,H4,H5]
theorem g27:(∀ N (a0:UQ),OK (QcF N a0) 142 [.agg (Kh a0)] [] (λ r=>.v (.int .i64 r)) λ r=>[])/\(∀ N (a0:UQ),OK (Qc9 N a0) 150 [.agg (Kh a0)] [] (λ r=>.v (.int .i64 r)) λ r=>[])/\(∀ N (a0:UQ),OK (QfA N a0) 151 [.agg (Kh a0)] [] (λ r=>.v (.int .i64 r)) λ r=>[])/\(∀ N (a0:UQ),OK (QfD N a0) 155 [.agg (Kh a0)] [] (λ r=>.v (.int .i64 r)) λ r=>[])/\(∀ N (a0:UQ),OK (Qe4 N a0) 157 [.agg (Kh a0)] [] (λ r=>.v (.int .i64 r)) λ r=>[])/\(∀ N (a0:Wm) (a1:Int),OK (Qaf N a0 a1) 40 [.agg (e61 a0),.v (.int .u64 a1)] [] (λ r=>.tup [.v (.int .u64 r.1),.v (.int .i64 r.2)]) λ r=>[]):=by
 refine ⟨λ N _=>rn Tryz.f142 [.tmp 2] [] 11 (by kernel_rfl) ?_,λ N _=>rn Tryz.f150 [.tmp 2] [] 23 (by kernel_rfl) ?_,λ N _=>rn Tryz.f151 [.tmp 2] [] 21 (by kernel_rfl) ?_,λ N _=>rn Tryz.f155 [.tmp 2] [] 8 (by kernel_rfl) ?_,λ N _=>rn Tryz.f157 [.tmp 2] [] 8 (by kernel_rfl) ?_,λ N _ _=>rn Tryz.f40 [.tmp 4,.tmp 5] [] 14 (by kernel_rfl) ?_⟩<;>(rintro _ hw r hr C _ rfl hwf hf;simp only[Tryz.f142,Tryz.f150,Tryz.f151,Tryz.f155,Tryz.f157,Tryz.f40,Option.get!];(first|rw[QcF] at hr|rw[Qc9] at hr|rw[QfA] at hr|rw[QfD] at hr|rw[Qe4] at hr|rw[Qaf] at hr);repeat' first
 |(refine El.el hr ?_;intro hr)
 |(with_reducible intro h;refine Xz hr h ?_;intro hr)
 |with_reducible intro _
 |simp only[go_sem,simprocAttr,XQ]
 |(with_reducible first|apply Xg|apply Xf|apply Xs|apply Xx|apply Xy)
 |((first|with_reducible refine Ye hr (by assumption) ?_ ?_|(with_reducible refine Yd hr ?_ ?_;rotate_left;intro p;rotate_right));(·simp only[go_sem,simprocAttr]);intro hp hn hd hr;(try have XQ:=hd _ e37);(try simp only[go_sem,simprocAttr] at XQ))
 |(refine Xl ?_ ?_;·first|assumption|omega)
 |(with_reducible first|refine CallX.c ?_ _|refine OK.c hr hw ?_ (λ y hr=>?_) _|refine Oy hr hw ?_ (λ y hr=>?_) _)
 |refine db 150 4 hf 13 [(0,504,[]),(1,504,[]),(3,504,[]),(0,103,[]),(8,103,[]),(0,31,[]),(32,31,[]),(120,7,[]),(248,7,[]),(511,0,[]),(1023,0,[])] rfl rfl (by kernel_rfl) ?_ _
 |(refine Xq hr ?_;rintro rfl;with_reducible refine XG ?_)
 |exact Yo hr
 |fail)
@[reducible,instance] def Ql7:=g27.1
@[reducible,instance] def QkL:=g27.2.1
@[reducible,instance] def Ql8:=g27.2.2.1
@[reducible,instance] def Ql9:=g27.2.2.2.1
@[reducible,instance] def Qlw:=g27.2.2.2.2.1
@[reducible,instance] def Qma:=g27.2.2.2.2.2
abbrev Qi6:=λ N (a0:Wz) (Q:(Ex If Unit)→Prop) n (st:St)=>∃ (v2:Int) (ex:_),Qd2 N a0 n v2=some ex/\Q ex/\((∃ w64 w128,st.n=65/\st.t 1=.ept 64 w64 6 0 0/\st.t 2=.ept 128 w128 3 0 0/\st.t 3=.v (.int .i64 v2)/\st.s 64=some (w64,.arr true 42 6 [e42 a0] 0)/\st.s 128=some (w128,.arr true 330 3 [[.v (.int .i64 0),.v (.int .i64 0),.v (.int .u64 0)]] 0)))
abbrev Qi7:=λ N (a0:Wz) (Q:Int→Prop) n (st:St)=>∃ (v6:Int) (v7:Int) (ex:_),Qce N a0 n v6 v7=some ex/\Q ex/\((∃ w64 w128,st.n=65/\st.t 1=.ept 64 w64 6 0 0/\st.t 2=.ept 128 w128 3 0 0/\st.t 6=.v (.int .i64 v6)/\st.t 7=.v (.int .i64 v7)/\st.s 64=some (w64,.arr true 42 6 [e42 a0] 0)/\st.s 128=some (w128,.arr true 330 3 [[.v (.int .i64 0),.v (.int .i64 0),.v (.int .u64 0)]] 0)))
instance Qnt:∀ N (a0:Wz),OK (QgP N a0) 264 [.agg (e42 a0)] [] (λ r=>.agg (XlY r)) λ r=>[]:=by
 refine λ N _=>rn Tryz.f264 [.cell 2 330] [] 65 (by kernel_rfl) ?_<;>(rintro _ hw r hr C _ rfl hwf hf;simp only[Tryz.f264,Option.get!];(rw[QgP] at hr);repeat' first
 |(refine El.el hr ?_;intro hr)
 |(with_reducible intro h;refine Xz hr h ?_;intro hr)
 |with_reducible intro _
 |(refine Xq hr ?_;rintro rfl;have hr:=hk;clear hk)
 |simp only[go_sem,simprocAttr,E,Yn]
 |(with_reducible first|apply Xg|apply Xf|apply Xs)
 |((first|with_reducible refine Ye hr (by assumption) ?_ ?_|(with_reducible refine Yd hr ?_ ?_;rotate_left;intro p;rotate_right));(·simp only[go_sem,simprocAttr]);intro hp hn hd hr;(try have Yn:=hd _ Ym);(try simp only[go_sem,simprocAttr] at Yn))
 |(refine Xl ?_ ?_;·first|assumption|omega)
 |(with_reducible first|refine CallX.c ?_ _|refine OK.c hr hw ?_ (λ y hr=>?_) _)
 |(with_reducible refine Xj (I:=Qi6 N _) hr 1000 N (λ ex hq hk=>⟨_,ex,hq,hk,?_⟩) ?_ _;rotate_left;clear hr;(try clear E);rintro n1 st ⟨v2,ex,hr,hk,⟨_,_,E⟩⟩<;>(obtain _|n1:=n1<;>rw[Qd2] at hr))
 |refine ⟨_,WJ _,_,_,hr,hk,?_⟩
 |(with_reducible refine Xj (I:=Qi7 N _) hr 1000 N (λ ex hq hk=>⟨_,_,ex,hq,hk,?_⟩) ?_ _;rotate_left;clear hr;(try clear E);rintro n2 st ⟨v6,v7,ex,hr,hk,⟨_,_,E⟩⟩<;>(obtain _|n2:=n2<;>rw[Qce] at hr))
 |refine ⟨_,WJ _,_,_,_,hr,hk,?_⟩
 |(refine Xq hr ?_;rintro rfl;with_reducible refine XG ?_)
 |exact Yo hr
 |((first|refine Xz (c:=true) hr rfl ?_|refine Xz (c:=false) hr rfl ?_|refine Xz hr (by assumption) ?_);intro hr)
 |fail)
end Go.Sx
