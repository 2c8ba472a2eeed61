import Derived.KernelRfl
import Derived.Test.YtgdhlnfcogcicaaGreatDoorTE
set_option linter.all false
namespace Go.Sx
section
variable {N:Nat} {w:Wm} {k:Nat}
theorem XgS {a b:Int} (h:tU a) (hb:0<b) (hb2:b<=18446744073709551615):tU (a.tmod b):=by
 unfold tU at h ⊢
 have h1:=Int.tmod_nonneg b h.1
 have h2:=Int.tmod_lt_of_pos a hb
 omega
theorem Xmo {p:IL} {kk:Nat} (hp:PB kk p) (hk:kk<=60) (raw:Wm) (t o:List Int) (f:UH):∀ (n:Nat) (i:Int) (L:List Int) (at_:Int) (v:List I4),0<=i->i<=5->(5-i).toNat<n->TA (20*i) ⟨L,at_⟩->v.length<=2+i->tL JN v->Ok (QbT N raw t o f p n i L at_ v) λ r=>r.length<=7/\tL JN r
 | 0,i,_,_,_,_,_,hn,_,_,_=>by omega
 | n+1,i,L,at_,v,h0,h1,hn,ht,hv,tv=>by
  have w1:=hp.w1
  have w2:=hp.w2
  rw[QbT]
  refine Wq (λ hc=>?_) λ _=>Wg ⟨by omega,tv⟩
  have hc:i<5:=Wu hc
  refine WL (XgH (m:=20*i) w1 (by omega) ht (by omega)) λ y e hy=>?_
  have td:=QgX (N:=N) hp.ty y e
  rw[Xe (n:=i+1) (by omega) (by omega)]
  refine Ug (by omega) (Xmo hp hk raw t o f n (i+1) _ _ _ (by omega) (by omega) (by omega) ?_ ?_ ?_)
  ·rw[show 20*(i+1)=20*i+20 by omega];exact hy
  ·rw[Wr];simp;omega
  ·exact Xhs.2 ⟨tv,by simp only[Xge,Xje,and_true];exact td⟩
theorem Xoe (hN:NB N) {w:Wm} (hw:Wd w) (f:UH) {y7:List I4} (h8:y7.length<=8) (t7:tL JN y7) (y8:List Wm) (j:Int):QaX N f y7 y8 w j N 0=some (.nxt ()):=by
 obtain ⟨⟨kk,hkk,hb⟩,tw⟩:=hw
 have hN':=hN
 unfold NB at hN'
 refine Xae (l:=y7) (F:=QaX N f y7 y8 w j) (λ n k p e=>?_) (λ n=>?_) N 0 (by omega) (by omega)
 ·have hk:=Xo e
  have td:=t7 p (WU e)
  obtain ⟨r,er,hr⟩:=XeJ hN hb (by omega) tw p.Op td.1 td.2.1 td.2.2 f
  have hz:=hr.sb
  rw[QaX,Wo (by omega),We,Xd,e,Xa,XjS hb (by omega),Xa,Xj2 ⟨by omega,hN,hb,tw,td.1,td.2.1,td.2.2⟩ p.Op,er,Xa,Xa,Zm,Wa,Zm,Wa,XjR hz.things hz.marks (by omega),Xa,Xnd hz (by omega),Xa,Xp (by omega)]
  simp only[Wx,Wa]
 ·rw[QaX,Wl (by omega),Wa]
theorem Xof (hN:NB N) (f:UH) {y7:List I4} (h8:y7.length<=8) (t7:tL JN y7) {y8:List Wm} (h3:y8.length<=3) (hd:∀ w∈y8,Wd w):QaY N f y7 y8 N 0=some (.nxt ()):=by
 have hN':=hN
 unfold NB at hN'
 refine Xae (l:=y8) (F:=QaY N f y7 y8) (λ n k p e=>?_) (λ n=>?_) N 0 (by omega) (by omega)
 ·have hk:=Xo e
  rw[QaY,Wo (by omega),We,Xd,e,Xa,Xi (by omega),Xoe hN (hd p (WU e)) f h8 t7,Xa,XN,Xp (by omega)]
 ·rw[QaY,Wl (by omega),Wa]
theorem XaC (raw:Wm) (tape odd:List Int) (op a b c:Int) (f:UH) (tr:Xv raw) (hl:raw.Things.length<=140737488355328) (ta:tU a) (tb:tU b) (tc:tU c):∃ N,QdI N raw tape odd op a b c f=some true:=by
 obtain ⟨N,hN,hr⟩:=exN raw
 obtain ⟨p,ep,kk,hkk,hp⟩:=XgJ hN tape
 obtain ⟨ws,e2,h2,h3⟩:=QkR hN hr hl tr tape odd
 refine ⟨N,?_⟩
 have hN':=hN
 unfold NB at hN'
 obtain ⟨l,el,hll,tl⟩:=Xmo (N:=N) hp hkk raw tape odd f N 0 odd 0 [⟨op,a,b,c⟩,⟨wI (op.tmod 21+1),a.tmod 1048576,b.tmod 4,c⟩] (by omega) (by omega) (by omega) ⟨by simp,by simp⟩ (by simp) (by
  simp only[Xge,Xje,and_true]
  exact ⟨⟨ta,tb,tc⟩,XgS ta (by omega) (by omega),XgS tb (by omega) (by omega),tc⟩)
 obtain ⟨m,rfl⟩:∃ m,N=m+60:=⟨N-60,by omega⟩
 rw[QdI,ep,Xa,el,Xa,e2,Xa,Xof hN f (by omega) tl h2 h3,Xa,XN,XfJ,Xa]
end
end Go.Sx
