import Derived.Test.YtjmgebidnekjdaaGreatLE
set_option linter.all false
namespace Go.Sx
section
variable {N:Nat}
def Xoe {α:Type} (q:α->Bool) (l:List α) (j:Nat) (x:α) (h:∀ y,l[j]? = some y->q y=q x):(l.set j x).all q=l.all q:=by
 by_cases hj:j<l.length
 ·have e1:l.set j x=l.take j++x::l.drop (j+1):=List.set_eq_take_append_cons_drop▸(Wn hj)
  have e2:l=l.take j++l[j]::l.drop (j+1):=by rw[List.getElem_cons_drop,I7]
  rw[e1]
  conv=>rhs;rw[e2]
  simp only[IK,U2]
  rw[h _ (Wb hj)]
 ·rw[List.set_eq_of_length_le (by omega)]
def XcY {α:Type} (l:List α) (i k j:Nat) (x:α):((l.set j x).drop i).take k=if i<=j then ((l.drop i).take k).set (j-i) x else (l.drop i).take k:=by
 by_cases h:i<=j
 ·rw[Wn h,List.drop_set,Wm (by omega),List.take_set]
 ·rw[Wm h,List.drop_set,Wn (by omega)]
def XlJ {c:Um} {ps:List WM} {j:Nat} (hj:j<ps.length) {x:WM} (hx:∀ sp,X9 sp x=X9 sp ps[j]) (hs:Yi c ps j x=Yi c ps j ps[j]) (i:Nat) (hi:i<ps.length) :
 Yi c (ps.set j x) i ((ps.set j x)[i]'(by rw[Wx];exact hi))=Yi c ps i ps[i]:=by
 have hall:∀ sp k,(((ps.set j x).drop (i+1)).take k).all (X9 sp)=((ps.drop (i+1)).take k).all (X9 sp):=by
  intro sp k
  rw[XcY]
  split
  ·refine Xoe _ _ _ _ λ y hy=>?_
   rw[W6] at hy
   split at hy
   ·rw[Uu,show i+1+(j-(i+1))=j by omega,Wb hj] at hy
    cases hy;exact (hx sp).symm
   ·cases hy
  ·rfl
 have e:∀ p,Yi c (ps.set j x) i p=Yi c ps i p:=by
  intro p
  unfold Yi
  simp only[Wx,hall]
 rw[e]
 by_cases hij:i=j
 ·subst hij
  rw[List.getElem_set_self];exact hs
 ·rw[List.getElem_set_ne (by omega)]
def Xbn {h:Wv} (hl:h.Pages.length<=100000) (hN:1000000<N) (ps':List WM) (hlen:ps'.length=h.Pages.length) (hsp:∀ i (hi:i<h.Pages.length),Yi h.Conf ps' i (ps'[i]'(by omega))=Yi h.Conf h.Pages i h.Pages[i]) (ws:List Int) (b:Int):∀ (n i:Nat),i<=h.Pages.length->Qae N ⟨h.Conf,ws,ps',h.Space,b⟩ n (i:Int)=Qae N h n (i:Int)
 | 0,i,_=>by rw[Qae,Qae]
 | n+1,i,hi=>by
  rw[Qae,Qae]
  dsimp only
  rw[hlen]
  by_cases hlt:i<h.Pages.length
  case neg=>rw[Wk (show ¬ (i:Int)<_ by omega),Wa,Wa]
  rw[Wj (show (i:Int)<_ by omega),We,We,KO (by omega) hN (by omega),KO hl hN hlt,hsp i hlt,Xa,Xa]
  have hs:=XcA (c:=h.Conf) hlt (p:=h.Pages[i])
  generalize Yi h.Conf h.Pages i h.Pages[i]=s at *
  by_cases h0:s=0
  ·subst h0;rfl
  ·rw[show (((s:Nat):Int)==0)=false by simpa using h0,Wa,Wa,Xd (by omega) (by omega),show (i:Int)+(s:Int)=((i+s:Nat):Int) by omega]
   exact Xbn hl hN ps' hlen hsp ws b n (i+s) (by omega)
structure OM (h:Wv):Prop where
 conf:XZ h.Conf=true
 words:(h.Words.length:Int)=h.Conf.Pages*h.Conf.PageWords
 pages:(h.Pages.length:Int)=h.Conf.Pages
 space:0<=h.Space/\h.Space<=1
 bump:h.Bump = -1\/(0<=h.Bump/\h.Bump<h.Pages.length/\(pg h.Pages h.Bump).Kind=1)
def UR.pre {h:Wv} (hp:UR h):OM h:=⟨hp.conf,hp.words,hp.pages,hp.space,hp.bump⟩
def JJ {h:Wv} (hp:OM h):Qcz N h=bnd (Qae N h N 0) λ e=>exK e (λ r=>some r) λ _=>some true:=by
 have hv:=Xj.1 hp.conf
 have hm:=X5 hp.conf (i:=0) (by omega) (by omega)
 have hw:=hp.words
 have hpg:=hp.pages
 have e1:(((h.Words.length:Nat):Int) != wI (h.Conf.PageWords*h.Conf.Pages))=false:=by
  rw[Om,Xd (by omega) (by omega)];simpa using hw
 have e2:(((h.Pages.length:Nat):Int) != h.Conf.Pages)=false:=by simpa using hpg
 have e3:∀ {α:Type} (x y z:α),(bif h.Space != 0 then (bif h.Space != 1 then x else y) else y)=y:=by
  intro α x y z
  by_cases s0:h.Space=0
  ·rw[s0];rfl
  ·have s1:h.Space=1:=by have:=hp.space;omega
   rw[s1];rfl
 rw[Qcz]
 simp only[XN,Z4,Xa,hp.conf,Ws,Wa,e1,e2]
 rw[e3 _ _ (some true)]
 rcases hp.bump with hb | ⟨b0,b1,b2⟩
 ·rw[hb];rfl
 ·rw[show (h.Bump != -1)=true by simp;omega,We,XR (show ¬ h.Bump<0 by omega),Wa,XR (show ¬ h.Bump>=((h.Pages.length:Nat):Int) by omega),Wa,Zx b0 b1,Xa,b2];rfl
def Xf1 {h:Wv} (hN:NB N) (hb:HB h) (ep:Qab N h=some true) {ps':List WM} (hlen:ps'.length=h.Pages.length) (hsp:∀ i (hi:i<h.Pages.length),Yi h.Conf ps' i (ps'[i]'(by omega))=Yi h.Conf h.Pages i h.Pages[i]) {ws:List Int} (hw:ws.length=h.Words.length) {b:Int} (hbump:b = -1\/(0<=b/\b<ps'.length/\(pg ps' b).Kind=1)):Qab N ⟨h.Conf,ws,ps',h.Space,b⟩=some true:=by
 have hN':1000000<N:=by unfold NB at hN;omega
 have hp:=Y0 hN hb ep
 rw[← YR (by show ps'.length<=_;rw[hlen];exact hb.2) hN',JJ (h:=⟨h.Conf,ws,ps',h.Space,b⟩) ⟨hp.conf,by show ((ws.length:Nat):Int)=_;rw[hw];exact hp.words,by show ((ps'.length:Nat):Int)=_;rw[hlen];exact hp.pages,hp.space,hbump⟩]
 have:=Xbn hb.2 hN' ps' hlen hsp ws b N 0 (by omega)
 rw[show ((0:Nat):Int)=0 from rfl] at this
 rw[this,← JJ hp.pre,YR hb.2 hN',ep]
end
section
variable {N:Nat}
def Xjm (hN:NB N) {h:Wv} (hb:HB h) (ep:Qab N h=some true) {d:WI} (hv:XD d=true) {a:Int} (ha:Yq h.Words a (d.Length.toNat+1)):∃ h2,QcG N h a d=some (h2,0):=by
 have hb':=XH hv
 obtain ⟨n,hn⟩:∃ n:Nat,d.Length=(n:Int):=⟨d.Length.toNat,by omega⟩
 have ht2:d.Length.toNat=n:=by omega
 rw[ht2] at ha
 rw[QcG,Xac,Wn hv,ep,Xa,Xa,Ws,Wa]
 dsimp only
 rw[show ((0:Int) != 0)=false from rfl,Wa,Xf (by omega),ht2,Xf (by omega),Jj (by unfold BIG;have:=hb.1;omega) (by unfold BIG;simp;omega) (by simp;unfold NB at hN;omega),Wn (by simpa [Nat.add_comm] using ha),Xa]
 dsimp only
 rw[show ((0:Int) != 0)=false from rfl,Wa]
 exact ⟨_,rfl⟩
def Xh6 (hN:1000000<N) {ps:List WM} (hps:ps.length<=100000) {i:Int} (f r:WM) (k:Nat) (hk:1<=k) (hk2:k<=1000) (hr:RunOK ps i (k:Int)):Qeh N ps i (k:Int) f r=some (Kf ps (f::List.replicate (k-1) r) i.toNat,0):=by
 obtain ⟨h0,_,h2,h3⟩:=hr
 obtain ⟨j,rfl⟩:∃ j:Nat,i=(j:Int):=⟨i.toNat,by omega⟩
 have hfree:((ps.drop j).take k).any Xf0=false:=by
  rw[Ig]
  intro p hp hb
  obtain ⟨m,hm,rfl⟩:=WU hp
  rw[WC,WR] at hm
  rw[List.getElem_take,List.getElem_drop] at hb
  have:=h3 (m:Int) (by omega) (by omega)
  have e:pg ps ((j:Int)+(m:Int))=ps[j+m]'(by omega):=by
   unfold pg
   rw[show ((j:Int)+(m:Int)).toNat=j+m by omega,Wr,Wb (by omega)];rfl
  rw[e] at this
  unfold Xf0 at hb
  rw[this] at hb;cases hb
 have ht:=Xh5 (N:=N) 0 j k f r ps hps (by omega) N 0 (by omega) (by omega)
 have hp0:Kf ps (List.replicate 0 r) j=ps:=by unfold Kf;simp
 rw[hp0,Im,Nat.sub_zero,show ((0:Nat):Int)=0 from rfl,hfree,Wm (by simp)] at ht
 rw[Qeh,XR (show ¬ (j:Int)<0 by omega),Wa,XR (show ¬ (j:Int)>=((ps.length:Nat):Int) by omega),Wa,Xd (n:=((ps.length:Nat):Int)-(j:Int)) (by omega) (by omega),XR (show ¬ (k:Int)>((ps.length:Nat):Int)-(j:Int) by omega),Wa,Xf (by omega),ht,Xa,Xk]
 have hl2:(Kf ps (List.replicate k r) j).length=ps.length:=Vg (by rw[WO];omega)
 rw[Xc,Wb (by omega),Xa,show ((j:Nat):Int).toNat=j from rfl]
 congr 2
 unfold Kf
 obtain ⟨m,rfl⟩:∃ m,k=m+1:=⟨k-1,by omega⟩
 rw[WO,IZ,Uc,WO,List.replicate_succ,List.set_append_left _ _ (by simp;omega),List.set_append_right _ _ (by simp;omega)]
 simp only[WC]
 rw[show j-min j ps.length=0 by omega,List.set_cons_zero]
end
section
variable {N:Nat}
def XdF {c:Um} {ps:List WM} {j:Nat} {p:WM} (hk:p.Kind=1) (hs:0<=p.Space/\p.Space<=1) (hp:0<=p.Pins/\p.Pins<=2147483647) (hu:0<=p.Used/\p.Used<=c.PageWords):Yi c ps j p=1:=by
 unfold Yi
 rw[Wm (by omega),Wn (by omega),Wn hk,Wn hu]
def Xg2 {c:Um} {ps:List WM} {j:Nat}:Yi c ps j Xbe=1:=rfl
def Xaw {ps:List WM} {j:Nat} (hj:j<ps.length):pg ps (j:Int)=ps[j]:=by
 unfold pg;rw[show ((j:Nat):Int).toNat=j from rfl,Wr,Wb hj];rfl
def Xf2 (hN:NB N) {h:Wv} (hb:HB h) (ep:Qab N h=some true) {j:Nat} (hj:j<h.Pages.length) {x:WM} (hk:x.Kind=1) (hs:0<=x.Space/\x.Space<=1) (hpn:0<=x.Pins/\x.Pins<=2147483647) (hu:0<=x.Used/\x.Used<=h.Conf.PageWords) (ho:h.Pages[j].Kind=0\/h.Pages[j].Kind=1) {b:Int} (hbump:b=(j:Int)):Qab N ⟨h.Conf,h.Words,h.Pages.set j x,h.Space,b⟩=some true:=by
 have hp:=Y0 hN hb ep
 have hpg:=hp.pgs (j:Int) (by omega) (by omega)
 have e1:Yi h.Conf h.Pages j h.Pages[j]=1:=by
  rcases ho with ho | ho
  ·have:=hpg.free (by rw[Xaw hj];exact ho)
   rw[Xaw hj] at this;rw[this];rfl
  ·have a:=hpg.space;have b:=hpg.pins;have c:=hpg.small (by rw[Xaw hj];exact ho)
   rw[Xaw hj] at a b c
   exact XdF ho a b c
 have nc:∀ (p:WM) (sp:Int),p.Kind=0\/p.Kind=1->X9 sp p=false:=by
  intro p sp h
  unfold X9 Z5
  rw[show (p.Kind==3)=false by rcases h with h | h<;>rw[h]<;>rfl];rfl
 refine Xf1 hN hb ep (by rw[Wx]) (λ i hi=>XlJ hj (λ sp=>by rw[nc x sp (.inr hk),nc _ sp ho]) ?_ i hi) rfl (.inr ⟨by omega,by rw[Wx];omega,?_⟩)
 ·rw[e1];exact XdF hk hs hpn hu
 ·rw[hbump]
  unfold pg
  rw[show ((j:Nat):Int).toNat=j from rfl,Wr,List.getElem?_set_self hj];exact hk
def XlK (N:Nat) (h:Wv) (n u:Int) (first:Int):Option (Nat×Int) :=
 if 0<=h.Bump/\u<=JN h.Conf/\(pg h.Pages h.Bump).Space=h.Space/\(pg h.Pages h.Bump).Used+n<=h.Conf.PageWords then some (h.Bump.toNat,(pg h.Pages h.Bump).Used)
 else if 0<=first/\u<JN h.Conf then some (first.toNat,0) else none
def Xax (h:Wv) (n:Int) (j:Nat) (at_:Int):Wv:=⟨h.Conf,h.Words,h.Pages.set j ⟨1,h.Space,at_+n,(pg h.Pages (j:Int)).Pins⟩,h.Space,(j:Int)⟩
def Xjn (hN:NB N) {h:Wv} (hb:HB h) (hp:UR h) {n u f:Int} (hn:0<=n/\n<=300) (eu:Qf0 N h.Pages=some u) (ef:QcW N h.Pages 1=some f) :
 QdL N h n=some (match XlK N h n u f with | some (j,a)=>(Xax h n j a,Xi h.Conf (j:Int) a,true) | none=>(zHp,0,false)):=by
 have hN':1000000<N:=by unfold NB at hN;omega
 have hpl:=hb.2
 have hpages:=hp.pages
 have hcv:=Xj.1 hp.conf
 have fresh:(bif decide (f<0) then some (zHp,(0:Int),false) else bif decide (u>=JN h.Conf) then some (zHp,0,false) else bnd (QcX N h.Pages f h.Space) λ y6=>bnd (Xb y6.1 f) λ p11=>bnd (Xb y6.1 f) λ p12=>bnd (Xb y6.1 f) λ p13=>some ((Wv.mk h.Conf h.Words (y6.1.set f.toNat (WM.mk p13.Kind p13.Space (wI (p12.Used+n)) p13.Pins)) h.Space f),(wU (wI ((wI (4096+(wI (f*h.Conf.PageWords))))+p11.Used))),true))=some (match (if 0<=f/\u<JN h.Conf then some (f.toNat,(0:Int)) else none) with | some (j,a)=>(Xax h n j a,Xi h.Conf (j:Int) a,true) | none=>(zHp,0,false)):=by
  by_cases h1:f<0
  ·rw[Wj h1,We,Wm (by omega)]
  by_cases h2:u>=JN h.Conf
  ·rw[XR h1,Wa,Wj h2,We,Wm (by omega)]
  rw[XR h1,Wa,XR h2,Wa,Wn (by omega)]
  have hrun:RunOK h.Pages f 1:=by
   rcases (KJ (N:=N) (ps:=h.Pages) 1 (by omega) (by omega)).get_eq ef with hh | hh
   ·omega
   ·exact hh
  obtain ⟨j,rfl⟩:∃ j:Nat,f=(j:Int):=⟨f.toNat,by omega⟩
  have hj:j<h.Pages.length:=by have:=hrun.2.2.1;omega
  have hsp:=hp.space
  have hm:=X5 hp.conf (i:=(j:Int)) (by omega) (by omega)
  have et:=Xh6 hN' hpl (WM.mk 1 h.Space 0 0) (WM.mk 0 0 0 0) 1 (by omega) (by omega) hrun
  have et':Qeh N h.Pages (j:Int) 1 (WM.mk 1 h.Space 0 0) (WM.mk 0 0 0 0)=_:=et
  have hput:Kf h.Pages (WM.mk 1 h.Space 0 0::List.replicate (1-1) (WM.mk 0 0 0 0)) j=h.Pages.set j (WM.mk 1 h.Space 0 0):=by
   unfold Kf
   rw[List.set_eq_take_append_cons_drop,Wn hj];simp
  rw[QcX,XR (show ¬ h.Space<0 by omega),Wa,XR (show ¬ h.Space>1 by omega),Wa,et',show ((j:Nat):Int).toNat=j from rfl,hput,Xa,Xa]
  have hg:Xb (h.Pages.set j (WM.mk 1 h.Space 0 0)) (j:Int)=some (WM.mk 1 h.Space 0 0):=by
   rw[Xc,List.getElem?_set_self hj]
  dsimp only
  have hz:(pg h.Pages (j:Int)).Pins=0:=by
   have:=(hp.pgs (j:Int) (by omega) (by omega)).free (by have:=hrun.2.2.2 0 (by omega) (by omega);simpa using this)
   rw[this];rfl
  simp only[hg,Xa]
  unfold Xax Xi
  rw[List.set_set,hz,Xd (n:=0+n) (by omega) (by omega),Xd (n:=(j:Int)*h.Conf.PageWords) (by omega) (by omega),Xd (n:=4096+(j:Int)*h.Conf.PageWords) (by omega) (by omega),Xd (n:=4096+(j:Int)*h.Conf.PageWords+0) (by omega) (by omega),XC (by omega) (by omega)]
 rw[QdL,Xf (by omega),Xea,Xa,eu,Xa,XN,ef]
 simp only[Xa]
 rw[fresh]
 unfold XlK
 by_cases b0:h.Bump<0
 ·rw[Wj b0,We,Wm (c:=0<=h.Bump/\u<=JN h.Conf/\_) (λ hh=>by omega)]
 have hbump:0<=h.Bump/\h.Bump<h.Pages.length/\(pg h.Pages h.Bump).Kind=1:=by
  rcases hp.bump with hh | hh
  ·omega
  ·exact hh
 have hpg:=hp.pgs h.Bump hbump.1 hbump.2.1
 have hus:=hpg.small hbump.2.2
 have hm:=X5 hp.conf (i:=h.Bump) (by omega) (by omega)
 rw[XR b0,Wa,Zx hbump.1 hbump.2.1]
 simp only[Xa]
 rw[Xd (n:=(pg h.Pages h.Bump).Used+n) (by omega) (by omega)]
 by_cases b1:(pg h.Pages h.Bump).Space=h.Space
 case neg=>rw[show ((pg h.Pages h.Bump).Space != h.Space)=true by simpa using b1,We,Wm (c:=0<=h.Bump/\u<=JN h.Conf/\_) (λ hh=>b1 hh.2.2.1)]
 rw[show ((pg h.Pages h.Bump).Space != h.Space)=false by simpa using b1,Wa]
 by_cases b2:(pg h.Pages h.Bump).Used+n>h.Conf.PageWords
 ·rw[Wj b2,We,Wm (c:=0<=h.Bump/\u<=JN h.Conf/\_) (λ hh=>by omega)]
 by_cases b3:u>JN h.Conf
 ·rw[XR b2,Wa,Wj b3,We,Wm (c:=0<=h.Bump/\u<=JN h.Conf/\_) (λ hh=>by omega)]
 rw[XR b2,Wa,XR b3,Wa,Wn (c:=0<=h.Bump/\u<=JN h.Conf/\_) (by omega)]
 dsimp only
 unfold Xax Xi
 have hbn:((h.Bump.toNat:Nat):Int)=h.Bump:=by omega
 rw[hbn,hbump.2.2,b1,Xd (n:=h.Bump*h.Conf.PageWords) (by omega) (by omega),Xd (n:=4096+h.Bump*h.Conf.PageWords) (by omega) (by omega),Xd (n:=4096+h.Bump*h.Conf.PageWords+(pg h.Pages h.Bump).Used) (by omega) (by omega),XC (by omega) (by omega)]
end
section
variable {N:Nat}
def XpW (hN:NB N) {h:Wv} (hb:HB h) (ep:Qab N h=some true) {n u f:Int} (hn:1<=n/\n<=h.Conf.PageWords) (ef:QcW N h.Pages 1=some f) {j:Nat} {a:Int} (hpl:XlK N h n u f=some (j,a)):j<h.Pages.length/\0<=a/\a+n<=h.Conf.PageWords/\Qab N (Xax h n j a)=some true:=by
 have hp:=Y0 hN hb ep
 have hl:=hb.2
 have hsp:=hp.space
 unfold XlK at hpl
 split at hpl
 ·rename_i hc
  cases hpl
  have hbump:0<=h.Bump/\h.Bump<h.Pages.length/\(pg h.Pages h.Bump).Kind=1:=by
   rcases hp.bump with hh | hh
   ·omega
   ·exact hh
  have hpg:=hp.pgs h.Bump hbump.1 hbump.2.1
  have hus:=hpg.small hbump.2.2
  have hbn:((h.Bump.toNat:Nat):Int)=h.Bump:=by omega
  have hj:h.Bump.toNat<h.Pages.length:=by omega
  refine ⟨hj,hus.1,by omega,?_⟩
  unfold Xax
  rw[hbn]
  refine Xf2 (x:=⟨1,h.Space,(pg h.Pages h.Bump).Used+n,(pg h.Pages h.Bump).Pins⟩) hN hb ep hj rfl hsp hpg.pins (by show 0<=(pg h.Pages h.Bump).Used+n/\_;exact ⟨by omega,by show (pg h.Pages h.Bump).Used+n<=_;omega⟩) (.inr ?_) hbn.symm
  rw[← Xaw hj,hbn];exact hbump.2.2
 ·split at hpl
  ·rename_i hc2
   cases hpl
   have hrun:RunOK h.Pages f 1:=by
    rcases (KJ (N:=N) (ps:=h.Pages) 1 (by omega) (by unfold NB at hN;omega)).get_eq ef with hh | hh
    ·omega
    ·exact hh
   have h3:=hrun.2.2.1
   have hfn:((f.toNat:Nat):Int)=f:=by omega
   have hj:f.toNat<h.Pages.length:=by omega
   have hk0:(pg h.Pages f).Kind=0:=by have:=hrun.2.2.2 0 (by omega) (by omega);simpa using this
   refine ⟨hj,by omega,by omega,?_⟩
   unfold Xax
   have hpg:=hp.pgs f (by omega) (by omega)
   rw[hfn]
   refine Xf2 (x:=⟨1,h.Space,0+n,(pg h.Pages f).Pins⟩) hN hb ep hj rfl hsp hpg.pins (by show 0<=0+n/\_;exact ⟨by omega,by show 0+n<=_;omega⟩) (.inl ?_) hfn.symm
   rw[← Xaw hj,hfn];exact hk0
  ·cases hpl
end
section
variable {N:Nat}
def XlL (hN:1000000<N) (c:Um) (d:WI):Qc6 N c d=some (XD d&&(d.Kind != 0&&XQ c (X1 d) != -1)):=by
 rw[Qc6,Zg,Xa,YB]
 simp only[Xa,Kl (show 10<=N by omega)]
 cases XD d<;>cases (d.Kind != 0)<;>rfl
def XlM {h:Wv} (hb:HB h) (n:Int) (j:Nat) (a:Int):HB (Xax h n j a):=⟨hb.1,by show (h.Pages.set j _).length<=_;rw[Wx];exact hb.2⟩
end
section
variable {N:Nat}
def XlN {ps l:List WM} {j:Nat} (h:j+l.length<=ps.length) (i:Nat):(Kf ps l j)[i]? = if i<j then ps[i]? else if i<j+l.length then l[i-j]? else ps[i]?:=by
 unfold Kf
 by_cases a:i<j
 ·rw[Wn a,Uy (by simp;omega),Uy (by simp;omega),W6,Wn a]
 rw[Wm a]
 by_cases b:i<j+l.length
 ·rw[Wn b,Uy (by simp;omega),UW (by simp;omega)]
  congr 1;simp;omega
 ·rw[Wm b,UW (by simp;omega),Uu]
  congr 1;simp;omega
def Xjo {α:Type} (q:α->Bool) {l l':List α} (hlen:l.length=l'.length) (h:(∀ i:Nat,l[i]? = l'[i]?)\/∃ (i:Nat) (x y:α),l[i]? = some x/\l'[i]? = some y/\q x=false/\q y=false):l.all q=l'.all q:=by
 rcases h with h | ⟨i,x,y,h1,h2,h3,h4⟩
 ·rw[I8 h]
 ·have a:l.all q=false:=List.all_eq_false.2 ⟨x,Ua h1,by rw[h3];simp⟩
  have b:l'.all q=false:=List.all_eq_false.2 ⟨y,Ua h2,by rw[h4];simp⟩
  rw[a,b]
def XlO {c:Um} {ps:List WM} {i:Nat} {p:WM} {s:Nat} (h:Yi c ps i p=s) (h2:2<=s):((ps.drop (i+1)).take (s-1)).all (X9 p.Space)=true/\s<=ps.length-i:=by
 unfold Yi at h
 split at h
 ·split at h<;>omega
 split at h
 ·split at h
  ·split at h<;>omega
  split at h
  ·split at h
   ·rename_i hh
    subst h
    exact ⟨hh.2.2,hh.2.1⟩
   ·omega
  ·omega
 ·omega
def XlP {c:Um} {ps ps':List WM} (hlen:ps'.length=ps.length) {i:Nat} (hd:∀ m sp,((ps'.drop (i+1)).take m).all (X9 sp)=((ps.drop (i+1)).take m).all (X9 sp)) (p:WM):Yi c ps' i p=Yi c ps i p:=by
 unfold Yi
 simp only[hlen,hd]
def XcG {h:Wv} (hl:h.Pages.length<=100000) (hN:1000000<N):∀ (k n j:Nat),j+k<=h.Pages.length->(∀ m,m<k->∀ (hm:j+m<h.Pages.length),h.Pages[j+m]=Xbe)->Qae N h (n+k) (j:Int)=Qae N h n ((j+k:Nat):Int)
 | 0,n,j,_,_=>rfl
 | k+1,n,j,hj,hz=>by
  rw[show n+(k+1)=(n+k)+1 from rfl,Qae,Wj (by omega),We,KO hl hN (show j<h.Pages.length by omega),Xa]
  have:=hz 0 (by omega) (by omega)
  simp only[Im] at this
  rw[this,Xg2,show ((((1:Nat)):Int)==0)=false from rfl,Wa,show ((1:Nat):Int)=1 from rfl,Xe (by omega),XcG hl hN k n (j+1) (by omega) (λ m hm hlt=>by have:=hz (m+1) (by omega) (by omega);simpa only[show j+(m+1)=j+1+m by omega] using this)]
  congr 2;omega
def Xg3 (hN:NB N) {h:Wv} (hb:HB h) (ep:Qab N h=some true) {j k:Nat} (hk:1<=k) (hr:RunOK h.Pages (j:Int) (k:Int)) {w:Int} (hw:XQ h.Conf w=(k:Int)):Qab N ⟨h.Conf,h.Words,Kf h.Pages (WM.mk 2 h.Space w 0::List.replicate (k-1) (WM.mk 3 h.Space 0 0)) j,h.Space,h.Bump⟩=some true:=by
 have hN':1000000<N:=by unfold NB at hN;omega
 have hp:=Y0 hN hb ep
 have hl:=hb.2
 have hsp:=hp.space
 have hnr:=KW h.Conf w
 obtain ⟨_,_,hfit,hfree⟩:=hr
 generalize hL:(WM.mk 2 h.Space w 0::List.replicate (k-1) (WM.mk 3 h.Space 0 0))=L
 have hLl:L.length=k:=by rw[← hL];simp;omega
 have hjk:j+L.length<=h.Pages.length:=by omega
 have hlen:(Kf h.Pages L j).length=h.Pages.length:=Vg hjk
 have hz:∀ m,m<k->∀ (hm:j+m<h.Pages.length),h.Pages[j+m]=Xbe:=by
  intro m hm hlt
  have:=(hp.pgs ((j:Int)+m) (by omega) (by omega)).free (hfree m (by omega) (by omega))
  rw[show (j:Int)+(m:Int)=((j+m:Nat):Int) by omega,Xaw hlt] at this
  exact this
 generalize hq:Kf h.Pages L j=ps' at *
 have hget:∀ i,ps'[i]? = if i<j then h.Pages[i]? else if i<j+k then L[i-j]? else h.Pages[i]?:=by
  intro i;rw[← hq,XlN hjk,hLl]
 have hout:∀ i (hi:i<h.Pages.length),(i<j\/j+k<=i)->ps'[i]'(by omega)=h.Pages[i]:=by
  intro i hi ho
  have a:=hget i
  rw[Wb (by omega),Wb hi] at a
  rcases ho with ho | ho
  ·rw[Wn ho] at a;exact Ug a
  ·rw[Wm (by omega),Wm (by omega)] at a;exact Ug a
 have hall:∀ i,(i<j\/j+k<=i)->∀ m sp,((ps'.drop (i+1)).take m).all (X9 sp)=((h.Pages.drop (i+1)).take m).all (X9 sp):=by
  intro i ho m sp
  refine Xjo _ (by simp[hlen]) ?_
  by_cases hcov:i<j/\j<i+1+m
  ·right
   refine ⟨j-(i+1),WM.mk 2 h.Space w 0,Xbe,?_,?_,rfl,rfl⟩
   ·rw[W6,Wn (by omega),Uu,show i+1+(j-(i+1))=j by omega,hget,Wm (by omega),Wn (by omega),Nat.sub_self,← hL];rfl
   ·rw[W6,Wn (by omega),Uu,show i+1+(j-(i+1))=j by omega,Wb (by omega)]
    have:=hz 0 (by omega) (by omega)
    simp only[Im] at this
    rw[this]
  ·left
   intro q
   rw[W6,W6]
   split
   ·rw[Uu,Uu,hget]
    rcases ho with ho | ho
    ·rw[Wn (by omega)]
    ·rw[Wm (by omega),Wm (by omega)]
   ·rfl
 have main:∀ (m i n n':Nat),h.Pages.length-i<=m->i<=h.Pages.length->(i<=j\/j+k<=i)->h.Pages.length-i+200<n->h.Pages.length-i+200<n'->Qae N ⟨h.Conf,h.Words,ps',h.Space,h.Bump⟩ n (i:Int)=Qae N h n' (i:Int):=by
  intro m
  induction m with
  | zero =>
   intro i n n' h1 h2 h3 h4 h5
   obtain ⟨n,rfl⟩:∃ q,n=q+1:=⟨n-1,by omega⟩
   obtain ⟨n',rfl⟩:∃ q,n'=q+1:=⟨n'-1,by omega⟩
   rw[Qae,Qae]
   dsimp only
   rw[hlen,Wk (by omega),Wa,Wa]
  | succ m ih =>
   intro i n n' h1 h2 h3 h4 h5
   by_cases hlt:i<h.Pages.length
   case neg =>
    obtain ⟨n,rfl⟩:∃ q,n=q+1:=⟨n-1,by omega⟩
    obtain ⟨n',rfl⟩:∃ q,n'=q+1:=⟨n'-1,by omega⟩
    rw[Qae,Qae]
    dsimp only
    rw[hlen,Wk (by omega),Wa,Wa]
   by_cases hij:i=j
   ·subst hij
    obtain ⟨n,rfl⟩:∃ q,n=q+1:=⟨n-1,by omega⟩
    obtain ⟨n',rfl⟩:∃ q,n'=q+k:=⟨n'-k,by omega⟩
    rw[XcG hl hN' k n' i (by omega) hz,Qae]
    dsimp only
    have hx:ps'[i]'(by omega)=WM.mk 2 h.Space w 0:=by
     have a:=hget i
     rw[Wb (by omega),Wm (by omega),Wn (by omega),Nat.sub_self,← hL] at a
     exact Ug a
    have htl:((ps'.drop (i+1)).take (k-1)).all (X9 h.Space)=true:=by
     rw[W3]
     intro y hy
     obtain ⟨q,hq',rfl⟩:=WU hy
     rw[WC,WR] at hq'
     have a:=hget (i+1+q)
     have hLq:L[i+1+q-i]? = some (WM.mk 3 h.Space 0 0):=by
      rw[← hL,show i+1+q-i=q+1 by omega,List.getElem?_cons_succ,IT,Wn (by omega)]
     rw[Wb (by omega),Wm (by omega),Wn (by omega),hLq] at a
     rw[List.getElem_take,List.getElem_drop,Ug a]
     simp[X9,Z5]
    have hsn:Yi h.Conf ps' i (ps'[i]'(by omega))=k:=by
     rw[hx]
     unfold Yi
     have hk2:(XQ h.Conf w).toNat=k:=by omega
     rw[Wm (show ¬ (2:Int)=0 by omega),Wn (by show (h.Space=0\/h.Space=1)/\(0:Int)<=0/\(0:Int)<=2147483647;omega),Wm (show ¬ (2:Int)=1 by omega),Wn rfl]
     dsimp only
     rw[hk2,Wn ⟨by omega,by omega,htl⟩]
    rw[Wj (by omega),We,KO (by omega) hN' (by omega),hsn,Xa,show (((k:Nat):Int)==0)=false by simp;omega,Wa,Xd (by omega) (by omega),show (i:Int)+(k:Int)=((i+k:Nat):Int) by omega]
    exact ih (i+k) n n' (by omega) (by omega) (.inr (by omega)) (by omega) (by omega)
   ·have ho:i<j\/j+k<=i:=by omega
    obtain ⟨n,rfl⟩:∃ q,n=q+1:=⟨n-1,by omega⟩
    obtain ⟨n',rfl⟩:∃ q,n'=q+1:=⟨n'-1,by omega⟩
    rw[Qae,Qae]
    dsimp only
    rw[hlen,Wj (by omega),We,We,KO (by omega) hN' (by omega),KO hl hN' hlt,hout i hlt ho,XlP hlen (hall i ho),Xa,Xa]
    have hs:=XcA (c:=h.Conf) hlt (p:=h.Pages[i])
    have hbig:=XlO (c:=h.Conf) (ps:=h.Pages) (i:=i) (p:=h.Pages[i]) rfl
    generalize Yi h.Conf h.Pages i h.Pages[i]=s at *
    by_cases h0:s=0
    ·subst h0;rfl
    ·rw[show (((s:Nat):Int)==0)=false by simpa using h0,Wa,Wa,Xd (by omega) (by omega),show (i:Int)+(s:Int)=((i+s:Nat):Int) by omega]
     refine ih (i+s) n n' (by omega) (by omega) ?_ (by omega) (by omega)
     rcases ho with ho | ho
     ·left
      by_cases hs2:2<=s
      ·obtain ⟨ha,_⟩:=hbig hs2
       by_cases hle:i+s<=j
       ·exact hle
       ·exfalso
        rw[W3] at ha
        have hm:Xbe∈(h.Pages.drop (i+1)).take (s-1):=by
         refine Ua (i:=j-(i+1)) ?_
         rw[W6,Wn (by omega),Uu,show i+1+(j-(i+1))=j by omega,Wb (by omega)]
         have:=hz 0 (by omega) (by omega)
         simp only[Im] at this
         rw[this]
        have:=ha _ hm
        cases this
      ·omega
     ·right;omega
 have hbump:h.Bump = -1\/(0<=h.Bump/\h.Bump<ps'.length/\(pg ps' h.Bump).Kind=1):=by
  rcases hp.bump with hh | ⟨b0,b1,b2⟩
  ·exact .inl hh
  ·refine .inr ⟨b0,by omega,?_⟩
   obtain ⟨q,hq2⟩:∃ q:Nat,h.Bump=(q:Int):=⟨h.Bump.toNat,by omega⟩
   rw[hq2] at b1 b2 ⊢
   have hqi:q<h.Pages.length:=by omega
   rw[Xaw hqi] at b2
   by_cases hin:q<j\/j+k<=q
   ·rw[Xaw (by omega),hout q hqi hin];exact b2
   ·exfalso
    have:=hz (q-j) (by omega) (by omega)
    simp only[show j+(q-j)=q by omega] at this
    rw[this] at b2;cases b2
 rw[← YR (by show ps'.length<=_;omega) hN',JJ (h:=⟨h.Conf,h.Words,ps',h.Space,h.Bump⟩) ⟨hp.conf,hp.words,by show ((ps'.length:Nat):Int)=_;rw[hlen];exact hp.pages,hp.space,hbump⟩]
 have:=main h.Pages.length 0 N N (by omega) (by omega) (.inl (by omega)) (by omega) (by omega)
 rw[show ((0:Nat):Int)=0 from rfl] at this
 rw[this,← JJ hp.pre,YR hl hN',ep]
end
section
variable {N:Nat}
def Xg4 (h:Wv) (n:Int) (j k:Nat):Wv:=⟨h.Conf,h.Words,Kf h.Pages (WM.mk 2 h.Space n 0::List.replicate (k-1) (WM.mk 3 h.Space 0 0)) j,h.Space,h.Bump⟩
def XlQ (hN:1000000<N) {h:Wv} (hl:h.Pages.length<=100000) (hp:UR h) {n:Int} {j k:Nat} (hk:1<=k) (hk4:k<=4) (hw:XQ h.Conf n=(k:Int)) (hr:RunOK h.Pages (j:Int) (k:Int)):Qfa N h.Conf h.Pages (j:Int) h.Space n=some ((Xg4 h n j k).Pages,0):=by
 have hsp:=hp.space
 rw[Qfa,Kl (by omega),Xa,hw,XR (show ¬ (k:Int)<1 by omega),Wa,XR (show ¬ h.Space<0 by omega),Wa,XR (show ¬ h.Space>1 by omega),Wa,Xh6 hN hl _ _ k hk (by omega) hr,Xa]
 rfl
def XlR {h:Wv} (hb:HB h) (n:Int) {j k:Nat} (hk:1<=k) (hj:j+k<=h.Pages.length):HB (Xg4 h n j k):=⟨hb.1,by
 show (Kf h.Pages _ j).length<=_
 rw[Vg (by simp;omega)];exact hb.2⟩
end
section
variable {N:Nat}
def KL (h h':Wv):Prop:=h'.Words.length=h.Words.length/\h'.Pages.length=h.Pages.length
def XlS (hN:NB N) {h:Wv} (hb:HB h) (a:Int) (d:WI):Ok (QcG N h a d) λ r=>r.2=0->KL h r.1:=by
 have hN':=hN
 unfold NB at hN'
 rw[QcG,Xac]
 obtain ⟨b,eb⟩:=Jq (N:=N) hN hb
 rw[Xa,eb,Xa]
 refine Wo (λ _=>Wh λ e=>by cases e) λ _=>Wo (λ _=>Wh λ e=>by cases e) λ h2=>?_
 have hv:XD d=true:=by
  cases hv:XD d with
  | true=>rfl
  | false=>rw[hv,Wm (by simp)] at h2;cases h2
 have hd:=XH hv
 refine WY (by omega) (WY (by omega) ?_)
 rw[Jj (by unfold BIG;have:=hb.1;omega) (by unfold BIG;simp;omega) (by simp;omega),Xa]
 have hv':(if XD d=true then (XaS d,(0:Int)) else (0,1))=(XaS d,0):=Wn hv
 rw[hv']
 by_cases hin:Yq h.Words a ([(XaS d,(0:Int)).fst]++List.replicate d.Length.toNat (0:Int)).length
 ·rw[Wn hin]
  refine Wo (λ h3=>absurd h3 (by simp)) λ _=>Wh λ _=>⟨?_,rfl⟩
  show (ovr _ _ _).length=_
  unfold Yq at hin
  exact ZX (by unfold ix;omega)
 ·rw[Wm hin]
  exact Wo (λ _=>Wh λ e=>by cases e) λ h3=>absurd h3 (by simp)
def Xh7 (hN:NB N) {h:Wv} (hb:HB h) {d:WI} (tm:tW d.Map):Ok (Qeu N h d) λ r=>r.2.2=0->KL h r.1:=by
 have hN':1000000<N:=by unfold NB at hN;omega
 have hl:=hb.2
 obtain ⟨r,er,hr⟩:=Xek hN hb d
 refine ⟨r,er,λ h0=>?_⟩
 have bad:∀ {x y e:_},some ((x,y,e):Wv×Int×Int)=some r->e≠0->False:=λ h he=>by cases h;exact he h0
 rw[Qeu] at er
 obtain ⟨b,eb⟩:=Jq (N:=N) hN hb
 rw[eb,Xa] at er
 cases b with
 | false=>exact (bad er (by decide)).elim
 | true =>
 rw[Ws,Wa,XlL hN',Xa] at er
 cases hv:XD d with
 | false=>rw[hv] at er;exact (bad er (by decide)).elim
 | true =>
 cases hkd:(d.Kind != 0) with
 | false=>rw[hv,hkd] at er;exact (bad er (by decide)).elim
 | true =>
 have hp:=Y0 hN hb eb
 have hcv:=Xj.1 hp.conf
 have hvb:=XH hv
 have hpages:=hp.pages
 have hs:X1 d=d.Length+1:=by unfold X1;rw[Wn hv]
 have hnr:=KW h.Conf (X1 d)
 by_cases hm1:XQ h.Conf (X1 d) = -1
 ·rw[hv,hkd,hm1] at er;exact (bad er (by decide)).elim
 obtain ⟨k,hk⟩:∃ k:Nat,XQ h.Conf (X1 d)=(k:Int):=⟨(XQ h.Conf (X1 d)).toNat,by omega⟩
 obtain ⟨u,eu,hu⟩:=Xb9 (N:=N) (ps:=h.Pages) (by omega) (by omega)
 obtain ⟨f1,ef1,_⟩:=KJ (N:=N) (ps:=h.Pages) 1 (by omega) (by omega)
 have e1:(XQ h.Conf (X1 d) != -1)=true:=by simpa using hm1
 rw[hv,hkd,e1] at er
 simp only[Bool.and_self,Ws,Wa,YB,Xa,Kl (show 10<=N by omega),Xjn hN hb hp (n:=X1 d) ⟨by omega,by omega⟩ eu ef1,XN] at er
 have fin:∀ (hh:Wv) (a:Int),HB hh->Qab N hh=some true->Yq hh.Words a (d.Length.toNat+1)->KL h hh->(bnd (QcG N hh a d) λ y15=>some (y15.1,a,0))=some r->KL h r.1:=by
  intro hh a hhb hpr hin hkl e
  obtain ⟨h2,e2⟩:=Xjm hN hhb hpr hv hin
  have k2:=(XlS hN hhb a d).get_eq e2 rfl
  rw[e2,Xa] at e
  cases e
  exact ⟨k2.1.trans hkl.1,k2.2.trans hkl.2⟩
 by_cases hk0:k=0
 ·subst hk0
  rw[hk] at er
  rw[show decide (((0:Nat):Int)>0)=false from rfl,Wa] at er
  have hn:1<=X1 d/\X1 d<=h.Conf.PageWords:=by
   have h1:1<=X1 d:=by omega
   refine ⟨h1,?_⟩
   unfold XQ at hk
   rw[Wn ⟨hp.conf,h1⟩] at hk
   by_cases hle:X1 d<=h.Conf.PageWords / 4
   ·omega
   ·rw[Wm hle] at hk
    repeat' split at hk
    all_goals omega
  cases hpl:XlK N h (X1 d) u f1 with
  | none=>rw[hpl] at er;exact (bad er (by decide)).elim
  | some ja =>
   obtain ⟨j,a⟩:=ja
   rw[hpl] at er
   obtain ⟨q1,q2,q3,q4⟩:=XpW hN hb eb hn ef1 hpl
   have hm:=X5 hp.conf (i:=(j:Int)) (by omega) (by omega)
   have hw:=hp.words
   refine fin (Xax h (X1 d) j a) (Xi h.Conf (j:Int) a) (XlM hb _ j a) q4 ?_ ⟨rfl,by show (h.Pages.set j _).length=_;rw[Wx]⟩ er
   unfold Yq Xi
   show _/\_<=4096+((h.Words.length:Nat):Int)
   constructor
   ·omega
   ·have:(((d.Length.toNat+1:Nat)):Int)=X1 d:=by omega
    rw[this];omega
 ·have hneed:=XhD hp.conf (w:=X1 d) (by omega)
  obtain ⟨f,ef,hf⟩:=KJ (N:=N) (ps:=h.Pages) (k:Int) (by omega) (by omega)
  have hlim:0<=JN h.Conf/\JN h.Conf<=16:=by unfold JN;rw[Wn hp.conf];omega
  rw[hk] at er hneed
  rw[Wj (show ((k:Nat):Int)>0 by omega),We,Qet,ef,Xa] at er
  by_cases h1:f<0
  ·rw[Wj h1,We,Xa] at er;exact (bad er (by decide)).elim
  rw[Wk h1,Wa,eu,Xea] at er
  simp only[Xa] at er
  rw[Xd (n:=u+(k:Int)) (by omega) (by omega)] at er
  by_cases h2:u+(k:Int)>JN h.Conf
  ·rw[Wj h2,We,Xa] at er;exact (bad er (by decide)).elim
  have hrun:RunOK h.Pages f (k:Int):=by
   rcases hf with hh | hh
   ·omega
   ·exact hh
  obtain ⟨j,rfl⟩:∃ j:Nat,f=(j:Int):=⟨f.toNat,by omega⟩
  have hfit:=hrun.2.2.1
  rw[Wk h2,Wa,XlQ hN' hl hp (by omega) (by omega) hk hrun] at er
  simp only[Xa] at er
  have hpr:=Xg3 hN hb eb (by omega) hrun hk
  have hHB:=XlR hb (X1 d) (j:=j) (k:=k) (by omega) (by omega)
  have hm:=X5 hp.conf (i:=(j:Int)) (by omega) (by omega)
  have hw:=hp.words
  have hmul:((j:Int)+(k:Int))*h.Conf.PageWords<=h.Conf.Pages*h.Conf.PageWords:=UO (by omega) (by omega)
  rw[IU] at hmul
  have ea:wU (wI (4096+wI ((j:Int)*h.Conf.PageWords)))=Xi h.Conf (j:Int) 0:=by
   unfold Xi
   rw[Xd (n:=(j:Int)*h.Conf.PageWords) (by omega) (by omega),Xd (n:=4096+(j:Int)*h.Conf.PageWords) (by omega) (by omega),XC (by omega) (by omega)];omega
  rw[ea] at er
  refine fin (Xg4 h (X1 d) j k) (Xi h.Conf (j:Int) 0) hHB hpr ?_ ⟨rfl,by
   show (Kf h.Pages _ j).length=_
   exact Vg (by simp;omega)⟩ er
  unfold Yq Xi
  show _/\_<=4096+((h.Words.length:Nat):Int)
  constructor
  ·omega
  ·have:(((d.Length.toNat+1:Nat)):Int)=X1 d:=by omega
   rw[this];omega
end
def Y1 (a b:Int) (p:WE):Bool:=(p.Addr==a) != (p.Id==b)
def stp (out:List WE) (a b:Int):Option (List WE) :=
 if (a==0) != (b==0) then none else if out.any (Y1 a b) then none else if a==0||out.any (λ p=>p.Addr==a) then some out else some (out++[⟨a,b⟩])
def sts:List WE->List (Int×Int)->Option (List WE)
 | out,[]=>some out
 | out,x::l=>(stp out x.1 x.2).bind λ o=>sts o l
structure OA where
 ok:Bool
 live:Bool
 a:Int
 b:Int
def itS:List WE->List OA->Option (List WE)
 | out,[]=>some out
 | out,x::l=>if x.ok then (if x.live then (stp out x.a x.b).bind λ o=>itS o l else itS out l) else none
def itL:List OA->List (Int×Int)
 | []=>[]
 | x::l=>if x.live then (x.a,x.b)::itL l else itL l
def Xet:∀ (l:List OA) (out:List WE),itS out l=if l.all (·.ok) then sts out (itL l) else none
 | [],out=>rfl
 | x::l,out=>by
  rw[itS,U2]
  cases hx:x.ok with
  | false=>simp
  | true =>
   rw[Wn rfl,WA]
   cases hl:x.live with
   | false =>
    rw[itL,hl];simp only[US,if_false];exact Xet l out
   | true =>
    rw[Wn rfl,itL,hl,Wn rfl,sts]
    cases stp out x.a x.b with
    | none=>simp
    | some o=>rw[Ic,Ic];exact Xet l o
def Xeu:∀ (l l':List OA) (out:List WE),itS out (l++l')=(itS out l).bind λ o=>itS o l'
 | [],l',out=>rfl
 | x::l,l',out=>by
  rw[Ia,itS,itS]
  cases x.ok with
  | false=>rfl
  | true =>
   rw[Wn rfl,Wn rfl]
   cases x.live with
   | false=>exact Xeu l l' out
   | true =>
    rw[Wn rfl,Wn rfl]
    cases stp out x.a x.b with
    | none=>rfl
    | some o=>exact Xeu l l' o
structure PI (out:List WE):Prop where
 nz:∀ p∈out,p.Addr≠0/\p.Id≠0
 one:∀ p∈out,∀ q∈out,p.Addr=q.Addr↔p.Id=q.Id
 nd:(out.map (·.Id)).Nodup
def PI.nil:PI []:=⟨by simp,by simp,by simp⟩
def XlT {out o:List WE} {a b:Int} (h:PI out) (e:stp out a b=some o):PI o/\(o=out\/(o=out++[⟨a,b⟩]/\a≠0/\b≠0/\(∀ p∈out,p.Addr≠a)/\∀ p∈out,p.Id≠b)):=by
 unfold stp at e
 split at e
 ·cases e
 rename_i h1
 split at e
 ·cases e
 rename_i h2
 split at e
 ·cases e;exact ⟨h,.inl rfl⟩
 rename_i h3
 cases e
 simp only[Ip,not_or,IR,Iz,ne_eq,Ig,beq_iff_eq] at h3
 obtain ⟨ha,hn⟩:=h3
 have hb:b≠0:=by
  intro hb;subst hb
  exact h1 (by simp[ha])
 have hi:∀ p∈out,p.Id≠b:=by
  intro p hp hb2
  have:=Ig.1 (by simpa using h2) p hp
  unfold Y1 at this
  rw[hb2] at this
  have hne:(p.Addr==a)=false:=by simpa using hn p hp
  rw[hne] at this
  simp at this
 refine ⟨⟨λ p hp=>?_,λ p hp q hq=>?_,?_⟩,.inr ⟨rfl,ha,hb,hn,hi⟩⟩
 ·rcases WK.1 hp with h' | h'
  ·exact h.nz p h'
  ·obtain rfl:p=⟨a,b⟩:=by simpa using h'
   exact ⟨ha,hb⟩
 ·rcases WK.1 hp with h' | h'<;>rcases WK.1 hq with k' | k'
  ·exact h.one p h' q k'
  ·obtain rfl:q=⟨a,b⟩:=by simpa using k'
   exact ⟨λ e=>absurd e (hn p h'),λ e=>absurd e (hi p h')⟩
  ·obtain rfl:p=⟨a,b⟩:=by simpa using h'
   exact ⟨λ e=>absurd e.symm (hn q k'),λ e=>absurd e.symm (hi q k')⟩
  ·obtain rfl:p=⟨a,b⟩:=by simpa using h'
   obtain rfl:q=⟨a,b⟩:=by simpa using k'
   exact ⟨λ _=>rfl,λ _=>rfl⟩
 ·rw[IJ,Iu]
  refine ⟨h.nd,by simp,λ x hx y hy e=>?_⟩
  obtain ⟨p,hp,rfl⟩:=UH.1 hx
  obtain rfl:y=b:=by simpa using hy
  exact hi p hp e
def Xa2:∀ (n:Nat) {l:List Nat},l.Nodup->(∀ x∈l,x<n)->l.length<=n
 | 0,l,_,h=>by
  cases l with
  | nil=>simp
  | cons x l=>exact absurd (h x (by simp)) (by omega)
 | n+1,l,hd,h=>by
  by_cases hm:n∈l
  ·have h1:=List.length_erase_of_mem hm
   have h2:=Xa2 n (l:=l.erase n) (hd.erase n) λ x hx=>by
    have h3:=(List.Nodup.mem_erase_iff hd).1 hx
    have:=h x h3.2
    omega
   omega
  ·have:=Xa2 n hd λ x hx=>by
    have h3:=h x hx
    have h4:x≠n:=λ e=>hm (e▸hx)
    omega
   omega
def PR (O:Int->Prop) (n:Nat) (out:List WE):Prop:=∀ p∈out,O p.Addr/\1<=p.Id/\p.Id<=n
def PI.len {out:List WE} {O:Int->Prop} {n:Nat} (h:PI out) (k:PR O n out):out.length<=n:=by
 have h1:(out.map λ p=>(p.Id-1).toNat).Nodup:=by
  have:=h.nd
  rw[IE,List.pairwise_map] at this ⊢
  refine List.Pairwise.imp_of_mem (λ {p q} hp hq hne=>?_) this
  have a:=k p hp
  have b:=k q hq
  omega
 have:=Xa2 n h1 λ x hx=>by
  obtain ⟨p,hp,rfl⟩:=UH.1 hx
  have a:=k p hp
  omega
 simpa using this
def Xg5 {O:Int->Prop} {n:Nat} {out o:List WE} {a b:Int} (h:PI out) (k:PR O n out) (ha:a=0\/O a) (hb:0<=b/\b<=n) (e:stp out a b=some o):PI o/\PR O n o/\∃ x,o=out++x:=by
 obtain ⟨h1,h2⟩:=XlT h e
 rcases h2 with rfl | ⟨rfl,a0,b0,_,_⟩
 ·exact ⟨h1,k,[],by simp⟩
 ·refine ⟨h1,λ p hp=>?_,_,rfl⟩
  rcases WK.1 hp with h' | h'
  ·exact k p h'
  ·obtain rfl:p=⟨a,b⟩:=by simpa using h'
   rcases ha with ha | ha
   ·exact absurd ha a0
   ·exact ⟨ha,by show 1<=b;omega,hb.2⟩
def Xg6 {O:Int->Prop} {n:Nat}:∀ {l:List (Int×Int)} {out o:List WE},PI out->PR O n out->(∀ x∈l,(x.1=0\/O x.1)/\0<=x.2/\x.2<=n)->sts out l=some o->PI o/\PR O n o/\∃ x,o=out++x
 | [],out,o,h,k,_,e=>by cases e;exact ⟨h,k,[],by simp⟩
 | x::l,out,o,h,k,hl,e=>by
  rw[sts] at e
  cases e1:stp out x.1 x.2 with
  | none=>rw[e1] at e;cases e
  | some o1 =>
   rw[e1,Ic] at e
   obtain ⟨h1,k1,y,rfl⟩:=Xg5 h k (hl x (by simp)).1 (hl x (by simp)).2 e1
   obtain ⟨h2,k2,z,rfl⟩:=Xg6 h1 k1 (λ y hy=>hl y (W4 _ hy)) e
   exact ⟨h2,k2,y++z,by simp⟩
def mI (out:List WE):List (Int×Int):=out.map λ p=>(p.Addr,p.Id)
def mA (out:List WE):List (Int×Int):=out.map λ p=>(p.Id,p.Addr)
def XlU:∀ (out:List WE) (a:Int),mG (mI out) a=(out.find? λ p=>p.Addr==a).map (·.Id)
 | [],a=>rfl
 | p::out,a=>by
  show (if a=p.Addr then _ else mG (mI out) a)=_
  rw[List.find?_cons]
  by_cases h:p.Addr=a
  ·rw[Wn h.symm,h];simp
  ·rw[Wm (λ e=>h e.symm),XlU out a]
   have:(p.Addr==a)=false:=by simpa using h
   rw[this]
def XlV:∀ (out:List WE) (b:Int),mG (mA out) b=(out.find? λ p=>p.Id==b).map (·.Addr)
 | [],b=>rfl
 | p::out,b=>by
  show (if b=p.Id then _ else mG (mA out) b)=_
  rw[List.find?_cons]
  by_cases h:p.Id=b
  ·rw[Wn h.symm,h];simp
  ·rw[Wm (λ e=>h e.symm),XlV out b]
   have:(p.Id==b)=false:=by simpa using h
   rw[this]
def XpX (out:List WE) (a b:Int):Option (List WE) :=
 if a==0||b==0 then (if a==b then some out else none)
 else if (mG (mI out) a).isSome||(mG (mA out) b).isSome then
  (if (mG (mI out) a).isSome&&((mG (mA out) b).isSome&&((mG (mI out) a).getD 0==b&&(mG (mA out) b).getD 0==a)) then some out else none)
 else some (out++[⟨a,b⟩])
def bF {a b:Int} (h:a≠b):(a==b)=false:=by simpa using h
def Xof {out:List WE} (h:PI out) (a b:Int):XpX out a b=stp out a b:=by
 unfold XpX stp
 by_cases ha:a=0
 ·subst ha
  by_cases hb:b=0
  ·subst hb
   have:out.any (Y1 0 0)=false:=Ig.2 λ p hp=>by
    obtain ⟨h1,h2⟩:=h.nz p hp
    unfold Y1
    rw[bF h1,bF h2];simp
   simp[this]
  ·simp[hb,λ e:(0:Int)=b=>hb e.symm,bF hb,bF (λ e:(0:Int)=b=>hb e.symm)]
 by_cases hb:b=0
 ·subst hb;simp[ha]
 have ha':(a==0)=false:=by simpa using ha
 have hb':(b==0)=false:=by simpa using hb
 simp only[ha',hb',Bool.or_self,US,if_false,bne_self_eq_false,UZ]
 rw[XlU,XlV]
 cases e1:out.find? (λ p=>p.Addr==a) with
 | some p =>
  have hp:=Iq e1
  have hpa:p.Addr=a:=by simpa using List.find?_some e1
  have hany:out.any (λ p=>p.Addr==a)=true:=Ik.2 ⟨p,hp,by simpa using hpa⟩
  cases e2:out.find? (λ p=>p.Id==b) with
  | some q =>
   have hq:=Iq e2
   have hqb:q.Id=b:=by simpa using List.find?_some e2
   by_cases hid:p.Id=b
   ·have hqa:q.Addr=a:=by rw[← hpa];exact ((h.one q hq p hp).2 (hqb.trans hid.symm))
    have hno:out.any (Y1 a b)=false:=Ig.2 λ r hr=>by
     unfold Y1
     have:=h.one r hr p hp
     rw[hpa,hid] at this
     by_cases hra:r.Addr=a
     ·simp[hra,this.1 hra]
     ·have:r.Id≠b:=λ e=>hra (this.2 e)
      rw[bF hra,bF this];simp
    simp[hid,hqa,hno,hany]
   ·have hbad:out.any (Y1 a b)=true:=Ik.2 ⟨p,hp,by unfold Y1;simp[hpa,hid]⟩
    simp[hid,hbad]
  | none =>
   have hid:p.Id≠b:=λ e=>by
    have:=List.find?_eq_none.1 e2 p hp
    simp[e] at this
   have hbad:out.any (Y1 a b)=true:=Ik.2 ⟨p,hp,by unfold Y1;simp[hpa,hid]⟩
   simp[hbad]
 | none =>
  have hn:∀ p∈out,p.Addr≠a:=λ p hp e=>by
   have:=List.find?_eq_none.1 e1 p hp
   simp[e] at this
  have hany:out.any (λ p=>p.Addr==a)=false:=Ig.2 λ p hp=>by simpa using hn p hp
  cases e2:out.find? (λ p=>p.Id==b) with
  | some q =>
   have hq:=Iq e2
   have hqb:q.Id=b:=by simpa using List.find?_some e2
   have hbad:out.any (Y1 a b)=true:=Ik.2 ⟨q,hq,by unfold Y1;simp[hqb,hn q hq]⟩
   simp[hbad]
  | none =>
   have hno:out.any (Y1 a b)=false:=Ig.2 λ r hr=>by
    have:r.Id≠b:=λ e=>by
     have:=List.find?_eq_none.1 e2 r hr
     simp[e] at this
    unfold Y1
    rw[bF (hn r hr),bF this];simp
   simp[hno,hany]
def XpY (out:List WE):(mI out).length=out.length:=by simp[mI]
def XpZ (out:List WE):(mA out).length=out.length:=by simp[mA]
structure SR (O:Int->Prop) (n:Nat) (out:List WE):Prop where
 pi:PI out
 pr:PR O n out
 o:∀ a,O a->0<=a/\a<=1000000
 n1:n<=1000000
section
variable {O:Int->Prop} {n:Nat} {out:List WE}
def SR.len (h:SR O n out):out.length<=n:=h.pi.len h.pr
def XsZ (h:SR O n out) (a:Int):0<=(mG (mI out) a).getD 0/\(mG (mI out) a).getD 0<=18446744073709551615:=by
 rw[XlU]
 cases e:out.find? (λ p=>p.Addr==a) with
 | none=>exact ⟨by simp,by simp⟩
 | some p =>
  have:=h.pr p (Iq e)
  have:=h.n1
  exact ⟨by show 0<=p.Id;omega,by show p.Id<=_;omega⟩
def Xs0 (h:SR O n out) (b:Int):0<=(mG (mA out) b).getD 0/\(mG (mA out) b).getD 0<=18446744073709551615:=by
 rw[XlV]
 cases e:out.find? (λ p=>p.Id==b) with
 | none=>exact ⟨by simp,by simp⟩
 | some p =>
  have:=h.o _ (h.pr p (Iq e)).1
  exact ⟨by show 0<=p.Addr;omega,by show p.Addr<=_;omega⟩
def Xp0 (a b:Int):mI out++[(a,b)]=mI (out++[⟨a,b⟩]):=by simp[mI]
def Xp1 (a b:Int):mA out++[(b,a)]=mA (out++[⟨a,b⟩]):=by simp[mA]
def Xjp {β:Type} {K:Bool->List (Int×Int)->List (Int×Int)->List WE->Option β} (h:SR O n out) (a b:Int) :
 (jn K λ j3 =>
  bif (a==0) then j3 (a==b) (mI out) (mA out) out
  else bif (b==0) then j3 (a==b) (mI out) (mA out) out
  else grd (0<=((mG (mI out) a).getD 0)/\((mG (mI out) a).getD 0)<=18446744073709551615) <|
  grd (0<=((mG (mA out) b).getD 0)/\((mG (mA out) b).getD 0)<=18446744073709551615) <|
  jn (λ (_:Unit) =>
   jn (λ (x9:Bool) =>
    j3 x9 (mI out) (mA out) out) λ j2 =>
   bif (mG (mI out) a).isSome then (bif (mG (mA out) b).isSome then (bif (((mG (mI out) a).getD 0)==b) then j2 (((mG (mA out) b).getD 0)==a)
       else j2 false)
    else j2 false)
   else j2 false) λ j1 =>
  bif (mG (mI out) a).isSome then j1 ()
  else bif (mG (mA out) b).isSome then j1 ()
  else grd ((mG (mI out) a).isSome=false) <|
  grd ((mI out).length<140737488355328) <|
  grd ((mG (mA out) b).isSome=false) <|
  grd ((mA out).length<140737488355328) <|
  grd ((out.length+1)*16<=140737488355328) <|
  j3 true ((mI out)++[(a,b)]) ((mA out)++[(b,a)]) (out++[(WE.mk a b)])) =
 match stp out a b with
 | none=>K false (mI out) (mA out) out
 | some o=>K true (mI o) (mA o) o:=by
 have hl:=h.len
 have hn:=h.n1
 rw[← Xof h.pi,XpX,XN,Xf (XsZ h a),Xf (Xs0 h b),XN,XN,Xp0,Xp1,XpY,XpZ]
 cases h1:(a==0) with
 | true =>
  rw[We,IY,Wn rfl]
  cases h3:(a==b)<;>simp
 | false =>
  rw[Wa,UZ]
  cases h2:(b==0) with
  | true =>
   rw[We,Wn rfl]
   cases h3:(a==b)<;>simp
  | false =>
   rw[Wa,Wm (by simp)]
   cases h4:(mG (mI out) a).isSome with
   | true =>
    simp only[We,IY,if_true,WA]
    cases h5:(mG (mA out) b).isSome with
    | true =>
     simp only[We,WA]
     cases h6:((mG (mI out) a).getD 0==b) with
     | true =>
      simp only[We,WA]
      cases h7:((mG (mA out) b).getD 0==a)<;>simp
     | false=>simp
    | false=>simp
   | false =>
    simp only[Wa,UZ]
    cases h5:(mG (mA out) b).isSome with
    | true=>simp
    | false =>
     simp only[Wa]
     rw[Xf trivial,Xf (by omega),Xf trivial,Xf (by omega),Xf (by omega),Wm (by simp)]
def it1 (out:List WE) (x:OA):Option (List WE):=if x.ok then (if x.live then stp out x.a x.b else some out) else none
def XlW (x:OA) (l:List OA) (out:List WE):itS out (x::l)=(it1 out x).bind λ o=>itS o l:=by
 rw[itS,it1]
 cases x.ok with
 | false=>rfl
 | true=>cases x.live<;>rfl
def IO (O:Int->Prop) (n:Nat) (x:OA):Prop:=x.ok=true->x.live=true->(x.a=0\/O x.a)/\0<=x.b/\x.b<=n
def Xp2 (h:SR O n out) {x:OA} (hx:IO O n x) {o:List WE} (e:it1 out x=some o):SR O n o:=by
 unfold it1 at e
 cases h1:x.ok with
 | false=>rw[h1] at e;cases e
 | true =>
  cases h2:x.live with
  | false=>rw[h1,h2] at e;cases e;exact h
  | true =>
   rw[h1,h2,Wn rfl,Wn rfl] at e
   obtain ⟨a,b,_⟩:=Xg5 h.pi h.pr (hx h1 h2).1 (hx h1 h2).2 e
   exact ⟨a,b,h.o,h.n1⟩
def JK {α:Type} {F:Nat->Int->List (Int×Int)->List (Int×Int)->List WE->Option (Ex α (List (Int×Int)×List (Int×Int)×List WE))} {l:List OA} {E:α->Prop}
 (hl:∀ x∈l,IO O n x)
 (hstep:∀ (m k:Nat) (hk:k<l.length) (out:List WE),SR O n out->(it1 out l[k]=none/\∃ e,F (m+1) (k:Int) (mI out) (mA out) out=some (.ret e)/\E e)\/∃ o,it1 out l[k]=some o/\F (m+1) (k:Int) (mI out) (mA out) out=F m ((k+1:Nat):Int) (mI o) (mA o) o)
 (hstop:∀ (m:Nat) (out:List WE),SR O n out->F (m+1) (l.length:Int) (mI out) (mA out) out=some (.nxt (mI out,mA out,out))) :
 ∀ (m k:Nat) (out:List WE),SR O n out->k<=l.length->l.length-k<m ->
  (itS out (l.drop k)=none/\∃ e,F m (k:Int) (mI out) (mA out) out=some (.ret e)/\E e)\/∃ o,itS out (l.drop k)=some o/\SR O n o/\F m (k:Int) (mI out) (mA out) out=some (.nxt (mI o,mA o,o))
 | 0,k,out,_,_,hm=>by omega
 | m+1,k,out,h,hk,hm=>by
  by_cases hkl:k<l.length
  ·rw[Wt hkl,XlW]
   rcases hstep m k hkl out h with ⟨h1,e,h2,h3⟩ | ⟨o,h1,h2⟩
   ·rw[h1];exact .inl ⟨rfl,e,h2,h3⟩
   ·rw[h1,Ic,h2]
    exact JK hl hstep hstop m (k+1) o (Xp2 h (hl _ (WW hkl)) h1) hkl (by omega)
  ·obtain rfl:k=l.length:=by omega
   rw[List.drop_length,hstop m out h]
   exact .inr ⟨out,rfl,h,rfl⟩
end
def UA {α:Type} {P:α->Prop} {b:Bool} {x y:Option α} (h1:b=true->PT x P) (h2:b=false->PT y P):PT (bif b then x else y) P:=by
 cases b
 ·exact h2 rfl
 ·exact h1 rfl
section
variable {N:Nat}
def XlX (l:List Int) (y:List Int×Int) (hl:l.length<=1000000) (hy:y.1.length<=1000000) (hN:1000000<N):∀ (n:Nat) (k:Int),0<=k->PT (Qak N l y n k) λ e=>match e with | .ret b=>b=false | .nxt _=>∀ i p,k<=i->Xb l i=some p->p=0\/p∈y.1
 | 0,k,_=>II
 | n+1,k,h0=>by
  rw[Qak]
  refine UA (λ hc=>Wu (Q:=λ p=>Xb l k=some p) (λ r e=>e) λ p hp=>?_) λ hc=>Wg λ i p hi hp=>?_
  ·have hc:=Wq hc
   have rec':(p=0\/p∈y.1)->PT (Qak N l y n (wI (k+1))) λ e=>match e with | .ret b=>b=false | .nxt _=>∀ i p,k<=i->Xb l i=some p->p=0\/p∈y.1:=by
    intro hpp r e
    rw[Xd (by omega) (by omega)] at e
    have:=XlX l y hl hy hN n (k+1) (by omega) r e
    cases r with
    | ret b=>exact this
    | nxt u =>
     intro i q hi hq
     by_cases hik:i=k
     ·subst hik;rw[hp] at hq;cases hq;exact hpp
     ·exact this i q (by omega) hq
   refine UA (λ h1=>Wu (Q:=λ q=>Xb l k=some q) (λ r e=>e) λ q hq=>?_) λ h1=>rec' (.inl (by simpa using h1))
   rw[hp] at hq;cases hq
   rw[YZ p (by omega) (by omega),Xa]
   exact UA (λ _=>Wg rfl) λ h2=>rec' (.inr (Zr (by simpa using h2)))
  ·have hc:=WG hc
   rw[Vo (by omega)] at hp;cases hp
def XlY (hN:NB N) {h:Wv} {y:List Int×Int} (hy:y.1.length<=1000000) (ey:Qaq N h=some y) {l:List Int} (hl:l.length<=1000000):PT (Qa5 N h l) λ b=>b=true->Qa6 N h=some true/\∀ r∈l,r=0\/r∈y.1:=by
 have hN':1000000<N:=by unfold NB at hN;omega
 rw[Qa5]
 refine Wu (Q:=λ b=>Qa6 N h=some b) (λ r e=>e) λ b hb=>UA (λ _=>Wg λ e=>by cases e) λ hb1=>?_
 obtain rfl:b=true:=by simpa using hb1
 rw[ey,Xa]
 refine Wu (XlX l y hl hy hN' N 0 (by omega)) λ e he=>?_
 cases e with
 | ret b=>rw[Xl];exact Wg λ e=>by have he:b=false:=he;rw[he] at e;cases e
 | nxt u =>
  rw[Xk]
  refine Wg λ _=>⟨hb,λ r hr=>?_⟩
  obtain ⟨i,hi,rfl⟩:=WU hr
  exact he i _ (by omega) (by rw[Xc,Wb hi])
def Xf3 {h:Wv} (pins:List U4) (y:List Int×Int) (hl:pins.length<=1000000) (hy:y.1.length<=1000000) (hN:1000000<N):∀ (n:Nat) (k:Int) (v:List Int),0<=k->PT (Qbg N h pins y n k v) λ e=>match e with | .ret b=>b=false | .nxt _=>∀ i p,k<=i->Xb pins i=some p->p.Ref∈y.1
 | 0,k,v,_=>II
 | n+1,k,v,h0=>by
  rw[Qbg]
  refine UA (λ hc=>Wu (Q:=λ p=>Xb pins k=some p) (λ r e=>e) λ p hp=>?_) λ hc=>Wg λ i p hi hp=>?_
  ·have hc:=Wq hc
   rw[YZ p.Ref (by omega) (by omega),Xa]
   refine UA (λ _=>Wg rfl) λ h2=>?_
   have hm:p.Ref∈y.1:=Zr (by simpa using h2)
   refine Wz λ _=>Wz λ _=>Wl (Wg rfl) (Wz λ _=>Wl (Wg rfl) (Wz λ _=>Wl (Wg rfl) (Wz λ _=>Wz λ _=>Wz λ _=>Wz λ _=>Wz λ _=>?_)))
   intro r e
   rw[Xd (by omega) (by omega)] at e
   have:=Xf3 pins y hl hy hN n (k+1) _ (by omega) r e
   cases r with
   | ret b=>exact this
   | nxt u =>
    intro i q hi hq
    by_cases hik:i=k
    ·subst hik;rw[hp] at hq;cases hq;exact hm
    ·exact this i q (by omega) hq
  ·have hc:=WG hc
   rw[Vo (by omega)] at hp;cases hp
def Xf4 (h:Wv) (v:List Int):∀ (n:Nat) (k:Int),PT (QbB N h v n k) λ e=>match e with | .ret b=>b=false | .nxt _=>True
 | 0,k=>II
 | n+1,k=>by
  rw[QbB]
  exact Wl (Wz λ _=>Wz λ _=>Wl (Wg rfl) (Xf4 h v n _)) (Wg trivial)
def Xog (hN:NB N) {h:Wv} {y:List Int×Int} (hy:y.1.length<=1000000) (ey:Qaq N h=some y) {pins:List U4} (hl:pins.length<=1000000):PT (QbG N h pins) λ b=>b=true->pins.length<=64/\∀ p∈pins,p.Ref∈y.1:=by
 have hN':1000000<N:=by unfold NB at hN;omega
 rw[QbG]
 refine Wz λ b=>Wl (Wg λ e=>by cases e) (UA (λ _=>Wg λ e=>by cases e) λ h64=>?_)
 have h64:=WG h64
 rw[ey,Xa]
 refine WJ (Wu (Xf3 pins y hl hy hN' N 0 _ (by omega)) λ e he=>?_)
 cases e with
 | ret b=>rw[Xl];exact Wg λ e=>by have he:b=false:=he;rw[he] at e;cases e
 | nxt u =>
  rw[Xk]
  refine Wu (Xf4 h u N 0) λ e2 he2=>?_
  cases e2 with
  | ret b=>rw[Xl];exact Wg λ e=>by have he2:b=false:=he2;rw[he2] at e;cases e
  | nxt u =>
   rw[Xk]
   refine Wg λ _=>⟨by omega,λ p hp=>?_⟩
   obtain ⟨i,hi,rfl⟩:=WU hp
   exact he i _ (by omega) (by rw[Xc,Wb hi])
def Xh8 (h:Wv):∀ (n:Nat) (k:Int),PT (QaY N h n k) λ e=>match e with | .ret f=>f.Fault≠0 | .nxt _=>True
 | 0,k=>II
 | n+1,k=>by
  rw[QaY]
  exact Wl (Wz λ y=>UA (λ hy=>Wg (show y.Fault≠0 by simpa using hy)) λ _=>Xh8 h n _) (Wg trivial)
def Xp3 (hN:NB N) {h:Wv} (ht:HT h) {y:List Int×Int} (ey:Qaq N h=some y) (eg:Qa6 N h=some true):Qab N h=some true/\∀ a∈y.1,¬ JI h y.1 a:=by
 have main:PT (Qep N h) λ f=>f.Fault=0->Qab N h=some true/\∀ a∈y.1,¬ JI h y.1 a:=by
  rw[Qep]
  refine Wu (Q:=λ b=>Qab N h=some b) (λ r e=>e) λ b hb=>UA (λ _=>Wg λ e=>by cases e) λ hb1=>?_
  obtain rfl:b=true:=by simpa using hb1
  refine Wu (Xh8 h N 0) λ e he=>?_
  cases e with
  | ret f=>rw[Xl];exact Wg λ e=>absurd e he
  | nxt u =>
   rw[Xk]
   obtain ⟨f,ef,f1,f2⟩:=(Xbl hN ht hb ey).2
   rw[ef,Xa]
   refine UA (λ hf=>Wg λ e=>?_) λ hf=>?_
   ·rw[e] at hf;cases hf
   have hf:f.Fault=0:=by simpa using hf
   have hno:∀ a∈y.1,¬ JI h y.1 a:=λ a ha hbo=>f1 ⟨a,ha,hbo⟩ hf
   exact Wz λ _=>Wl (Wg λ _=>⟨hb,hno⟩) (Wg λ _=>⟨hb,hno⟩)
 rw[Qa6] at eg
 cases e:Qep N h with
 | none=>rw[e,Xb3] at eg;cases eg
 | some f =>
  rw[e,Xa] at eg
  refine main f e ?_
  have:=Ug eg
  simp only[Ww,beq_iff_eq] at this
  exact this.1
structure VF (N:Nat) (x:Ud) (O:List Int):Prop where
 len:O.length<=4096
 pr:Qab N x.Heap=some true
 at_:∀ a∈O,Of x.Heap a
 ev:∀ a∈O,Qav N x.Heap a=some (hdA x.Heap.Words a,0)
 kd:∀ a∈O,(hdA x.Heap.Words a).Kind≠0
 bad:∀ a∈O,¬ JI x.Heap O a
 refs:∀ r∈((x.Roots++XX x.Locals.Slots)++XA x.Globals.Entries)++XA x.Weaks.Entries,r=0\/r∈O
 pins:∀ p∈x.Pins,p.Ref∈O
 p64:x.Pins.length<=64
 loc:YL x.Locals=true
 glo:Yx x.Globals.Entries=true
 wea:Yx x.Weaks.Entries=true
def Xoh (hN:NB N) {x:Ud} (ht:ET x) (hv:QbH N x=some true):∃ O,VF N x O:=by
 have hN':1000000<N:=by unfold NB at hN;omega
 have hx:=ht.eb
 obtain ⟨y,ey,hlen,_,hat,hev,hkd⟩:=K2 hN hx.heap
 refine ⟨y.1,?_⟩
 have main:PT (QbH N x) λ b=>b=true->VF N x y.1:=by
  rw[QbH]
  refine Wu (Xog hN (by omega) ey hx.pins) λ b hb=>UA (λ _=>Wg λ e=>by cases e) λ hb1=>?_
  have hb:=hb (by simpa using hb1)
  rw[ZN hx.loc hN',Xa]
  refine UA (λ _=>Wg λ e=>by cases e) λ h1=>?_
  rw[Zi hx.glo hN',Xa]
  refine UA (λ _=>Wg λ e=>by cases e) λ h2=>?_
  rw[Zi hx.wea hN',Xa]
  refine UA (λ _=>Wg λ e=>by cases e) λ h3=>?_
  have h1:YL x.Locals=true:=by simpa using h1
  have h2:Yx x.Globals.Entries=true:=by simpa using h2
  have h3:Yx x.Weaks.Entries=true:=by simpa using h3
  rw[X8 hx.glo hN',Xa,h2,We,Zs hx.loc hN',X8 hx.wea hN',h1,h3]
  simp only[Xa,We]
  have l1:=ZZ x.Locals.Slots
  have l2:=Ys x.Globals.Entries
  have l3:=Ys x.Weaks.Entries
  have m1:=(Yb.1 h1).slots
  have m2:=Ya h2
  have m3:=Ya h3
  have m4:=hx.roots
  have m5:=(Yb.1 h1).iss
  refine Wz λ y6=>Wl (Wg λ e=>by cases e) (WJ (WJ (WJ (WJ (Wu (XlY hN (by omega) ey (by simp only[Wp];omega)) λ y9 h9=>Wg λ e9=>?_)))))
  obtain ⟨g1,g2⟩:=h9 e9
  obtain ⟨q1,q2⟩:=Xp3 hN ht.ht ey g1
  exact ⟨hlen,q1,hat,hev,hkd,q2,g2,hb.2,hb.1,h1,h2,h3⟩
 exact main _ hv rfl
end
section
variable {N:Nat}
def KL.refl (h:Wv):KL h h:=⟨rfl,rfl⟩
def KL.trans {a b c:Wv} (h:KL a b) (k:KL b c):KL a c:=⟨k.1.trans h.1,k.2.trans h.2⟩
def Xf5 (hN:NB N) {h:Wv} (hb:HB h) {a i v:Int} {r:Int×Int} (hf:QbI N h a i=some r) (h0:r.2=0):∃ h',QbC N h a i v=some (h',0)/\KL h h':=by
 have hN':=hN
 unfold NB at hN'
 obtain ⟨hp,hat,i0,i1⟩:=(Xca hN hb a i).get_eq hf h0
 have hr:=hat.rng
 have hfit:=Vq hp hat
 have hm:=X5 hp.conf (i:=0) (by omega) (by have:=Xj.1 hp.conf;omega)
 have hw:=hp.words
 have hd:=XH (ZY (wd h.Words a))
 unfold szA at hfit
 unfold hdA at *
 have ew:wU (wU (a+1)+wU i)=a+1+i:=by rw[XC (n:=a+1) (by omega) (by omega),XC (n:=i) (by omega) (by omega),XC (by omega) (by omega)]
 rw[QbC,hf,Xa,show (r.2 != 0)=false by simpa using h0,Wa,ew,Xab (by unfold BIG;have:=hb.1;omega) (by omega),Wn (by unfold inW;omega),Xa]
 exact ⟨_,rfl,by rw[Wx],rfl⟩
end
section
variable {N:Nat}
def Xf6 (hN:NB N) {h:Wv} (hb:HB h) {l:List Int} (e:Qa5 N h l=some true):Qa6 N h=some true:=by
 obtain ⟨g,eg,_⟩:=Km hN hb
 rw[Qa5,eg,Xa] at e
 cases g with
 | false=>cases e
 | true=>exact eg
def Xg7 (hN:NB N) {h:Wv} (hb:HB h) (ep:Qab N h=some true) (eg:Qa6 N h=some true):Ok (QdI N h) λ r=>∃ l,OL N h l r.1:=by
 have hN':=hN
 unfold NB at hN'
 have hb2:=hb.2
 have hp:=Y0 hN hb ep
 have hg:=(Km hN hb).get_eq eg rfl
 rw[QdI,ep,Xa,eg,Xa,Ws,Wa,Wa]
 refine WN (Zy hN hb) λ y _ hy=>WY (by omega) ?_
 refine WN (Xah h y (by omega) N 0 h.Pages (by omega) (by omega) (by omega) (SameK.refl _)) λ qs _ hqs=>Wh ?_
 exact ⟨y.1,⟨hb,λ _=>hg,λ _=>hp,hy.1⟩,Xfw hb hp hy.1 rfl rfl rfl hqs rfl rfl rfl,rfl,.inl hp⟩
def Xoi (hN:NB N) {h0:Wv} {w:Uk} (hb:HB h0) (hp:UR h0\/h0.Pages=[]) (hc:w.Heap.Conf=h0.Conf) (hw:w.Heap.Words.length=h0.Words.length) (hpl:w.Heap.Pages.length=h0.Pages.length):Ok (Qei N w) λ r=>KL h0 r.Heap/\r.Taken=w.Taken:=by
 have hN':=hN
 unfold NB at hN'
 have hb1:=hb.1
 have hb2:=hb.2
 rw[Qei]
 exact WY (by omega) (WY (by omega) (WN (Xbz hN hb hp hc N 0 _ _ _ (by omega) (by omega) (by omega) hw hpl) λ r _ hr=>Wh ⟨⟨hr.1,hr.2⟩,rfl⟩))
def Xg8 (hN:NB N) {h:Wv} (hb:HB h) {rs ws:List Int} (hr:rs.length<=1000000) (hw:ws.length<=1000000):Ok (QcE N h rs ws) λ r=>r.2.2.2.2=0->KL h r.1:=by
 have hN':=hN
 unfold NB at hN'
 have bad:∀ (a:Wv) (b c:List Int) (d:UC) (e:Int),e≠0->(a,b,c,d,e).2.2.2.2=0->KL h (a,b,c,d,e).1:=λ _ _ _ _ e he hh=>absurd hh he
 rw[QcE]
 refine WN (Yr (N:=N) (by omega) hb.1 hb.2) λ b ep _=>Wo (λ _=>Wh (bad _ _ _ _ 1 (by decide))) λ hb1=>IB ?_
 have hbt:b=true:=by simpa using hb1
 subst hbt
 refine WN (Jk hN hb hr) λ b2 e2 _=>Wo (λ _=>Wh (bad _ _ _ _ 19 (by decide))) λ hb2=>?_
 have hbt2:b2=true:=by simpa using hb2
 subst hbt2
 have eg:=Xf6 hN hb e2
 refine WN (Jk hN hb hw) λ b _ _=>Wo (λ _=>Wh (bad _ _ _ _ 19 (by decide))) λ _=>?_
 refine WN (Xg7 hN hb ep eg) λ y4 _ hy4=>?_
 obtain ⟨l,bq⟩:=hy4
 have hs:=bq.st
 refine WN (Xfy hN hs hr bq.ci) λ y5 _ hy5=>Wo (λ he=>Wh (bad _ _ _ _ _ (by simpa using he))) λ he=>?_
 obtain ⟨c1,c2,c3⟩:=hy5 (by simpa using he)
 have hsc:=bq.sc
 refine WN (Xk6 hN hs c1 (by omega) (by omega)) λ y6 _ hy6=>Wo (λ he=>Wh (bad _ _ _ _ _ (by simpa using he))) λ he=>?_
 have d1:=hy6 (by simpa using he)
 refine WN (Xeg hN hs ws hw y5 y6 d1 N 0 _ [] (by omega) (by omega) (by omega) rfl) λ y16 _ hy16=>?_
 have d2:CI h l (Uk.mk y6.1.Heap y6.1.Old y6.1.Taken y6.1.Queue y6.1.Scanned (UC.mk y6.1.Report.Copied y6.1.Report.Kept y6.1.Report.Filled y6.1.Report.Freed y16.1 y6.1.Report.Steps)):=by
  obtain ⟨O,s,ho⟩:=d1.obj
  exact ⟨d1.conf,d1.wlen,d1.plen,d1.spc,d1.old,d1.tk,d1.tnd,d1.knd,d1.qnd,⟨O,s,⟨ho.old,ho.queue,ho.fit,ho.apart,ho.taken,ho.free⟩⟩⟩
 refine WN (XhI hN hs d2) λ y17 _ ⟨f1,f2,f3,f4,f5⟩=>?_
 refine WN (Xoi hN (h0:=h) hs.hb bq.pr f1 f2 f4) λ y18 _ ⟨g1,g2⟩=>?_
 refine IB (Wo (λ ht=>?_) λ _=>Wh λ _=>g1)
 have ht:0<(y18.Taken.length:Int):=Wq ht
 rw[g2] at ht ⊢
 rw[Xd (by omega) (by omega)]
 exact Ok.get (by omega) (by omega) λ p _=>Wh λ _=>g1
end
section
variable {N:Nat}
def XcH {h:Wv} {a d:Int}:PT (Qcj N h a d) (KL h):=by
 rw[Qcj]
 exact WJ (Wz λ _=>Wz λ _=>Wz λ _=>Wg ⟨rfl,by show (List.set _ _ _).length=_;rw[Wx]⟩)
def Xg9 {h:Wv} {pins:List U4} {a:Int}:PT (Qbz N h pins a) λ r=>r.2.2=0->KL h r.1:=by
 rw[Qbz]
 refine Wz λ y1=>Wl (Wg λ e=>by cases e) (Wl (Wg λ e=>by cases e) (Wz λ y2=>Wl (Wg λ e=>by cases e) (WJ (Wz λ p3=>Wz λ p4=>Wz λ p5=>Wl ?_ ?_))))
 ·exact WJ (WJ (WJ (Wu XcH λ y hy=>Wg λ _=>hy)))
 ·exact Wu XcH λ y hy=>Wg λ _=>hy
def Xjq {h:Wv} {pins:List U4} {a:Int}:PT (Qdn N h pins a) λ r=>r.2.2.2=0->KL h r.1:=by
 rw[Qdn]
 simp only[XN]
 repeat' first
  | (refine Wg λ e=>?_;first | assumption | (exfalso;revert e;decide))
  | refine Wu XcH λ y hy=>?_
  | refine Wl ?_ ?_
  | refine WJ ?_
  | refine Wz λ _=>?_
end
section
variable {N:Nat} {x:Ud}
def Xf7 {α:Type} {o:Option α} {P:α->Prop} (h:Ok o P):PT o P:=λ r e=>h.get_eq e
def Xbo (hN:NB N) (hx:EB x):PT (Qbk N x) λ r=>r.2.2=0->KL x.Heap r.1.Heap:=by
 have hN':=hN
 unfold NB at hN'
 have hr:=hx.roots
 have hp:=hx.pins
 have l1:=Z0 hx.loc
 have l2:=YK x.Globals.Entries
 have l3:=YK x.Weaks.Entries
 rw[Qbk]
 refine Wu (Xf7 (Kz hN hx)) λ b hv=>UA (λ _=>Wg λ e=>?_) λ hb=>?_
 ·exact absurd e (by decide)
 have hv:=hv (by simpa using hb)
 have h64:=hv.mat.len
 refine Wu (Xf7 (Xcp hN hx)) λ y2 h2=>?_
 rw[X8 hx.wea (by omega),Xa]
 refine Wu (Xf7 (Xg8 hN hx.heap (by omega) (by omega))) λ y4 h4=>UA (λ hc=>Wg λ e=>?_) λ hc=>?_
 ·have e':y4.2.2.2.2=0:=e
  rw[e'] at hc;cases hc
 have hk:KL x.Heap y4.1:=h4 (by simpa using hc)
 repeat' first
  | exact Wg λ _=>hk
  | refine WJ ?_
  | refine Wz λ _=>?_
end
section
variable {N:Nat} {x:Ud}
def Xjr (hN:NB N) (hx:EB x) {d:WI} (tm:tW d.Map):PT (Qch N x d) λ r=>r.2.2=0->KL x.Heap r.1.Heap:=by
 rw[Qch]
 simp only[XN]
 refine Wz λ b=>UA (λ _=>Wg λ e=>?_) λ _=>?_
 ·exact absurd e (by decide)
 refine Wu (Xf7 (Xh7 hN hx.heap tm)) λ y2 h2=>UA (λ _=>?_) λ _=>?_
 ·refine Wu (Q:=λ y:Ud×UC×Int=>EB y.1/\(y.2.2=0->KL x.Heap y.1.Heap)) (λ r e=>⟨(Va hN hx).get_eq e,Xbo hN hx r e⟩) λ y3 h3=>UA (λ hc=>Wg λ e=>?_) λ hc=>?_
  ·have e':y3.2.2=0:=e
   rw[e'] at hc;cases hc
  have k3:=h3.2 (by simpa using hc)
  refine Wu (Xf7 (Xh7 hN h3.1.heap tm)) λ y4 h4=>UA (λ hc=>Wg λ e=>?_) λ hc=>Wg λ _=>?_
  ·have e':y4.2.2=0:=e
   rw[e'] at hc;cases hc
  ·exact k3.trans (h4 (by simpa using hc))
 ·refine UA (λ hc=>Wg λ e=>?_) λ hc=>Wg λ _=>?_
  ·have e':y2.2.2=0:=e
   rw[e'] at hc;cases hc
  ·exact h2 (by simpa using hc)
end
section
variable {N:Nat} {x:Ud}
structure SM (x:Ud):Prop where
 sc:x.Locals.Scopes.length<=1000
 glo:x.Globals.Entries.length<=1000
 wea:x.Weaks.Entries.length<=1000
 pins:x.Pins.length<=1000
 roots:x.Roots.length<=1000
def KE (x y:Ud):Prop:=KL x.Heap y.Heap/\(SM x->SM y)
def KE.refl (x:Ud):KE x x:=⟨KL.refl _,id⟩
def KE.trans {x y z:Ud} (h:KE x y) (k:KE y z):KE x z:=⟨h.1.trans k.1,λ s=>k.2 (h.2 s)⟩
def KQ (x:Ud) (r:Ud×Int×Int):Prop:=r.2.2=0->KE x r.1
def Yz {e:Int} (h:(e != 0)=true):PT (bnd (Qac N e) λ y=>some (y.1,y.2.1,y.2.2)) (KQ x):=by
 rw[Qac,Xa]
 exact Wg λ e'=>by have e':e=0:=e';subst e';cases h
def Xay {o:Option (Ud×Int×Int)} (h:PT o (KQ x)):PT (bnd o λ y=>some (y.1,y.2.1,y.2.2)) (KQ x):=Wu h λ y hy=>Wg hy
def Xha {a b:Int}:KQ x (x,a,b):=λ _=>KE.refl _
def zz {e:Int} (h:(e != 0)=false):e=0:=by simpa using h
def OO {α:Type} {P:α->Prop} {p:Prop} [Decidable p] {o:Option α} (k:p->PT o P):PT (Sx.grd p o) P:=by
 unfold Sx.grd
 split
 ·exact k (by assumption)
 ·exact II
def Xp4 (a:WD) (v:Int):(VU a v).1.Scopes.length<=a.Scopes.length:=by
 unfold VU
 repeat' split
 all_goals simp[zL]
def Xp5 (a:WD) (i g:Int):(XaU a i g).1.Scopes.length<=a.Scopes.length:=by
 unfold XaU
 split<;>simp[zL]
def Xoj (a:WD) (c:Int):(JD a c).1.Scopes.length<=1000:=by
 unfold JD
 cases hv:YL a
 ·simp[zL]
 have:=(Yb.1 hv).sc
 repeat' split
 all_goals simp[zL]
 omega
def Xp6 (a:WD):(ZO a).1.Scopes.length<=a.Scopes.length:=by
 unfold ZO
 repeat' split
 all_goals simp[zL]
def XlZ (t:WT) (i g:Int):(J8 t i g).1.Entries.length<=t.Entries.length:=by
 unfold J8
 split<;>simp[zT]
def Xl0 {t:WT} (v:Int) (h:t.Entries.length<=1000):(J7 t v).1.Entries.length<=1000:=Xck (k:=0) h v
def Xev (hN:NB N) (hx:EB x) {v:Int}:PT (Qci N x v) (KQ x):=by
 have hN':=hN
 unfold NB at hN'
 rw[Qci,Xak hx.loc (by omega),Xa]
 exact UA (λ _=>Wg Xha) λ _=>UA (λ h=>Yz h) λ _=>Wz λ _=>Wg λ _=>⟨KL.refl _,λ s=>⟨UB (Xp4 _ _) s.sc,s.glo,s.wea,s.pins,s.roots⟩⟩
def Xew (rs:List Int):∀ (n:Nat) (c k:Int) (v:List Uj),PT (Qbj N rs n c k v) λ r=>r.length=v.length
 | 0,c,k,v=>II
 | n+1,c,k,v=>by
  rw[Qbj]
  refine WJ (Wl (Wz λ _=>Wl (Wz λ _=>Wz λ _=>?_) (Xew rs n _ _ v)) (Wg rfl))
  exact λ r e=>(Xew rs n _ _ _ r e).trans (Wx ..)
def Xh9 {t:WT} {rs:List Int}:PT (QcF N t rs) λ r=>r.1.Entries.length<=t.Entries.length:=by
 rw[QcF]
 exact Wz λ _=>Wl (Wg (Un _)) (Wz λ _=>WJ (Wl (Wg (Un _)) (WJ (Wu (Xew rs N _ _ _) λ y hy=>Wg (Nat.le_of_eq hy)))))
def Xex (a:WD) (rs:List Int):∀ (n:Nat) (c k:Int) (v:List U1),PT (Qbi N a rs n c k v) (tE (λ r=>r.1.Scopes.length<=a.Scopes.length) λ _=>True)
 | 0,c,k,v=>II
 | n+1,c,k,v=>by
  rw[Qbi]
  exact WJ (Wl (Wz λ _=>Wl (Xex a rs n _ _ _) (Wz λ _=>Wl (Wg (Un _)) (Wz λ _=>Wz λ _=>Xex a rs n _ _ _))) (Wg trivial))
def Xok {a:WD} {rs:List Int}:PT (Qej N a rs) λ r=>r.1.Scopes.length<=a.Scopes.length:=by
 rw[Qej]
 exact Wz λ _=>Wl (Wg (Un _)) (Wz λ _=>Wl (Wg (Un _)) (WJ (Ow (Xex a rs N _ _ _) (λ r hr=>Wg hr) λ v _=>Wg (Ui _))))
def Xl1 (x:Ud) (y4:Wv×List Int×List Int×UC×Int) (y5 y6:List Int) (y7:WD×Int) (y8 y9:WT×Int) (hp:x.Pins.length<=1000000):∀ (n:Nat) (k:Int) (v:List U4),k=v.length->k<=x.Pins.length->PT (QaP N x y4 y5 y6 y7 y8 y9 n k v) λ r=>r.length<=x.Pins.length
 | 0,k,v,_,_=>II
 | n+1,k,v,hk,hkp=>by
  rw[QaP]
  refine UA (λ hc=>Wz λ _=>Wz λ _=>WJ ?_) λ _=>Wg (by omega)
  have hc:=Wq hc
  rw[Xd (n:=k+1) (by omega) (by omega)]
  exact Xl1 x y4 y5 y6 y7 y8 y9 hp n _ _ (by rw[Wp];simp;omega) (by omega)
def Xf8 (hN:NB N) (hx:EB x):PT (Qbk N x) λ r=>r.2.2=0->KE x r.1:=by
 have main:PT (Qbk N x) λ r=>SM x->SM r.1:=by
  have z:SM x->SM ⟨zHp,⟨[],[],[]⟩,⟨[]⟩,⟨[]⟩,[],[]⟩:=λ _=>⟨by simp,by simp,by simp,by simp,by simp⟩
  rw[Qbk]
  refine Wz λ b=>Wl (Wg z) (Wz λ y2=>Wz λ y3=>Wz λ y4=>Wl (Wg z) (Wz λ y5=>Wz λ y6=>WJ (WJ (WJ (WJ (Wu Xok λ y7 h7=>WJ (Wu Xh9 λ y8 h8=>Wu Xh9 λ y9 h9=>Wu (Xl1 x y4 y5 y6 y7 y8 y9 hx.pins N 0 [] rfl (by omega)) λ y14 h14=>Wg λ s=>⟨UB h7 s.sc,UB h8 s.glo,UB h9 s.wea,UB h14 s.pins,?_⟩)))))))
  have:=s.roots
  show (List.take _ _).length<=_
  rw[WC];omega
 exact λ r e h0=>⟨Xbo hN hx r e h0,main r e⟩
def Xp7 (hN:NB N) (hx:EB x) {d:WI} (tm:tW d.Map):PT (Qch N x d) λ r=>r.2.2=0->KE x r.1:=by
 have main:PT (Qch N x d) λ r=>SM x->SM r.1:=by
  have z:SM x->SM ⟨zHp,⟨[],[],[]⟩,⟨[]⟩,⟨[]⟩,[],[]⟩:=λ _=>⟨by simp,by simp,by simp,by simp,by simp⟩
  rw[Qch]
  simp only[XN]
  refine Wz λ b=>Wl (Wg z) (Wz λ y2=>Wl (Wu (Xf8 hN hx) λ y3 h3=>UA (λ _=>Wg z) λ h=>Wz λ y4=>Wl (Wg z) (Wg λ s=>?_)) (Wl (Wg z) (Wg λ s=>⟨s.sc,s.glo,s.wea,s.pins,s.roots⟩)))
  have s':=(h3 (zz h)).2 s
  exact ⟨s'.sc,s'.glo,s'.wea,s'.pins,s'.roots⟩
 exact λ r e h0=>⟨Xjr hN hx tm r e h0,main r e⟩
def XdG (hN:NB N) {h:Wv} (hb:HB h) {l:List U4} (hl:l.length<=1000000):PT (QbG N h l) λ b=>b=true->l.length<=64:=λ b e hb1=>((J9 hN hb hl).get_eq e hb1).len
def Xl2 (hN:NB N) (hx:EB x) {a:Int}:PT (Qbz N x.Heap x.Pins a) λ r=>r.2.2=0->KL x.Heap r.1/\r.2.1.length<=1000:=by
 have main:PT (Qbz N x.Heap x.Pins a) λ r=>r.2.1.length<=1000:=by
  rw[Qbz]
  refine Wu (XdG hN hx.heap hx.pins) λ b hb=>UA (λ _=>Wg (Un _)) λ hb1=>?_
  have h64:=hb (by simpa using hb1)
  refine Wl (Wg (Un _)) (Wz λ y2=>Wl (Wg (Un _)) (WJ (Wz λ _=>Wz λ _=>Wz λ _=>Wl (WJ (WJ (OO λ hg=>Wz λ _=>Wg ?_))) (Wz λ _=>Wg ?_))))
  ·simp only[WC,Wp,Wx,WR];omega
  ·show (x.Pins.set _ _).length<=_;rw[Wx];omega
 exact λ r e h0=>⟨Xg9 r e h0,main r e⟩
def Xs1 (hN:NB N) (hx:EB x) {a:Int}:PT (Qdn N x.Heap x.Pins a) λ r=>r.2.2.2=0->KL x.Heap r.1/\r.2.1.length<=1000:=by
 have main:PT (Qdn N x.Heap x.Pins a) λ r=>r.2.1.length<=1000:=by
  rw[Qdn]
  simp only[XN]
  refine Wu (XdG hN hx.heap hx.pins) λ b hb=>UA (λ _=>Wg (Un _)) λ hb1=>?_
  have h64:=hb (by simpa using hb1)
  have l1:∀ i p,(x.Pins.set i p).length<=1000:=λ i p=>by rw[Wx];omega
  have l2:∀ p,(x.Pins++[p]).length<=1000:=λ p=>by rw[Wp];simp;omega
  repeat' first
   | exact Wg (Un _)
   | exact Wg (l1 _ _)
   | exact Wg (l2 _)
   | refine Wl ?_ ?_
   | refine WJ ?_
   | refine Wz λ _=>?_
 exact λ r e h0=>⟨Xjq r e h0,main r e⟩
def Xol (N:Nat) (h:Wv) (a:Int):PT (Qav N h a) λ r=>r.2≠0->r.1.Length=0:=by
 rw[Qav]
 simp only[XN]
 repeat' first
  | (refine Wg λ e=>?_;first | rfl | (exact absurd rfl e))
  | refine Wl ?_ ?_
  | refine WJ ?_
  | refine Wz λ _=>?_
def Xl3 (N:Nat) (h:Wv) (a:Int):PT (Qbn N h a) λ r=>r.2≠0->r.1.Length=0:=by
 rw[Qbn]
 refine Wz λ b=>Wl (Wg λ _=>rfl) (Wl (Wg λ _=>rfl) (Wu (Xol N h a) λ y hy=>Wl (Wl (Wg λ _=>rfl) (Wg hy)) (Wg hy)))
def Xp8 (hN:NB N) {h:Wv} (hb:HB h) {a i:Int} {y:WI×Int} (hg:Qbn N h a=some y) (h0:y.2=0) (hi0:0<=i) (hi:i<y.1.Length):∃ v,QbI N h a i=some (v,0):=by
 have hN':=hN
 unfold NB at hN'
 obtain ⟨hp,_,hat,hh,_⟩:=(VR hN hb a).get_eq hg h0
 rw[hh] at hi
 have hr:=hat.rng
 have hfit:=Vq hp hat
 have hm:=X5 hp.conf (i:=0) (by omega) (by have:=Xj.1 hp.conf;omega)
 have hw:=hp.words
 have hd:=XH (ZY (wd h.Words a))
 unfold szA at hfit
 unfold hdA at *
 have ew:wU (wU (a+1)+wU i)=a+1+i:=by rw[XC (n:=a+1) (by omega) (by omega),XC (n:=i) (by omega) (by omega),XC (by omega) (by omega)]
 rw[QbI,hg,Xa,show (y.2 != 0)=false by simpa using h0,Wa,Wk (by omega),Wa,hh,Wk (by omega),Wa,ew,ZJ (by unfold BIG;have:=hb.1;omega),Xa,Wn (by unfold inW;omega)]
 exact ⟨_,rfl⟩
def Xf9 (hN:NB N) (hb:HB x.Heap) {a b:Int} (hu:tU b) {c:Bool}:PT (QcZ N x a b c) λ r=>r.2.2=0->∃ v,QbI N x.Heap r.1 r.2.1=some (v,0):=by
 rw[QcZ]
 refine Wz λ y1=>UA (λ hc=>Wg λ e=>?_) λ _=>?_
 ·have e:y1.2=0:=e
  rw[e] at hc;cases hc
 refine Wu (Q:=λ y=>Qbn N x.Heap y1.1=some y) (λ r e=>e) λ y2 h2=>UA (λ _=>Wg λ e=>absurd e (by decide)) λ h3=>Wz λ _=>Wl (Wg λ e=>absurd e (by decide)) (Wg λ _=>?_)
 have h3:=WG h3
 obtain ⟨u1,u2⟩:=hu
 have hz:y2.2=0:=by
  by_cases hz:y2.2=0
  ·exact hz
  ·have:=Xl3 N _ _ _ h2 hz
   rw[this,XC (by omega) (by omega)] at h3
   omega
 obtain ⟨_,_,_,hh,_⟩:=(VR hN hb y1.1).get_eq h2 hz
 have hd:=XH (ZY (wd x.Heap.Words y1.1))
 have hl:0<=y2.1.Length/\y2.1.Length<=255:=by rw[hh];unfold hdA;omega
 rw[XC (by omega) (by omega)] at h3
 show ∃ v,QbI N x.Heap y1.1 (wI b)=some (v,0)
 rw[Xd (by omega) (by omega)]
 exact Xp8 hN hb h2 hz u1 (by omega)
def Xl4 (hN:NB N) (hx:EB x) {op a b c:Int} (hu:tU b):PT (QdM N x op a b c) (KQ x):=by
 rw[QdM]
 simp only[XN]
 have main:∀ y:Int×Int×Int,(y.2.2=0->∃ v,QbI N x.Heap y.1 y.2.1=some (v,0))->∀ v',y.2.2=0->PT (α:=Ud×Int×Int) (bnd (QbC N x.Heap y.1 y.2.1 v') λ y12=>some ((Ud.mk y12.1 x.Locals x.Globals x.Weaks x.Pins x.Roots),0,0)) (KQ x):=by
  intro y hy v' h0
  obtain ⟨v,ev⟩:=hy h0
  obtain ⟨h',e',k⟩:=Xf5 hN hx.heap (v:=v') ev rfl
  rw[e',Xa]
  exact Wg λ _=>⟨k,λ s=>⟨s.sc,s.glo,s.wea,s.pins,s.roots⟩⟩
 refine UA (λ _=>Wu (Xf9 hN hx.heap hu) λ y hy=>?_) λ _=>Wu (Xf9 hN hx.heap hu) λ y hy=>?_<;>
 exact UA (λ h=>Yz h) λ h0=>Wz λ y7=>UA (λ _=>Wg Xha) λ _=>UA (λ _=>Xay (Xev hN hx)) λ _=>UA (λ _=>Wz λ y9=>UA (λ h=>Yz h) λ _=>main y hy _ (zz h0)) λ _=>main y hy _ (zz h0)
def Xjs (hN:NB N) (hx:EB x) {op a b:Int} (ha:tU a) (hb:tU b):PT (Qc7 N x op a b) (KQ x):=by
 rw[Qc7]
 simp only[XN]
 refine UA (λ _=>Yz (by decide)) λ _=>Wu (Qhm ha hb) λ y2 h2=>UA (λ _=>Yz (by decide)) λ _=>Wz λ y3=>UA (λ _=>Yz (by decide)) λ _=>Wz λ y5=>UA (λ h=>Yz h) λ _=>Wu (Q:=λ y:Ud×Int×Int=>EB y.1/\(y.2.2=0->KE x y.1)) (λ r e=>⟨(Xdo hN hx _).get_eq e,Xp7 hN hx h2 r e⟩) λ y7 h7=>UA (λ h=>Yz h) λ h=>Wu (Xev hN h7.1) λ y9 h9=>Wg λ e=>(h7.2 (zz h)).trans (h9 e)
def Xl5 (hN:NB N) (hx:EB x) {op a b:Int}:PT (QdN N x op a b) (KQ x):=by
 rw[QdN]
 simp only[XN]
 repeat' first
  | exact Wg Xha
  | exact Xay (Xev hN hx)
  | (refine Yz ?_;assumption)
  | (refine UA (λ h=>?_) λ _=>?_)
  | refine Wz λ _=>?_
def Xhb (hN:NB N) (hx:EB x) {op a:Int}:PT (QcH N x op a) (KQ x):=by
 have hN':=hN
 unfold NB at hN'
 rw[QcH]
 simp only[XN]
 have eW:=KY (N:=N) (t:=⟨x.Weaks.Entries⟩) hx.wea (by omega)
 have eG:=KY (N:=N) (t:=⟨x.Globals.Entries⟩) hx.glo (by omega)
 have main1:∀ (c v g w:Int),SM x->∀ r:WT,r.Entries.length<=1000->SM ⟨x.Heap,x.Locals,⟨x.Globals.Entries⟩,⟨r.Entries⟩,x.Pins,x.Roots⟩:=λ _ _ _ _ s r hr=>⟨s.sc,s.glo,hr,s.pins,s.roots⟩
 refine Wz λ y1=>UA (λ h=>Yz h) λ _=>UA (λ h15=>?_) λ h15=>?_
 ·rw[eW,Xa,h15]
  exact UA (λ h=>Yz h) λ _=>Wz λ _=>Wg λ _=>⟨KL.refl _,λ s=>⟨s.sc,s.glo,Xl0 _ s.wea,s.pins,s.roots⟩⟩
 ·rw[eG,Xa,h15]
  exact UA (λ h=>Yz h) λ _=>Wz λ _=>Wg λ _=>⟨KL.refl _,λ s=>⟨s.sc,Xl0 _ s.glo,s.wea,s.pins,s.roots⟩⟩
def Xjt (hN:NB N) (hx:EB x) {op a:Int}:PT (Qc8 N x op a) (KQ x):=by
 have hN':=hN
 unfold NB at hN'
 rw[Qc8]
 simp only[XN,Xej hx.loc (show 1000000<N by omega),Vr hx.glo (show 1000000<N by omega),Vr hx.wea (show 1000000<N by omega),Xa]
 repeat' first
  | exact Wg λ _=>⟨KL.refl _,λ s=>⟨UB (Xp5 _ _ _) s.sc,s.glo,s.wea,s.pins,s.roots⟩⟩
  | exact Wg λ _=>⟨KL.refl _,λ s=>⟨s.sc,UB (XlZ _ _ _) s.glo,s.wea,s.pins,s.roots⟩⟩
  | exact Wg λ _=>⟨KL.refl _,λ s=>⟨s.sc,s.glo,UB (XlZ _ _ _) s.wea,s.pins,s.roots⟩⟩
  | (refine Yz ?_;first | assumption | decide)
  | (refine UA (λ h=>?_) λ _=>?_)
  | refine Wz λ _=>?_
def Xju (hN:NB N) (hx:EB x) {op a:Int}:PT (Qc9 N x op a) (KQ x):=by
 have hN':=hN
 unfold NB at hN'
 rw[Qc9,Xal hx.loc (by omega),XbA hx.loc (by omega)]
 simp only[Xa]
 refine UA (λ _=>UA (λ _=>Yz (by decide)) λ _=>UA (λ h=>Yz h) λ _=>Wg λ _=>⟨KL.refl _,λ s=>⟨Xoj _ _,s.glo,s.wea,s.pins,s.roots⟩⟩) λ _=>Wz λ y4=>UA (λ h=>Yz h) λ _=>UA (λ h=>Yz h) λ _=>Wu (Xev hN (x:=⟨x.Heap,(ZO x.Locals).1,x.Globals,x.Weaks,x.Pins,x.Roots⟩) ⟨hx.heap,XbB hx.loc,hx.glo,hx.wea,hx.pins,hx.roots⟩) λ y hy=>Wg λ e=>?_
 exact KE.trans (y:=⟨x.Heap,(ZO x.Locals).1,x.Globals,x.Weaks,x.Pins,x.Roots⟩) ⟨KL.refl _,λ s=>⟨UB (Xp6 _) s.sc,s.glo,s.wea,s.pins,s.roots⟩⟩ (hy e)
def Xom (hN:NB N) (hx:EB x) {op a:Int}:PT (Qel N x op a) (KQ x):=by
 rw[Qel]
 refine Wz λ y1=>UA (λ h=>Yz h) λ _=>UA (λ _=>Wu (Xl2 hN hx) λ y3 h3=>UA (λ h=>Yz h) λ h=>Wg λ _=>⟨(h3 (zz h)).1,λ s=>⟨s.sc,s.glo,s.wea,(h3 (zz h)).2,s.roots⟩⟩) λ _=>Wu (Xs1 hN hx) λ y5 h5=>UA (λ h=>Yz h) λ h=>Wg λ _=>⟨(h5 (zz h)).1,λ s=>⟨s.sc,s.glo,s.wea,(h5 (zz h)).2,s.roots⟩⟩
def Xon (hN:NB N) (hx:EB x) {op a b c:Int} (ha:tU a) (hb:tU b):PT (Qem N x op a b c) (KQ x):=by
 rw[Qem]
 simp only[XN]
 refine Wz λ b1=>UA (λ _=>Yz (by decide)) λ _=>?_
 repeat' first
  | exact Yz (by decide)
  | exact Xay (Xjs hN hx ha hb)
  | exact Xay (Xl4 hN hx hb)
  | exact Xay (Xl5 hN hx)
  | exact Xay (Xhb hN hx)
  | exact Xay (Xjt hN hx)
  | exact Xay (Xju hN hx)
  | exact Xay (Xom hN hx)
  | refine Wl ?_ ?_
def Xrf (hN:NB N) {p:ID} (hx:EB p.Env) {d:Oo} (td:Xb6 d):PT (Qb6 N p d) λ r=>KE p.Env r.1.Env:=by
 rw[Qb6]
 simp only[XN]
 refine UA (λ _=>Wu (Xf8 hN hx) λ y1 h1=>UA (λ h=>Wz λ y2=>Wg (h1 (by simpa using h))) λ _=>Wg (KE.refl _)) λ _=>?_
 refine Wu (Xon hN hx td.1 td.2.1) λ y26 h26=>Wz λ _=>Wz λ y28=>?_
 repeat' first
  | exact Wg (KE.refl _)
  | exact Wg (h26 (by simpa using ‹(y26.2.2==0)=true›))
  | (refine UA (λ h=>?_) λ _=>?_)
  | refine WJ ?_
end
section
variable {N:Nat}
def NE (h:Wv):Prop:=1<=h.Words.length/\1<=h.Pages.length
def KL.ne {a b:Wv} (k:KL a b) (h:NE a):NE b:=⟨by rw[k.1];exact h.1,by rw[k.2];exact h.2⟩
def Xp9 {t:UV}:PT (Qdq N t) λ r=>XZ r.1=true:=by
 rw[Qdq]
 refine Wz λ y1=>Wu (Q:=λ p=>p∈([16,16,20,32]:List Int)) (λ r e=>Yo e) λ p hp=>Wz λ y3=>Wu (Q:=λ p=>p∈([8,12,16,20,24]:List Int)) (λ r e=>Yo e) λ q hq=>Wg ?_
 simp only[UQ,List.not_mem_nil,or_false] at hp hq
 rcases hp with rfl | rfl | rfl | rfl<;>rcases hq with rfl | rfl | rfl | rfl | rfl<;>(show XZ ⟨_,_⟩=true;decide)
def Xl6 {c:Um} (hv:XZ c=true):PT (QeU N c) λ r=>NE r.1.Heap/\SM r.1:=by
 rw[QeU,Qgf,YC,Xa,hv,Ws,Wa]
 have hvc:=Xj.1 hv
 have hm:=X5 hv (i:=0) (by omega) (by omega)
 have e:=Xd (n:=c.Pages*c.PageWords) (by omega) (by omega)
 have h1:1*1<=c.Pages*c.PageWords:=Int.mul_le_mul (by omega) (by omega) (by omega) (by omega)
 refine Wu (Q:=λ r:Wv×Int=>NE r.1) (WJ (WJ (Wg ⟨?_,?_⟩))) λ y hy=>Wg ⟨hy,by simp,by simp,by simp,by simp,by simp⟩
 ·show 1<=(List.replicate _ _).length;rw[WO,e];omega
 ·show 1<=(List.replicate _ _).length;rw[WO];omega
def Xl7 {t:UV}:PT (QbF N t) λ r=>NE r.1.Env.Heap/\SM r.1.Env:=by
 rw[QbF]
 exact Wu Xp9 λ y1 h1=>Wu (Xl6 h1) λ y2 h2=>Wz λ y3=>Wz λ y4=>Wg ⟨h2.1,by simp,h2.2.glo,h2.2.wea,h2.2.pins,h2.2.roots⟩
def Xia (hN:NB N):∀ (n:Nat) (i:Int) (t:UV) (p:ID) (k:Nat),0<=i->i<=60->(60-i).toNat<n->(k:Int)=i->PB k p->NE p.Env.Heap/\SM p.Env->TA (10+20*i) t ->
 Ok (Qfn N 60 n i t.L t.at_ p.Env.Heap.Conf.PageWords p.Env.Heap.Conf.Pages p.Env.Heap.Words p.Env.Heap.Pages p.Env.Heap.Space p.Env.Heap.Bump p.Env.Locals.Slots p.Env.Locals.Scopes p.Env.Locals.Issued p.Env.Globals.Entries p.Env.Weaks.Entries p.Env.Pins p.Env.Roots p.World.Conf.PageWords p.World.Conf.Pages p.World.Things p.World.Locals.Slots p.World.Locals.Scopes p.World.Locals.Issued p.World.Globals.Entries p.World.Weaks.Entries p.World.Marks p.World.Roots p.Words) λ r=>∃ (p':ID) (k':Nat),k'<=60/\PB k' p'/\(NE p'.Env.Heap/\SM p'.Env)/\r=(p'.Env.Heap.Conf.PageWords,p'.Env.Heap.Conf.Pages,p'.Env.Heap.Words,p'.Env.Heap.Pages,p'.Env.Heap.Space,p'.Env.Heap.Bump,p'.Env.Locals.Slots,p'.Env.Locals.Scopes,p'.Env.Locals.Issued,p'.Env.Globals.Entries,p'.Env.Weaks.Entries,p'.Env.Pins,p'.Env.Roots,p'.World.Conf.PageWords,p'.World.Conf.Pages,p'.World.Things,p'.World.Locals.Slots,p'.World.Locals.Scopes,p'.World.Locals.Issued,p'.World.Globals.Entries,p'.World.Weaks.Entries,p'.World.Marks,p'.World.Roots,p'.Words)
 | 0,i,t,p,k,_,_,hn,_,_,_,_=>by omega
 | n+1,i,t,p,k,h0,hi,hn,hk,hp,hq,ht=>by
  rw[Qfn]
  refine Wo (λ hc=>?_) λ _=>Wh ⟨p,k,by omega,hp,hq,rfl⟩
  have hc:i<60:=Wq hc
  rw[Qgs,Xa]
  refine Wo (λ _=>?_) λ _=>Wh ⟨p,k,by omega,hp,hq,rfl⟩
  have w1:=hp.w1
  have w2:=hp.w2
  have dty:=λ r (e:QcR N p t=some r)=>Qji (N:=N) hp.ty r e
  rw[Xd (n:=i+1) (by omega) (by omega)]
  refine WN (Xn0 (p:=p) (t:=t) w1 (by omega) ht (by omega)) λ y e hy=>?_
  refine WN (Xq8 hN hp (by omega) (dty y e)) λ z ez hz=>?_
  have kz:=Xrf hN hp.env (dty y e) z ez
  exact Xia hN n (i+1) y.2 z.1 (k+1) (by omega) (by omega) (by omega) (by omega) hz ⟨kz.1.ne hq.1,kz.2 hq.2⟩ (hy.le (by omega))
def Xjv (hN:NB N) (l:List Int):Ok (Qg0 N l 60) λ p=>∃ k,k<=60/\PB k p/\NE p.Env.Heap/\SM p.Env:=by
 have hN':=hN
 unfold NB at hN'
 rw[Qg0]
 refine WN (Xln (m:=0) ⟨by simp,by simp⟩ (by omega)) λ y ey hy=>Ue (Xia hN N 0 y.2 y.1 0 (by omega) (by omega) (by omega) rfl hy.1 (Xl7 y ey) (hy.2.le (by omega))) λ z hz=>Wh ?_
 obtain ⟨p',k',h1,h2,h3,rfl⟩:=hz
 exact ⟨k',h1,h2,h3⟩
def XcI (hN:NB N) (w:IA) (y:Int×UV):∀ (n:Nat) (k:Int) (v:List WM),0<=k->k<=v.length->(v.length-k).toNat<n->v.length<=100000->Ok (QbZ N w y n k v) λ r=>r.length<=100000
 | 0,k,v,_,_,hn,_=>by omega
 | n+1,k,v,h0,hk,hn,hv=>by
  rw[QbZ]
  refine WY (by omega) (Wo (λ hc=>?_) λ _=>Wh hv)
  have hc:k<v.length:=Wq hc
  rw[Xd (n:=k+1) (by omega) (by omega)]
  refine Ok.get h0 hc λ p _=>Wo (λ _=>Ok.get h0 hc λ p _=>?_) λ _=>XcI hN w y n _ v (by omega) (by omega) (by omega) hv
  exact XcI hN w y n _ _ (by omega) (by rw[Wx];omega) (by rw[Wx];omega) (by rw[Wx];omega)
def Xl8 (hN:NB N) {h:Wv} (hb:HB h) (hne:NE h) {t:UV} (ht:TA 10 t):Ok (QbJ N ⟨h,[],[]⟩ t) λ r=>HB r.1.Heap:=by
 have hN':=hN
 unfold NB at hN'
 obtain ⟨b1,b2⟩:=hb
 obtain ⟨n1,n2⟩:=hne
 have sw:∀ (c:Um) (i:Nat) (v:Int) (s b:Int),HB ⟨c,h.Words.set i v,h.Pages,s,b⟩:=λ c i v s b=>⟨by show (List.set _ _ _).length<=_;rw[Wx];exact b1,b2⟩
 have sp:∀ (c:Um) (i:Nat) (v:WM) (s b:Int),HB ⟨c,h.Words,h.Pages.set i v,s,b⟩:=λ c i v s b=>⟨b1,by show (List.set _ _ _).length<=_;rw[Wx];exact b2⟩
 have sn:∀ (c:Um) (s b:Int),HB ⟨c,h.Words,h.Pages,s,b⟩:=λ c s b=>⟨b1,b2⟩
 rw[QbJ]
 dsimp only
 refine WY (by omega) (WY (by omega) (WY (by omega) ?_))
 refine Ue (nxp ht (by omega) (by omega) (by omega)) λ y1 h1=>WY (by omega) (Ue (nxp h1.2.2 (by omega) (by omega) (by omega)) λ y2 h2=>Ue (nxp h2.2.2 (by omega) (by omega) (by omega)) λ y3 h3=>?_)
 have next:∀ {a:Int},1<=a->a<=1000000000->Ok (Qaa N y3.2 a) λ r=>0<=r.1/\r.1<a:=λ a1 a2=>(nxp h3.2.2 (by omega) a1 a2).mono λ r hr=>⟨hr.1,hr.2.1⟩
 have gw:∀ {β:Type} {P:β->Prop} {f:Int->Option β},(∀ p,Ok (f p) P)->Ok (bnd (Xb h.Words y1.1) f) P:=λ k=>Ok.get h1.1 h1.2.1 λ p _=>k p
 have gp:∀ {β:Type} {P:β->Prop} {f:WM->Option β},(∀ p,Ok (f p) P)->Ok (bnd (Xb h.Pages y2.1) f) P:=λ k=>Ok.get h2.1 h2.2.1 λ p _=>k p
 refine Oe (λ x4=>?_) λ j hj=>Uh (hj _) (hj _)
 refine Uh (Ue (next (by omega) (by omega)) λ y5 h5=>Ok.get h5.1 h5.2 λ _ _=>gw λ _=>Wh (sw _ _ _ _ _)) ?_
 refine Uh (gw λ _=>Ue (next (by omega) (by omega)) λ y9 h9=>WY (by rw[XC h9.1 (by omega)];exact h9.1) (gw λ _=>Wh (sw _ _ _ _ _))) ?_
 refine Uh (Ue (next (by omega) (by omega)) λ _ _=>gp λ _=>Wh (sp _ _ _ _ _)) ?_
 refine Uh (Ue (next (by omega) (by omega)) λ _ _=>gp λ _=>Wh (sp _ _ _ _ _)) ?_
 refine Uh (gp λ _=>Ue (next (by omega) (by omega)) λ _ _=>gp λ _=>Wh (sp _ _ _ _ _)) ?_
 refine Uh (Ue (next (by omega) (by omega)) λ _ _=>gp λ _=>Wh (sp _ _ _ _ _)) ?_
 refine Uh (Ue (next (by omega) (by omega)) λ _ _=>Wh (sn _ _ _)) ?_
 refine Uh (WY (by omega) ?_) ?_
 ·rw[Xd (n:=((h.Pages.length:Nat):Int)+2) (by omega) (by omega)]
  exact Ue (next (by omega) (by omega)) λ _ _=>Wh (sn _ _ _)
 refine Uh (Wh (sn _ _ _)) ?_
 refine Uh (WY (by omega) (Wh ⟨b1,by show (List.take _ _).length<=_;simp only[WC,WR];omega⟩)) ?_
 exact Uh (Ue (XcI hN _ y3 N 0 h.Pages (by omega) (by omega) (by omega) b2) λ r hr=>Wh ⟨b1,hr⟩) (Wh (sn _ _ _))
def XcJ {α:Type} {l:List α} {a:α} {m:Nat} (h:l.length<=1000) (hm:1001<=m):(l++[a]).length<=m:=by rw[Wp];simp;omega
def Xoo (hN:NB N) {x:Ud} (hx:EB x) (hne:NE x.Heap) (hs:SM x) (l:List Int):Ok (Qe2 N x ⟨l,0⟩) λ r=>EB r.1:=by
 have hN':=hN
 unfold NB at hN'
 obtain ⟨s1,s2,s3,s4,s5⟩:=hs
 obtain ⟨l1,l2,l3⟩:=hx.loc
 rw[Qe2]
 refine Ue (nxp (m:=0) ⟨by simp,by simp⟩ (by omega) (by omega) (by omega)) λ y1 h1=>?_
 have n1:∀ {a:Int},1<=a->a<=1000000000->Ok (Qaa N y1.2 a) λ r=>0<=r.1/\r.1<a/\TA 2 r.2:=λ a1 a2=>(nxp h1.2.2 (by omega) a1 a2).mono λ r hr=>⟨hr.1,hr.2.1,hr.2.2.le (by omega)⟩
 have n2:∀ {t:UV} {a:Int},TA 2 t->1<=a->a<=1000000000->Ok (Qaa N t a) λ r=>True:=λ ht a1 a2=>(nxp ht (by omega) a1 a2).mono λ r hr=>trivial
 refine Uh (Ue (Xl8 hN hx.heap hne (h1.2.2.le (by omega))) λ r hr=>Wh ⟨hr,hx.loc,hx.glo,hx.wea,hx.pins,hx.roots⟩) ?_
 refine Uh (WY (by omega) (Ue (n1 (by omega) (by omega)) λ _ _=>WY (by omega) (Wh ⟨hx.heap,hx.loc,hx.glo,hx.wea,hx.pins,XcJ s5 (by omega)⟩))) ?_
 refine Uh (Wo (λ hc=>?_) λ _=>Wh hx) ?_
 ·have hc:=Wq hc
  exact WY (by omega) (Ue (n1 (by omega) (by omega)) λ y4 h4=>Ok.get h4.1 h4.2.1 λ _ _=>Ue (n2 h4.2.2 (by omega) (by omega)) λ _ _=>Ok.get h4.1 h4.2.1 λ _ _=>Wh ⟨hx.heap,⟨by show (List.set _ _ _).length<=_;rw[Wx];exact l1,l2,l3⟩,hx.glo,hx.wea,hx.pins,hx.roots⟩)
 refine Uh (WY (by omega) (Ue (n1 (by omega) (by omega)) λ y h=>Ue (n2 h.2.2 (by omega) (by omega)) λ _ _=>WY (by omega) (Wh ⟨hx.heap,hx.loc,XcJ s2 (by omega),hx.wea,hx.pins,hx.roots⟩))) ?_
 refine Uh (WY (by omega) (Ue (n1 (by omega) (by omega)) λ y h=>Ue (n2 h.2.2 (by omega) (by omega)) λ _ _=>WY (by omega) (Wh ⟨hx.heap,hx.loc,hx.glo,XcJ s3 (by omega),hx.pins,hx.roots⟩))) ?_
 refine Uh (WY (by omega) (Ue (n1 (by omega) (by omega)) λ y h=>Ue (n2 h.2.2 (by omega) (by omega)) λ _ _=>WY (by omega) (Wh ⟨hx.heap,hx.loc,hx.glo,hx.wea,XcJ s4 (by omega),hx.roots⟩))) ?_
 refine Uh (WY (by omega) (Ue (n1 (by omega) (by omega)) λ y h=>Ue (n2 h.2.2 (by omega) (by omega)) λ _ _=>WY (by omega) (Wh ⟨hx.heap,⟨l1,XcJ s1 (by omega),l3⟩,hx.glo,hx.wea,hx.pins,hx.roots⟩))) ?_
 exact Wh ⟨hx.heap,hx.loc,hx.glo,hx.wea,by simp,hx.roots⟩
def Ki {t:UV} {m:Int} (h:TA m t) (hm:m<=1000000) {a:Int}:PT (Qaa N t a) λ r=>TA (m+1) r.2:=by
 obtain ⟨h0,h1⟩:=h
 rw[Qaa]
 simp only[XN]
 have e:=Xd (n:=t.at_+1) (by omega) (by omega)
 refine Wl (Wg ⟨h0,by show t.at_<=_;omega⟩) (Wl (Wz λ _=>WJ (WJ (Wg ?_))) (WJ (WJ (Wg ?_))))
 all_goals exact ⟨by show 0<=wI (t.at_+1);omega,by show wI (t.at_+1)<=_;omega⟩
def Xl9 {t:UV} {m:Int} (h:TA m t) (hm:m+10<=1000000) {w:IA}:PT (QbJ N w t) λ r=>TA (m+5) r.2:=by
 rw[QbJ]
 simp only[XN]
 refine WJ (WJ (WJ (Wu (Ki h (by omega)) λ y1 h1=>WJ (Wu (Ki h1 (by omega)) λ y2 h2=>Wu (Ki h2 (by omega)) λ y3 h3=>?_))))
 repeat' first
  | exact Wg (h3.le (by omega))
  | exact Wg (TA.le ‹TA (m+1+1+1+1) _› (by omega))
  | refine Wl ?_ ?_
  | refine WJ ?_
  | refine Wu (Ki h3 (by omega)) λ y hy=>?_
  | refine Wz λ _=>?_
def Xop (l:List Int) {x:Ud}:PT (Qe2 N x ⟨l,0⟩) λ r=>TA 20 r.2:=by
 rw[Qe2]
 refine Wu (Ki (m:=0) ⟨by simp,by simp⟩ (by omega)) λ y1 h1=>?_
 refine Wl (Wu (Xl9 h1 (by omega)) λ y hy=>Wg (hy.le (by omega))) ?_
 refine Wl (WJ (Wu (Ki h1 (by omega)) λ y hy=>WJ (Wg (hy.le (by omega))))) ?_
 refine Wl (Wl (WJ (Wu (Ki h1 (by omega)) λ y hy=>Wz λ _=>Wu (Ki hy (by omega)) λ z hz=>Wz λ _=>Wg (hz.le (by omega)))) (Wg (h1.le (by omega)))) ?_
 refine Wl (WJ (Wu (Ki h1 (by omega)) λ y hy=>Wu (Ki hy (by omega)) λ z hz=>WJ (Wg (hz.le (by omega))))) ?_
 refine Wl (WJ (Wu (Ki h1 (by omega)) λ y hy=>Wu (Ki hy (by omega)) λ z hz=>WJ (Wg (hz.le (by omega))))) ?_
 refine Wl (WJ (Wu (Ki h1 (by omega)) λ y hy=>Wu (Ki hy (by omega)) λ z hz=>WJ (Wg (hz.le (by omega))))) ?_
 refine Wl (WJ (Wu (Ki h1 (by omega)) λ y hy=>Wu (Ki hy (by omega)) λ z hz=>WJ (Wg (hz.le (by omega))))) ?_
 exact Wg (h1.le (by omega))
end
def ZA (a b:List Int):List OA:=List.zipWith (λ r s=>⟨true,true,r,s⟩) a b
def ZB (a b:List U1):List OA:=List.zipWith (λ s t=>⟨s.Stamp==t.Stamp&&s.Live==t.Live,s.Live,s.Ref,t.Ref⟩) a b
def Zu (a b:List Uj):List OA:=List.zipWith (λ s t=>⟨s.Gen==t.Gen&&s.Live==t.Live,s.Live,s.Ref,t.Ref⟩) a b
def ZE (a:List U4) (b:List U7):List OA:=List.zipWith (λ p m=>⟨p.Count==m.Count&&wU (p.Ref+1)==m.Base,true,p.Ref,m.Id⟩) a b
def Zl (d:WI):Nat->List Int->List Int->List OA
 | k,a::l,b::m=>⟨ZK d k||a==b,ZK d k,a,b⟩::Zl d (k+1) l m
 | _,_,_=>[]
def Jr (d:WI):∀ (k:Nat) (l m:List Int),l.length=m.length->(Zl d k l m).length=l.length
 | k,[],[],_=>rfl
 | k,a::l,b::m,h=>congrArg (·+1) (Jr d (k+1) l m (by simpa using h))
def Xaz (d:WI):∀ (k:Nat) (l m:List Int) (j:Nat) (h1:j<l.length) (h2:j<m.length) (h3:j<(Zl d k l m).length),(Zl d k l m)[j]=⟨ZK d ((k+j:Nat):Int)||l[j]==m[j],ZK d ((k+j:Nat):Int),l[j],m[j]⟩
 | k,a::l,b::m,0,_,_,_=>by simp[Zl]
 | k,a::l,b::m,j+1,h1,h2,h3=>by
  have:=Xaz d (k+1) l m j (by simpa using h1) (by simpa using h2) (by simpa [Zl] using h3)
  have e:k+1+j=k+(j+1):=by omega
  rw[e] at this
  simpa [Zl] using this
def Xa3 (out:List WE) (a b:Int):it1 out ⟨true,true,a,b⟩=stp out a b:=rfl
def XaA (out:List WE) (l:Bool) (a b:Int):it1 out ⟨false,l,a,b⟩=none:=rfl
def Xey (out:List WE) (a b:Int):it1 out ⟨true,false,a,b⟩=some out:=rfl
section
variable {N:Nat} {O:Int->Prop} {n:Nat} {x:Ud} {w:Wy}
abbrev SQ {α:Type} (O:Int->Prop) (n:Nat) (E:α->Prop) (out:List WE) (l:List OA) (r:Option (Ex α (List (Int×Int)×List (Int×Int)×List WE))):Prop :=
 (itS out l=none/\∃ e,r=some (.ret e)/\E e)\/∃ o,itS out l=some o/\SR O n o/\r=some (.nxt (mI o,mA o,o))
def gl1 (hN:1000000<N) (hl:x.Roots.length<=1000000) (he:x.Roots.length=w.Roots.length) (hi:∀ y∈ZA x.Roots w.Roots,IO O n y) {out:List WE} (h:SR O n out) :
 SQ O n (λ e=>e=([],false)) out (ZA x.Roots w.Roots) (QaT N x w N 0 (mI out) (mA out) out):=by
 have hlen:(ZA x.Roots w.Roots).length=x.Roots.length:=by unfold ZA;rw[IQ];omega
 have:=JK (F:=QaT N x w) (l:=ZA x.Roots w.Roots) (E:=λ e=>e=([],false)) hi (λ m k hk out h=>?_) (λ m out h=>?_) N 0 out h (Un _) (by omega)
 ·rw[WP] at this;exact this
 ·have h1:k<x.Roots.length:=by omega
  have h2:k<w.Roots.length:=by omega
  have e:(ZA x.Roots w.Roots)[k]=⟨true,true,x.Roots[k],w.Roots[k]⟩:=by simp[ZA]
  rw[e,Xa3,QaT,Wj (by omega),We,Xc,Wb h1,Xa,Xc,Wb h2,Xa,Xjp h,Xe (by omega)]
  cases stp out x.Roots[k] w.Roots[k] with
  | none=>exact .inl ⟨rfl,_,rfl,rfl⟩
  | some o=>exact .inr ⟨o,rfl,rfl⟩
 ·rw[QaT,hlen,Wk (by omega),Wa]
def gl2 (hN:1000000<N) (hl:x.Locals.Slots.length<=1000000) (he:x.Locals.Slots.length=w.Locals.Slots.length) (hi:∀ y∈ZB x.Locals.Slots w.Locals.Slots,IO O n y) {out:List WE} (h:SR O n out) :
 SQ O n (λ _=>True) out (ZB x.Locals.Slots w.Locals.Slots) (Qa9 N x w N 0 (mI out) (mA out) out):=by
 have hlen:(ZB x.Locals.Slots w.Locals.Slots).length=x.Locals.Slots.length:=by unfold ZB;rw[IQ];omega
 have:=JK (F:=Qa9 N x w) (l:=ZB x.Locals.Slots w.Locals.Slots) (E:=λ _=>True) hi (λ m k hk out h=>?_) (λ m out h=>?_) N 0 out h (Un _) (by omega)
 ·rw[WP] at this;exact this
 ·have h1:k<x.Locals.Slots.length:=by omega
  have h2:k<w.Locals.Slots.length:=by omega
  have e:(ZB x.Locals.Slots w.Locals.Slots)[k]=⟨x.Locals.Slots[k].Stamp==w.Locals.Slots[k].Stamp&&x.Locals.Slots[k].Live==w.Locals.Slots[k].Live,x.Locals.Slots[k].Live,x.Locals.Slots[k].Ref,w.Locals.Slots[k].Ref⟩:=by simp[ZB]
  rw[e,Qa9,Wj (by omega),We,Xc,Wb h1,Xa,Xc,Wb h2,Xa,Xjp h,Xe (by omega)]
  generalize x.Locals.Slots[k]=s
  generalize w.Locals.Slots[k]=t
  unfold bne
  cases h3:(s.Stamp==t.Stamp) with
  | false=>rw[W5,XaA,WS,We];exact .inl ⟨rfl,_,rfl,trivial⟩
  | true =>
   rw[WA,Ws,Wa]
   cases h4:(s.Live==t.Live) with
   | false=>rw[XaA,WS,We];exact .inl ⟨rfl,_,rfl,trivial⟩
   | true =>
    rw[Ws,Wa]
    cases h5:s.Live with
    | false=>rw[Xey,Wa];exact .inr ⟨out,rfl,rfl⟩
    | true =>
     rw[Xa3,We]
     cases stp out s.Ref t.Ref with
     | none=>exact .inl ⟨rfl,_,rfl,trivial⟩
     | some o=>exact .inr ⟨o,rfl,rfl⟩
 ·rw[Qa9,hlen,Wk (by omega),Wa]
def gl3 (hN:1000000<N) (hl:x.Globals.Entries.length<=1000000) (he:x.Globals.Entries.length=w.Globals.Entries.length) (hi:∀ y∈Zu x.Globals.Entries w.Globals.Entries,IO O n y) {out:List WE} (h:SR O n out) :
 SQ O n (λ _=>True) out (Zu x.Globals.Entries w.Globals.Entries) (Qba N x w N 0 (mI out) (mA out) out):=by
 have hlen:(Zu x.Globals.Entries w.Globals.Entries).length=x.Globals.Entries.length:=by unfold Zu;rw[IQ];omega
 have:=JK (F:=Qba N x w) (l:=Zu x.Globals.Entries w.Globals.Entries) (E:=λ _=>True) hi (λ m k hk out h=>?_) (λ m out h=>?_) N 0 out h (Un _) (by omega)
 ·rw[WP] at this;exact this
 ·have h1:k<x.Globals.Entries.length:=by omega
  have h2:k<w.Globals.Entries.length:=by omega
  have e:(Zu x.Globals.Entries w.Globals.Entries)[k]=⟨x.Globals.Entries[k].Gen==w.Globals.Entries[k].Gen&&x.Globals.Entries[k].Live==w.Globals.Entries[k].Live,x.Globals.Entries[k].Live,x.Globals.Entries[k].Ref,w.Globals.Entries[k].Ref⟩:=by simp[Zu]
  rw[e,Qba,Wj (by omega),We,Xc,Wb h1,Xa,Xc,Wb h2,Xa,Xjp h,Xe (by omega)]
  generalize x.Globals.Entries[k]=s
  generalize w.Globals.Entries[k]=t
  unfold bne
  cases h3:(s.Gen==t.Gen) with
  | false=>rw[W5,XaA,WS,We];exact .inl ⟨rfl,_,rfl,trivial⟩
  | true =>
   rw[WA,Ws,Wa]
   cases h4:(s.Live==t.Live) with
   | false=>rw[XaA,WS,We];exact .inl ⟨rfl,_,rfl,trivial⟩
   | true =>
    rw[Ws,Wa]
    cases h5:s.Live with
    | false=>rw[Xey,Wa];exact .inr ⟨out,rfl,rfl⟩
    | true =>
     rw[Xa3,We]
     cases stp out s.Ref t.Ref with
     | none=>exact .inl ⟨rfl,_,rfl,trivial⟩
     | some o=>exact .inr ⟨o,rfl,rfl⟩
 ·rw[Qba,hlen,Wk (by omega),Wa]
def gl4 (hN:1000000<N) (hl:x.Weaks.Entries.length<=1000000) (he:x.Weaks.Entries.length=w.Weaks.Entries.length) (hi:∀ y∈Zu x.Weaks.Entries w.Weaks.Entries,IO O n y) {out:List WE} (h:SR O n out) :
 SQ O n (λ _=>True) out (Zu x.Weaks.Entries w.Weaks.Entries) (Qbb N x w N 0 (mI out) (mA out) out):=by
 have hlen:(Zu x.Weaks.Entries w.Weaks.Entries).length=x.Weaks.Entries.length:=by unfold Zu;rw[IQ];omega
 have:=JK (F:=Qbb N x w) (l:=Zu x.Weaks.Entries w.Weaks.Entries) (E:=λ _=>True) hi (λ m k hk out h=>?_) (λ m out h=>?_) N 0 out h (Un _) (by omega)
 ·rw[WP] at this;exact this
 ·have h1:k<x.Weaks.Entries.length:=by omega
  have h2:k<w.Weaks.Entries.length:=by omega
  have e:(Zu x.Weaks.Entries w.Weaks.Entries)[k]=⟨x.Weaks.Entries[k].Gen==w.Weaks.Entries[k].Gen&&x.Weaks.Entries[k].Live==w.Weaks.Entries[k].Live,x.Weaks.Entries[k].Live,x.Weaks.Entries[k].Ref,w.Weaks.Entries[k].Ref⟩:=by simp[Zu]
  rw[e,Qbb,Wj (by omega),We,Xc,Wb h1,Xa,Xc,Wb h2,Xa,Xjp h,Xe (by omega)]
  generalize x.Weaks.Entries[k]=s
  generalize w.Weaks.Entries[k]=t
  unfold bne
  cases h3:(s.Gen==t.Gen) with
  | false=>rw[W5,XaA,WS,We];exact .inl ⟨rfl,_,rfl,trivial⟩
  | true =>
   rw[WA,Ws,Wa]
   cases h4:(s.Live==t.Live) with
   | false=>rw[XaA,WS,We];exact .inl ⟨rfl,_,rfl,trivial⟩
   | true =>
    rw[Ws,Wa]
    cases h5:s.Live with
    | false=>rw[Xey,Wa];exact .inr ⟨out,rfl,rfl⟩
    | true =>
     rw[Xa3,We]
     cases stp out s.Ref t.Ref with
     | none=>exact .inl ⟨rfl,_,rfl,trivial⟩
     | some o=>exact .inr ⟨o,rfl,rfl⟩
 ·rw[Qbb,hlen,Wk (by omega),Wa]
def Xhc (hN:NB N) (ht:ET x) {L:List Int} (v:VF N x L) {a:Int} (ha:a∈L):Qe5 N x.Heap a=some (hdA x.Heap.Words a,0)/\tU a/\a<=8192/\4096<=a:=by
 have hN':1000000<N:=by unfold NB at hN;omega
 have hb:=ht.eb.heap
 have hp:=Y0 hN hb v.pr
 have hr:=(v.at_ a ha).rng
 have hf:=Vq hp (v.at_ a ha)
 have hv:=Xj.1 hp.conf
 have:=X5 hp.conf (i:=0) (by omega) (by omega)
 have:=hp.words
 have:=(ZL x.Heap.Words a).2
 have ta:tU a:=⟨by omega,by omega⟩
 refine ⟨?_,ta,by omega,by omega⟩
 rw[Qe5,YR hb.2 hN',v.pr,Xa,Ws,Wa,show (a==0)=false by simp;omega,Wa,XcC hN ht.ht ta,v.ev a ha,Xa]
 have:=v.kd a ha
 rw[show ((0:Int) != 0)=false from rfl,Wa,show ((hdA x.Heap.Words a).Kind==0)=false by simpa using this,Wa]
def gl5 (hN:NB N) (ht:ET x) {L:List Int} (v:VF N x L) (he:x.Pins.length=w.Marks.length) (hi:∀ y∈ZE x.Pins w.Marks,IO O n y) {out:List WE} (h:SR O n out) :
 SQ O n (λ _=>True) out (ZE x.Pins w.Marks) (Qbt N x w N 0 (mI out) (mA out) out):=by
 have hN':1000000<N:=by unfold NB at hN;omega
 have hl:=v.p64
 have hlen:(ZE x.Pins w.Marks).length=x.Pins.length:=by unfold ZE;rw[IQ];omega
 have:=JK (F:=Qbt N x w) (l:=ZE x.Pins w.Marks) (E:=λ _=>True) hi (λ m k hk out h=>?_) (λ m out h=>?_) N 0 out h (Un _) (by omega)
 ·rw[WP] at this;exact this
 ·have h1:k<x.Pins.length:=by omega
  have h2:k<w.Marks.length:=by omega
  have e:(ZE x.Pins w.Marks)[k]=⟨x.Pins[k].Count==w.Marks[k].Count&&wU (x.Pins[k].Ref+1)==w.Marks[k].Base,true,x.Pins[k].Ref,w.Marks[k].Id⟩:=by simp[ZE]
  obtain ⟨eg,_⟩:=Xhc hN ht v (v.pins _ (WW h1))
  rw[e,Qbt,Wj (by omega),We,Xc,Wb h1,Xa,QgV,eg,Xa,show ((0:Int) != 0)=false from rfl,Wa,Xa,Xc,Wb h2,Xa,show ((0:Int) != 0)=false from rfl,Wa,Xjp h,Xe (by omega)]
  generalize x.Pins[k]=s
  generalize w.Marks[k]=t
  unfold bne
  cases h3:(s.Count==t.Count) with
  | false=>rw[W5,XaA,WS,We];exact .inl ⟨rfl,_,rfl,trivial⟩
  | true =>
   rw[WA,Ws,Wa]
   cases h4:(wU (s.Ref+1)==t.Base) with
   | false=>rw[XaA,WS,We];exact .inl ⟨rfl,_,rfl,trivial⟩
   | true =>
    rw[Ws,Wa,Xa3]
    cases stp out s.Ref t.Id with
    | none=>exact .inl ⟨rfl,_,rfl,trivial⟩
    | some o=>exact .inr ⟨o,rfl,rfl⟩
 ·rw[Qbt,hlen,Wk (by omega),Wa]
def gl6 (hN:1000000<N) (y1:WI×Int) (t:UL) (v6:Int) (y:List Int×Int) (hl:y.1.length<=1000000) (he:y.1.length=t.Fields.length) (hi:∀ z∈Zl y1.1 0 y.1 t.Fields,IO O n z) {out:List WE} (h:SR O n out) :
 SQ O n (λ _=>True) out (Zl y1.1 0 y.1 t.Fields) (Qbu N x w y1 t v6 y N 0 (mI out) (mA out) out):=by
 have hlen:(Zl y1.1 0 y.1 t.Fields).length=y.1.length:=Jr _ _ _ _ he
 have:=JK (F:=Qbu N x w y1 t v6 y) (l:=Zl y1.1 0 y.1 t.Fields) (E:=λ _=>True) hi (λ m k hk out h=>?_) (λ m out h=>?_) N 0 out h (Un _) (by omega)
 ·rw[WP] at this;exact this
 ·have h1:k<y.1.length:=by omega
  have h2:k<t.Fields.length:=by omega
  have e:=Xaz y1.1 0 y.1 t.Fields k h1 h2 hk
  rw[Ut] at e
  rw[e,Qbu,Wj (by omega),We,Xc,Wb h1,Xa,XfO (by omega),Xa,Xc,Wb h2,Xa,Xa,Xjp h,Xe (by omega)]
  generalize y.1[k]=s
  generalize t.Fields[k]=u
  unfold bne
  cases h3:ZK y1.1 (k:Int) with
  | true =>
   rw[IY,Xa3,We]
   cases stp out s u with
   | none=>exact .inl ⟨rfl,_,rfl,trivial⟩
   | some o=>exact .inr ⟨o,rfl,rfl⟩
  | false =>
   rw[UZ,Wa]
   cases h4:(s==u) with
   | false=>rw[XaA,WS,We];exact .inl ⟨rfl,_,rfl,trivial⟩
   | true=>rw[Xey,Ws,Wa];exact .inr ⟨out,rfl,rfl⟩
 ·rw[Qbu,hlen,Wk (by omega),Wa]
end
section
variable {N:Nat} {O:Int->Prop} {n:Nat}
def Xa4 {α:Type} {F:Nat->Bool->Int->Option (Ex α Bool)} {r:α} {a b:Int} {out:List WE}
 (hstep:∀ (m k:Nat) (known:Bool) (hk:k<out.length),F (m+1) known (k:Int)=bif Y1 a b out[k] then some (.ret r) else F m (known||out[k].Addr==a) ((k+1:Nat):Int))
 (hstop:∀ (m:Nat) (known:Bool),F (m+1) known (out.length:Int)=some (.nxt known)) :
 ∀ (m k:Nat) (known:Bool),k<=out.length->out.length-k<m->F m known (k:Int)=some (bif (out.drop k).any (Y1 a b) then .ret r else .nxt (known||(out.drop k).any λ p=>p.Addr==a))
 | 0,k,known,_,hm=>by omega
 | m+1,k,known,hk,hm=>by
  by_cases h:k<out.length
  ·rw[hstep m k known h,Wt h,List.any_cons,List.any_cons]
   cases hb:Y1 a b out[k] with
   | true=>rfl
   | false=>rw[Wa,UZ,Xa4 hstep hstop m (k+1) _ h (by omega),Bool.or_assoc]
  ·obtain rfl:k=out.length:=by omega
   rw[hstop,List.drop_length];simp
def Xa5 {α:Type} {F:Nat->Int->List WE->Option (Ex α (List WE))} {r:α} {l:List (Int×Int)} (hl:∀ x∈l,(x.1=0\/O x.1)/\0<=x.2/\x.2<=n)
 (hstep:∀ (m i:Nat) (hi:i<l.length) (out:List WE),SR O n out->F (m+1) (i:Int) out=match stp out l[i].1 l[i].2 with | none=>some (.ret r) | some o=>F m ((i+1:Nat):Int) o)
 (hstop:∀ (m:Nat) (out:List WE),F (m+1) (l.length:Int) out=some (.nxt out)) :
 ∀ (m i:Nat) (out:List WE),SR O n out->i<=l.length->l.length-i<m->F m (i:Int) out=match sts out (l.drop i) with | none=>some (.ret r) | some o=>some (.nxt o)
 | 0,i,out,_,_,hm=>by omega
 | m+1,i,out,h,hi,hm=>by
  by_cases hil:i<l.length
  ·rw[hstep m i hil out h,Wt hil,sts]
   cases e:stp out l[i].1 l[i].2 with
   | none=>rfl
   | some o =>
    obtain ⟨a,b,_⟩:=Xg5 h.pi h.pr (hl _ (WW hil)).1 (hl _ (WW hil)).2 e
    rw[Ic]
    exact Xa5 hl hstep hstop m (i+1) o ⟨a,b,h.o,h.n1⟩ hil (by omega)
  ·obtain rfl:i=l.length:=by omega
   rw[hstop,List.drop_length];rfl
def Xga (a b:Int) (p:WE):(!((p.Addr==a)==(p.Id==b)))=Y1 a b p:=rfl
def Xib {out:List WE} {a b:Int}:stp out a b=bif !((a==0)==(b==0)) then none else bif out.any (Y1 a b) then none else bif !((a==0)||out.any λ p=>p.Addr==a) then some (out++[⟨a,b⟩]) else some out:=by
 unfold stp bne
 cases (!((a==0)==(b==0))) with
 | true=>rfl
 | false =>
  rw[Wm (by simp),Wa]
  cases out.any (Y1 a b) with
  | true=>rfl
  | false =>
   rw[Wm (by simp),Wa]
   cases ((a==0)||out.any λ p=>p.Addr==a)<;>rfl
def Xjw (hN:1000000<N) {A B:List Int} (hA:A.length<=100000) (hAB:A.length=B.length) (hl:∀ x∈A.zip B,(x.1=0\/O x.1)/\0<=x.2/\x.2<=n) (h:SR O n []) :
 QfV N A B=some (match sts [] (A.zip B) with | none=>([],false) | some o=>(o,true)):=by
 have hzl:(A.zip B).length=A.length:=by rw[List.length_zip];omega
 have key:=Xa5 (F:=Qb9 N A B) (l:=A.zip B) (r:=([],false)) hl (λ m i hi out hs=>?_) (λ m out=>?_) N 0 [] h (Un _) (by omega)
 ·rw[WP] at key
  rw[QfV,show (0:Int)=((0:Nat):Int) from rfl,key]
  cases sts [] (A.zip B) with
  | none=>simp only[Xa,Xl]
  | some o=>simp only[Xa,Xk]
 ·have h1:i<A.length:=by omega
  have h2:i<B.length:=by omega
  have hol:=hs.len
  have hn1:=hs.n1
  have gA:Xb A (i:Int)=some A[i]:=by rw[Xc,Wb h1]
  have gB:Xb B (i:Int)=some B[i]:=by rw[Xc,Wb h2]
  have inner:=Xa4 (F:=QbM N A B (i:Int) out) (r:=(([],false):List WE×Bool)) (a:=A[i]) (b:=B[i]) (out:=out) (λ m k known hk=>by
   rw[QbM,Xf (by omega),Wj (by omega),We,Xc,Wb hk,gA,gB]
   simp only[Xa,Xga]
   rw[Xe (by omega)]
   cases Y1 A[i] B[i] out[k] with
   | true=>rfl
   | false=>cases known<;>rfl) (λ m known=>by rw[QbM,Xf (by omega),Wk (by omega),Wa]) N 0 (A[i]==0) (Un _) (by omega)
  rw[WP] at inner
  have inner:QbM N A B (i:Int) out N (A[i]==0) 0=_:=inner
  rw[List.getElem_zip,Xib,Qb9,Wj (by omega),We,gA,gB]
  simp only[Xa]
  rw[inner,Xa,Xe (by omega)]
  cases (!((A[i]==0)==(B[i]==0))) with
  | true=>rfl
  | false =>
   simp only[Wa]
   cases out.any (Y1 A[i] B[i]) with
   | true=>simp only[We,Xl]
   | false =>
    simp only[Wa,Xk]
    cases ((A[i]==0)||out.any λ p=>p.Addr==A[i]) with
    | true=>rfl
    | false=>simp only[WS,We];rw[Xf (by omega)]
 ·rw[Qb9,Wk (by rw[hzl];omega),Wa]
def Xic (hN:1000000<N) {x:Ud} {w:Wy} (v8:Int) (y:List Int×List Int×Bool) (hA:y.1.length<=100000) (hAB:y.1.length=y.2.1.length) (hl:∀ z∈y.1.zip y.2.1,(z.1=0\/O z.1)/\0<=z.2/\z.2<=n) {out:List WE} (h:SR O n out) :
 Qcp N x w v8 y N 0 out=some (match sts out (y.1.zip y.2.1) with | none=>.ret () | some o=>.nxt o):=by
 have hzl:(y.1.zip y.2.1).length=y.1.length:=by rw[List.length_zip];omega
 have key:=Xa5 (F:=Qcp N x w v8 y) (l:=y.1.zip y.2.1) (r:=()) hl (λ m i hi out hs=>?_) (λ m out=>?_) N 0 out h (Un _) (by omega)
 ·rw[WP] at key
  rw[show (0:Int)=((0:Nat):Int) from rfl,key]
  cases sts out (y.1.zip y.2.1)<;>rfl
 ·have h1:i<y.1.length:=by omega
  have h2:i<y.2.1.length:=by omega
  have hol:=hs.len
  have hn1:=hs.n1
  have gA:Xb y.1 (i:Int)=some y.1[i]:=by rw[Xc,Wb h1]
  have gB:Xb y.2.1 (i:Int)=some y.2.1[i]:=by rw[Xc,Wb h2]
  have inner:=Xa4 (F:=Qco N x w (i:Int) out v8 y) (r:=()) (a:=y.1[i]) (b:=y.2.1[i]) (out:=out) (λ m k known hk=>by
   rw[Qco,Xf (by omega),Wj (by omega),We,Xc,Wb hk,gA,gB]
   simp only[Xa,Xga]
   rw[Xe (by omega)]
   cases Y1 y.1[i] y.2.1[i] out[k] with
   | true=>rfl
   | false=>cases known<;>rfl) (λ m known=>by rw[Qco,Xf (by omega),Wk (by omega),Wa]) N 0 (y.1[i]==0) (Un _) (by omega)
  rw[WP] at inner
  have inner:Qco N x w (i:Int) out v8 y N (y.1[i]==0) 0=_:=inner
  rw[List.getElem_zip,Xib,Qcp,Wj (by omega),We,gA,gB]
  simp only[Xa]
  rw[inner,Xa,Xe (by omega)]
  cases (!((y.1[i]==0)==(y.2.1[i]==0))) with
  | true=>rfl
  | false =>
   simp only[Wa]
   cases out.any (Y1 y.1[i] y.2.1[i]) with
   | true=>simp only[We,Xl]
   | false =>
    simp only[Wa,Xk]
    cases ((y.1[i]==0)||out.any λ p=>p.Addr==y.1[i]) with
    | true=>rfl
    | false=>simp only[WS,We];rw[Xf (by omega)]
 ·rw[Qcp,Wk (by rw[hzl];omega),Wa]
end
section
variable {N:Nat}
def ZF {α β γ:Type} (f:α->β->γ) (p:γ->Bool):∀ (a:List α) (b:List β),(List.zipWith f a b).all p=(a.zip b).all λ q=>p (f q.1 q.2)
 | [],b=>by simp
 | x::a,[]=>by simp
 | x::a,y::b=>by rw[List.zipWith_cons_cons,U2,IH,U2,ZF f p a b]
def Xgb {α β:Type} {F:Nat->Int->Option (Ex Bool Unit)} (a:List α) (b:List β) (he:a.length=b.length) (f:α->β->Bool)
 (hstep:∀ (n k:Nat) (h1:k<a.length) (h2:k<b.length),F (n+1) (k:Int)=bif f a[k] b[k] then F n ((k+1:Nat):Int) else some (.ret false))
 (hstop:∀ n:Nat,F (n+1) (a.length:Int)=some (.nxt ())) {n:Nat} (hn:a.length<n):F n 0=some (bif (a.zip b).all (λ p=>f p.1 p.2) then .nxt () else .ret false):=by
 have hz:(a.zip b).length=a.length:=by rw[List.length_zip];omega
 have:=ZM (l:=a.zip b) (F:=F) (q:=λ _ p=>f p.1 p.2) (λ n k p e=>by
  have hk:k<(a.zip b).length:=Xq e
  rw[Wb hk,List.getElem_zip] at e
  cases e
  exact hstep n k (by omega) (by omega)) (λ n=>by rw[hz];exact hstop n) (n:=n) (by omega)
 rw[YN] at this
 exact this
def Xgc {b:Bool} (o:Option (Ex Bool Unit)) (h:o=some (bif b then .nxt () else .ret false)) {k:Unit->Option Bool}:(bnd o λ e=>exK e (λ r=>some r) k)=bif b then k () else some false:=by
 rw[h,Xa];cases b
 ·rw[Wa,Xl,Wa]
 ·rw[We,Xk,We]
def VX (a b:Nat):(((a:Nat):Int) != ((b:Nat):Int)) = !(a==b):=by
 unfold bne
 congr 1
 by_cases h:a=b
 ·subst h;simp
 ·rw[bF (show (a:Int)≠b by omega)];simp[h]
def scE (a b:List U6):Bool:=a.length==b.length&&(a.zip b).all λ p=>p.1.From==p.2.From&&(p.1.Cap==p.2.Cap&&p.1.Base==p.2.Base)
def isE (a b:List Int):Bool:=a.length==b.length&&(a.zip b).all λ p=>p.1==p.2
def ZQ {α:Type} (b:Bool) (x y:α):(bif !b then x else y)=bif b then y else x:=by cases b<;>rfl
def Xoq (hN:1000000<N) {a b:List U6} (hl:a.length<=1000000):QaD N a b=some (scE a b):=by
 rw[QaD,VX,ZQ,scE]
 by_cases he:a.length=b.length
 ·have:=Xgb (F:=Qas N a b) a b he (λ s t=>s.From==t.From&&(s.Cap==t.Cap&&s.Base==t.Base)) (λ n k h1 h2=>by
   rw[Qas,Wj (by omega),We,Xc,Wb h1,Xa,Xc,Wb h2,Xa,ZQ,Xe (by omega)]) (λ n=>by rw[Qas,Wk (by omega),Wa]) (n:=N) (by omega)
  rw[Xgc _ this,show (a.length==b.length)=true by simpa using he,We,WA]
  cases (a.zip b).all _<;>rfl
 ·rw[show (a.length==b.length)=false by simpa using he];rfl
def Xor (hN:1000000<N) {a b:List Int} (hl:a.length<=1000000):Qcn N a b=some (isE a b):=by
 rw[Qcn,VX,ZQ,isE]
 by_cases he:a.length=b.length
 ·have:=Xgb (F:=Qbd N a b) a b he (λ s t=>s==t) (λ n k h1 h2=>by
   rw[Qbd,Wj (by omega),We,Xc,Wb h1,Xa,Xc,Wb h2,Xa,Xe (by omega)]
   unfold bne;rw[ZQ]) (λ n=>by rw[Qbd,Wk (by omega),Wa]) (n:=N) (by omega)
  rw[Xgc _ this,show (a.length==b.length)=true by simpa using he,We,WA]
  cases (a.zip b).all _<;>rfl
 ·rw[show (a.length==b.length)=false by simpa using he];rfl
def slE (a b:List U1):Bool:=(a.zip b).all λ p=>p.1.Stamp==p.2.Stamp&&(p.1.Ref==p.2.Ref&&p.1.Live==p.2.Live)
def Xma (hN:1000000<N) {a b:WD} (hl:LBp a):Qhc N a b=some (a.Slots.length==b.Slots.length&&(a.Scopes.length==b.Scopes.length&&(a.Issued.length==b.Issued.length&&(slE a.Slots b.Slots&&(scE a.Scopes b.Scopes&&isE a.Issued b.Issued))))):=by
 obtain ⟨l1,l2,l3⟩:=hl
 rw[Qhc,VX,VX,VX,ZQ,ZQ,ZQ]
 by_cases h1:a.Slots.length=b.Slots.length
 case neg=>rw[show (a.Slots.length==b.Slots.length)=false by simpa using h1];rfl
 by_cases h2:a.Scopes.length=b.Scopes.length
 case neg=>rw[show (a.Scopes.length==b.Scopes.length)=false by simpa using h2,W5,IF];cases (a.Slots.length==b.Slots.length)<;>rfl
 by_cases h3:a.Issued.length=b.Issued.length
 case neg=>rw[show (a.Issued.length==b.Issued.length)=false by simpa using h3,W5,IF,IF];cases (a.Slots.length==b.Slots.length)<;>cases (a.Scopes.length==b.Scopes.length)<;>rfl
 have c1:=Xgb (F:=Qd9 N a b) a.Slots b.Slots h1 (λ s t=>s.Stamp==t.Stamp&&(s.Ref==t.Ref&&s.Live==t.Live)) (λ n k h1 h2=>by
  rw[Qd9,Wj (by omega),We,Xc,Wb h1,Xa,Xc,Wb h2,Xa,ZQ,Xe (by omega)]) (λ n=>by rw[Qd9,Wk (by omega),Wa]) (n:=N) (by omega)
 have c2:=Xgb (F:=Qea N a b) a.Scopes b.Scopes h2 (λ s t=>s.From==t.From&&(s.Cap==t.Cap&&s.Base==t.Base)) (λ n k h1 h2=>by
  rw[Qea,Wj (by omega),We,Xc,Wb h1,Xa,Xc,Wb h2,Xa,ZQ,Xe (by omega)]) (λ n=>by rw[Qea,Wk (by omega),Wa]) (n:=N) (by omega)
 have c3:=Xgb (F:=Qeb N a b) a.Issued b.Issued h3 (λ s t=>s==t) (λ n k h1 h2=>by
  rw[Qeb,Wj (by omega),We,Xc,Wb h1,Xa,Xc,Wb h2,Xa,Xe (by omega)]
  unfold bne;rw[ZQ]) (λ n=>by rw[Qeb,Wk (by omega),Wa]) (n:=N) (by omega)
 have e1:(a.Slots.length==b.Slots.length)=true:=by simpa using h1
 have e2:(a.Scopes.length==b.Scopes.length)=true:=by simpa using h2
 have e3:(a.Issued.length==b.Issued.length)=true:=by simpa using h3
 rw[Xgc _ c1,Xgc _ c2,Xgc _ c3,scE,isE,slE,e1,e2,e3]
 simp only[We,WA]
 cases (a.Slots.zip b.Slots).all _<;>cases (a.Scopes.zip b.Scopes).all _<;>cases (a.Issued.zip b.Issued).all _<;>rfl
def enE (a b:List Uj):Bool:=a.length==b.length&&(a.zip b).all λ p=>p.1.Gen==p.2.Gen&&(p.1.Ref==p.2.Ref&&p.1.Live==p.2.Live)
def Xgd (hN:1000000<N) {a b:WT} (hl:TB a):QgF N a b=some (enE a.Entries b.Entries):=by
 unfold TB at hl
 rw[QgF,VX,ZQ,enE]
 by_cases he:a.Entries.length=b.Entries.length
 ·have:=Xgb (F:=Qed N a b) a.Entries b.Entries he (λ s t=>s.Gen==t.Gen&&(s.Ref==t.Ref&&s.Live==t.Live)) (λ n k h1 h2=>by
   rw[Qed,Wj (by omega),We,Xc,Wb h1,Xa,Xc,Wb h2,Xa,ZQ,Xe (by omega)]) (λ n=>by rw[Qed,Wk (by omega),Wa]) (n:=N) (by omega)
  rw[Xgc _ this,show (a.Entries.length==b.Entries.length)=true by simpa using he,We,WA]
  cases (a.Entries.zip b.Entries).all _<;>rfl
 ·rw[show (a.Entries.length==b.Entries.length)=false by simpa using he];rfl
def Xez {α:Type} {F:Nat->Int->List α->Option (List α)} (g:α->α) (l:List α)
 (hstep:∀ (n k:Nat) (v:List α) (h:k<v.length),v.length=l.length->F (n+1) (k:Int) v=F n ((k+1:Nat):Int) (v.set k (g v[k])))
 (hstop:∀ (n:Nat) (v:List α),v.length=l.length->F (n+1) (v.length:Int) v=some v) :
 ∀ (n k:Nat) (v:List α),v.length=l.length->k<=l.length->l.length-k<n->v=(l.take k).map g++l.drop k->F n (k:Int) v=some (l.map g)
 | 0,k,v,_,_,hn,_=>by omega
 | n+1,k,v,hv,hk,hn,e=>by
  by_cases h:k<l.length
  ·have hkv:k<v.length:=by omega
   rw[hstep n k v hkv hv]
   refine Xez g l hstep hstop n (k+1) _ (by rw[Wx,hv]) h (by omega) ?_
   have e1:v[k]=l[k]:=by
    subst e
    rw[List.getElem_append_right (by simp;omega)]
    simp[Oh hk]
   rw[e1]
   subst e
   rw[List.set_append_right _ _ (by simp;omega),List.take_succ_eq_append_getElem h,IJ,Ul]
   congr 1
   have hm:k-((l.take k).map g).length=0:=by simp[Oh hk]
   rw[hm,Wt h];rfl
  ·obtain rfl:k=l.length:=by omega
   rw[← hv,hstop n v hv,e];simp
def Xid (hN:1000000<N) {a:WD} (hl:a.Slots.length<=1000000):QgE N a=some ⟨a.Slots.map λ s=>⟨s.Stamp,0,s.Live⟩,a.Scopes,a.Issued⟩:=by
 have:=Xez (F:=Qec N a) (λ s=>⟨s.Stamp,0,s.Live⟩) a.Slots (λ n k v h hv=>by
  rw[Qec,Xf (by omega),Wj (by omega),We,Xc,Wb h,Xa,Xe (by omega),U5]) (λ n v hv=>by rw[Qec,Xf (by omega),Wk (by omega),Wa]) N 0 a.Slots rfl (Un _) (by omega) (by simp)
 rw[QgE,Xf (by omega),show (0:Int)=((0:Nat):Int) from rfl,this,Xa];rfl
def XaB (hN:1000000<N) {a:WT} (hl:a.Entries.length<=1000000):Qew N a=some ⟨a.Entries.map λ s=>⟨s.Gen,0,s.Live⟩⟩:=by
 have:=Xez (F:=QdF N) (λ s=>⟨s.Gen,0,s.Live⟩) a.Entries (λ n k v h hv=>by
  rw[QdF,Xf (by omega),Wj (by omega),We,Xc,Wb h,Xa,Xe (by omega),U5]) (λ n v hv=>by rw[QdF,Xf (by omega),Wk (by omega),Wa]) N 0 a.Entries rfl (Un _) (by omega) (by simp)
 rw[Qew,Xf (by omega),show (0:Int)=((0:Nat):Int) from rfl,this,Xa];rfl
def XeA {α:Type} {F:Nat->Int->List Int->Option (List Int)} (g:α->Int) (l:List α) (B:Nat)
 (hstep:∀ (n k:Nat) (h:k<l.length) (v:List Int),v.length<=B+k->F (n+1) (k:Int) v=F n ((k+1:Nat):Int) (v++[g l[k]]))
 (hstop:∀ (n:Nat) (v:List Int),F (n+1) (l.length:Int) v=some v) :
 ∀ (n k:Nat) (v:List Int),v.length<=B+k->k<=l.length->l.length-k<n->F n (k:Int) v=some (v++(l.drop k).map g)
 | 0,k,v,_,_,hn=>by omega
 | n+1,k,v,hv,hk,hn=>by
  by_cases h:k<l.length
  ·rw[hstep n k h v hv,XeA g l B hstep hstop n (k+1) _ (by rw[Wp];simp;omega) h (by omega),Wt h,WX,Ul];rfl
  ·obtain rfl:k=l.length:=by omega
   rw[hstop,List.drop_length];simp
end
section
variable {N:Nat} {x:Ud} {w:Wy}
def XeB (x:Ud):List Int:=((x.Roots++XX x.Locals.Slots)++XA x.Globals.Entries)++XA x.Weaks.Entries++x.Pins.map (·.Ref)
def Xge (w:Wy):List Int:=((w.Roots++XX w.Locals.Slots)++XA w.Globals.Entries)++XA w.Weaks.Entries++w.Marks.map (·.Id)
def Xjx (hN:NB N) (ht:ET x) {L:List Int} (v:VF N x L):Qgo N x=some (XeB x):=by
 have hN':1000000<N:=by unfold NB at hN;omega
 have hx:=ht.eb
 have l1:=ZZ x.Locals.Slots
 have l2:=Ys x.Globals.Entries
 have l3:=Ys x.Weaks.Entries
 have m1:=(Yb.1 v.loc).slots
 have m2:=Ya v.glo
 have m3:=Ya v.wea
 have m4:=hx.roots
 have m5:=(Yb.1 v.loc).iss
 have m6:=v.p64
 rw[Qgo,Zs hx.loc hN',X8 hx.glo hN',X8 hx.wea hN',v.loc,v.glo,v.wea]
 simp only[Xa,We]
 rw[Xf (by omega),Xf (by omega),Xf (by omega),Xf (by omega)]
 have:=XeA (F:=Qdd N x) (λ p:U4=>p.Ref) x.Pins 200000 (λ n k h v hv=>by
  rw[Qdd,Wj (by omega),We,Xc,Wb h,Xa,Xf (by omega),Xe (by omega)]) (λ n v=>by rw[Qdd,Wk (by omega),Wa]) N 0 (((x.Roots++XX x.Locals.Slots)++XA x.Globals.Entries)++XA x.Weaks.Entries) (by simp only[Wp];omega) (Un _) (by omega)
 rw[show (0:Int)=((0:Nat):Int) from rfl,this,Xa,WP];rfl
structure WV (w:Wy):Prop where
 loc:YL w.Locals=true
 glo:Yx w.Globals.Entries=true
 wea:Yx w.Weaks.Entries=true
 m64:w.Marks.length<=64
 things:∀ t∈w.Things,Z2 w.Things.length t=true
 marks:∀ m∈w.Marks,1<=m.Id/\m.Id<=w.Things.length
 roots:XI w.Things.length w.Roots=true
 wl:XI w.Things.length (XX w.Locals.Slots)=true
 wg:XI w.Things.length (XA w.Globals.Entries)=true
 ww:XI w.Things.length (XA w.Weaks.Entries)=true
def Xrg (h:Ye w=true):WV w:=by
 unfold Ye at h
 simp only[Ww,Uv,Ub,W3] at h
 obtain ⟨_,h2,h3,h4,h5,h6,h7,h8,h9,h10,h11,h12⟩:=h
 refine ⟨h2,h3,h4,by omega,h6,λ m hm=>?_,h9,h10,h11,h12⟩
 unfold JF at h8
 rw[Ka] at h8
 obtain ⟨i,hi,rfl⟩:=WU hm
 have:=h8 i _ (Wb hi)
 unfold Xcq at this
 simp only[Ww,Uv,Ub] at this
 exact ⟨by omega,by omega⟩
def Xmb (hN:NB N) {k:Nat} (hw:WB k w) (v:WV w):QgS N w=some (Xge w):=by
 have hN':1000000<N:=by unfold NB at hN;omega
 have l1:=ZZ w.Locals.Slots
 have l2:=Ys w.Globals.Entries
 have l3:=Ys w.Weaks.Entries
 have m1:=(Yb.1 v.loc).slots
 have m2:=Ya v.glo
 have m3:=Ya v.wea
 have m4:=hw.rootsK
 have m5:=(Yb.1 v.loc).iss
 have m6:=v.m64
 have hk:=hw.kk
 rw[QgS,Zs hw.loc hN',X8 (t:=w.Globals) (by omega) hN',X8 (t:=w.Weaks) (by omega) hN',v.loc,v.glo,v.wea]
 simp only[Xa,We]
 rw[Xf (by omega),Xf (by omega),Xf (by omega),Xf (by omega)]
 have:=XeA (F:=QdG N w) (λ p:U7=>p.Id) w.Marks 200000 (λ n k h v hv=>by
  rw[QdG,Wj (by omega),We,Xc,Wb h,Xa,Xf (by omega),Xe (by omega)]) (λ n v=>by rw[QdG,Wk (by omega),Wa]) N 0 (((w.Roots++XX w.Locals.Slots)++XA w.Globals.Entries)++XA w.Weaks.Entries) (by simp only[Wp];omega) (Un _) (by omega)
 rw[show (0:Int)=((0:Nat):Int) from rfl,this,Xa,WP];rfl
def cfB (x:Ud) (w:Wy):Bool:=x.Heap.Conf.PageWords==w.Conf.PageWords&&x.Heap.Conf.Pages==w.Conf.Pages
def slB (a b:List U1):Bool:=(a.zip b).all λ p=>p.1.Stamp==p.2.Stamp&&p.1.Live==p.2.Live
def enB (a b:List Uj):Bool:=(a.zip b).all λ p=>p.1.Gen==p.2.Gen&&p.1.Live==p.2.Live
def piB (a:List U4) (b:List U7):Bool:=(a.zip b).all λ p=>p.1.Count==p.2.Count&&wU (p.1.Ref+1)==p.2.Base
def Xmc (a b:List U1):slE (a.map λ s=>⟨s.Stamp,0,s.Live⟩) (b.map λ s=>⟨s.Stamp,0,s.Live⟩)=slB a b:=by
 unfold slE slB
 rw[List.zip_map,List.all_map];rfl
def Xjy (a b:List Uj):enE (a.map λ s=>⟨s.Gen,0,s.Live⟩) (b.map λ s=>⟨s.Gen,0,s.Live⟩)=(a.length==b.length&&enB a b):=by
 unfold enE enB
 rw[List.zip_map,List.all_map,W0,W0];rfl
def Xjz (hN:NB N) (ht:ET x) {L:List Int} (v:VF N x L) {k:Nat} (hw:WB k w) (u:WV w):Qfs N x w=some (cfB x w&&(x.Roots.length==w.Roots.length&&(x.Pins.length==w.Marks.length&&(piB x.Pins w.Marks&&((x.Locals.Slots.length==w.Locals.Slots.length&&(x.Locals.Scopes.length==w.Locals.Scopes.length&&(x.Locals.Issued.length==w.Locals.Issued.length&&(slB x.Locals.Slots w.Locals.Slots&&(scE x.Locals.Scopes w.Locals.Scopes&&isE x.Locals.Issued w.Locals.Issued)))))&&((x.Globals.Entries.length==w.Globals.Entries.length&&enB x.Globals.Entries w.Globals.Entries)&&(x.Weaks.Entries.length==w.Weaks.Entries.length&&enB x.Weaks.Entries w.Weaks.Entries))))))):=by
 have hN':1000000<N:=by unfold NB at hN;omega
 obtain ⟨l1,l2,l3⟩:=ht.eb.loc
 have hg:=ht.eb.glo
 have hwe:=ht.eb.wea
 unfold TB at hg hwe
 have m2:=Ya u.glo
 have m3:=Ya u.wea
 have m64:=v.p64
 rw[Qfs,VX,VX,ZQ,ZQ,ZQ,Xid hN' l1,Xid hN' hw.loc.1,XaB hN' hg,XaB (a:=w.Globals) hN' (by omega),XaB hN' hwe,XaB (a:=w.Weaks) hN' (by omega)]
 simp only[Xa]
 rw[Xma (a:=⟨x.Locals.Slots.map λ s=>⟨s.Stamp,0,s.Live⟩,x.Locals.Scopes,x.Locals.Issued⟩) hN' ⟨by simpa using l1,l2,l3⟩,Xgd (a:=⟨x.Globals.Entries.map λ s=>⟨s.Gen,0,s.Live⟩⟩) hN' (by unfold TB;simpa using hg),Xgd (a:=⟨x.Weaks.Entries.map λ s=>⟨s.Gen,0,s.Live⟩⟩) hN' (by unfold TB;simpa using hwe)]
 simp only[Xa,Xmc,Xjy,W0]
 by_cases hm:x.Pins.length=w.Marks.length
 ·have:=Xgb (F:=Qdc N x w) x.Pins w.Marks hm (λ p m=>p.Count==m.Count&&wU (p.Ref+1)==m.Base) (λ n k h1 h2=>by
   rw[Qdc,Wj (by omega),We,Xc,Wb h1,Xc,Wb h2]
   simp only[Xa]
   unfold bne
   rw[ZQ,ZQ,Xe (by omega)]
   cases (x.Pins[k].Count==w.Marks[k].Count)<;>rfl) (λ n=>by rw[Qdc,Wk (by omega),Wa]) (n:=N) (by omega)
  rw[Xgc _ this]
  unfold cfB piB
  cases (x.Heap.Conf.PageWords==w.Conf.PageWords&&x.Heap.Conf.Pages==w.Conf.Pages) with
  | false=>rfl
  | true =>
  cases (x.Roots.length==w.Roots.length) with
  | false=>rfl
  | true =>
  cases (x.Pins.length==w.Marks.length) with
  | false=>rfl
  | true =>
  simp only[We,WA]
  cases (x.Pins.zip w.Marks).all _ with
  | false=>rfl
  | true =>
  simp only[We,WA]
  cases (x.Locals.Slots.length==w.Locals.Slots.length&&_) with
  | false=>rfl
  | true =>
  simp only[We,WA]
  cases (x.Globals.Entries.length==w.Globals.Entries.length&&_) with
  | false=>rfl
  | true=>rfl
 ·rw[show (x.Pins.length==w.Marks.length)=false by simpa using hm]
  unfold cfB
  cases (x.Heap.Conf.PageWords==w.Conf.PageWords&&x.Heap.Conf.Pages==w.Conf.Pages) with
  | false=>rfl
  | true=>cases (x.Roots.length==w.Roots.length)<;>rfl
end
section
variable {N:Nat} {x:Ud} {w:Wy}
def hdB (a b:WI):Bool:=a.Kind==b.Kind&&(a.Length==b.Length&&a.Map==b.Map)
def Xqa {a b:WI} (h:hdB a b=true):a=b:=by
 unfold hdB at h
 simp only[Ww,beq_iff_eq] at h
 cases a;cases b
 obtain ⟨rfl,rfl,rfl⟩:=h;rfl
def XcK:∀ (l:List (Int×Int)),(l.map (·.1)).zip (l.map (·.2))=l
 | []=>rfl
 | x::l=>by rw[WX,WX,IH,XcK l]
def XeC:∀ (l:List OA),(itL l).length<=l.length
 | []=>Ui _
 | x::l=>by
  have:=XeC l
  rw[itL]
  split
  ·simp;omega
  ·simp;omega
def Xa6 (hN:1000000<N) (y1:WI×Int) (t:UL) (y:List Int×Int) (hl:y.1.length<=1000) (he:y.1.length=t.Fields.length):∀ (n k:Nat) (A B:List Int),k<=y.1.length->y.1.length-k<n->A.length<=k->B.length<=k ->
 QcS N y1 t y n (k:Int) A B=some (bif ((Zl y1.1 0 y.1 t.Fields).drop k).all (·.ok) then .nxt (A++(itL ((Zl y1.1 0 y.1 t.Fields).drop k)).map (·.1),B++(itL ((Zl y1.1 0 y.1 t.Fields).drop k)).map (·.2)) else .ret ([],[],false))
 | 0,k,A,B,_,hn,_,_=>by omega
 | n+1,k,A,B,hk,hn,hA,hB=>by
  have hlen:(Zl y1.1 0 y.1 t.Fields).length=y.1.length:=Jr _ _ _ _ he
  rw[QcS]
  by_cases h:k<y.1.length
  ·have h2:k<t.Fields.length:=by omega
   have h3:k<(Zl y1.1 0 y.1 t.Fields).length:=by omega
   have e:=Xaz y1.1 0 y.1 t.Fields k h h2 h3
   rw[Ut] at e
   rw[Wj (by omega),We,JA,Xa,Xc,Wb h,Xa,Xc,Wb h2,Wt h3,e,U2,itL,Xe (by omega)]
   simp only[Xa]
   cases h4:ZK y1.1 (k:Int) with
   | true =>
    rw[We,Xf (by omega),Xf (by omega),Xa6 hN y1 t y hl he n (k+1) _ _ h (by omega) (by rw[Wp];simp;omega) (by rw[Wp];simp;omega)]
    simp[Ul]
   | false =>
    rw[Wa]
    unfold bne
    cases h5:(y.1[k]==t.Fields[k]) with
    | false=>simp
    | true =>
     rw[Ws,Wa,Xa6 hN y1 t y hl he n (k+1) _ _ h (by omega) (by omega) (by omega)]
     simp
  ·obtain rfl:k=y.1.length:=by omega
   rw[Wk (by omega),Wa,WL (by omega)]
   simp[itL]
structure PF (N:Nat) (x:Ud) (w:Wy) (L:List Int) (p:WE) (t:UL) (l:List Int):Prop where
 get:Qbn N x.Heap p.Addr=some (hdA x.Heap.Words p.Addr,0)
 gget:Qe5 N x.Heap p.Addr=some (hdA x.Heap.Words p.Addr,0)
 th:Xb w.Things (wU (p.Id-1))=some t
 fld:Qcv N x.Heap p.Addr=some (l,0)
 gfld:QeR N x.Heap p.Addr=some (l,0)
 len:(l.length:Int)=(hdA x.Heap.Words p.Addr).Length
 l255:l.length<=255
 eqv:hdB (hdA x.Heap.Words p.Addr) t.Header=true->l.length=t.Fields.length/\∀ y∈Zl (hdA x.Heap.Words p.Addr) 0 l t.Fields,IO (·∈L) w.Things.length y
def Xrh (hN:NB N) (ht:ET x) {L:List Int} (v:VF N x L) {k:Nat} (hw:WB k w) (tw:Xz w) (u:WV w) {p:WE} (hp:p.Addr∈L) (h1:1<=p.Id) (h2:p.Id<=w.Things.length):∃ t l,PF N x w L p t l:=by
 have hN':1000000<N:=by unfold NB at hN;omega
 have hb:=ht.eb.heap
 have hh:=Y0 hN hb v.pr
 have h255:=XH (KC x.Heap p.Addr)
 obtain ⟨eg,ta,a1,a2⟩:=Xhc hN ht v hp
 have er:=XgZ hN hb v.pr (v.at_ _ hp) (v.ev _ hp) (v.kd _ hp)
 obtain ⟨l,f1,f2,f3⟩:=XdE hN hb v.pr (v.at_ _ hp) (v.ev _ hp) (v.kd _ hp)
 have hts:=hw.things
 have hk:=hw.kk
 have hi:(p.Id-1).toNat<w.Things.length:=by omega
 have hm:w.Things[(p.Id-1).toNat]∈w.Things:=WW hi
 have e1:Xb w.Things (wU (p.Id-1))=some w.Things[(p.Id-1).toNat]:=by
  rw[XC (by omega) (by omega),Yg (by omega) (by omega)]
 have gf:QeR N x.Heap p.Addr=some (l,0):=by
  rw[Qcv,er,Xa] at f1
  rw[QeR,eg,Xa,XfS (by have:=hb.1;omega) (by rw[XC (by omega) (by omega)];omega)]
  exact f1
 refine ⟨w.Things[(p.Id-1).toNat],l,er,eg,e1,f1,gf,f2,by omega,λ he=>?_⟩
 generalize w.Things[(p.Id-1).toNat]=t at *
 have hd:=Xqa he
 have tv:=u.things t hm
 unfold Z2 at tv
 simp only[Ww,Uv,bne_eq_false_iff_eq] at tv
 obtain ⟨t1,_,t3,t4⟩:=tv
 have hlen:l.length=t.Fields.length:=by rw[hd] at f2;omega
 refine ⟨hlen,λ y hy=>?_⟩
 obtain ⟨j,hj,rfl⟩:=WU hy
 have hjl:j<l.length:=by rw[Jr _ _ _ _ hlen] at hj;exact hj
 rw[Xaz _ 0 l t.Fields j hjl (by omega) hj,Ut]
 intro _ hlive
 have hlive:ZK (hdA x.Heap.Words p.Addr) (j:Int)=true:=hlive
 have hpm:(j:Int)∈Y9 (hdA x.Heap.Words p.Addr):=(Vx (KC x.Heap p.Addr)).2 ⟨by omega,by omega,hlive⟩
 refine ⟨?_,?_⟩
 ·show l[j]=0\/l[j]∈L
  rw[f3 j hjl]
  by_cases hz:wd x.Heap.Words (p.Addr+1+j)=0
  ·exact .inl hz
  ·refine .inr ?_
   cases hc:L.contains (wd x.Heap.Words (p.Addr+1+j)) with
   | true=>exact Zr hc
   | false=>exact absurd ⟨(j:Int),hpm,hz,hc⟩ (v.bad _ hp)
 ·show 0<=t.Fields[j]/\t.Fields[j]<=w.Things.length
  have hjt:j<t.Fields.length:=by omega
  refine ⟨((tw.1 t hm).2 _ (WW hjt)).1,?_⟩
  rw[Xdx t1 t3] at t4
  unfold XI at t4
  rw[W3] at t4
  have:=t4 _ (UH.2 ⟨(j:Int),by rw[← hd];exact hpm,rfl⟩)
  have hg:t.Fields.getD ((j:Int)).toNat 0=t.Fields[j]:=by rw[U5,Wr,Wb hjt];rfl
  have h9:¬ (t.Fields.getD ((j:Int)).toNat 0>(w.Things.length:Int)):=WG (by simpa using this)
  rw[hg] at h9
  omega
end
section
variable {N:Nat} {x:Ud} {w:Wy} {L:List Int}
def XaC:∀ {l:List OA} {z:Int×Int},z∈itL l->∃ y∈l,y.live=true/\z=(y.a,y.b)
 | [],z,h=>by simp[itL] at h
 | y::l,z,h=>by
  rw[itL] at h
  split at h
  ·rename_i hl
   rcases UQ.1 h with rfl | h
   ·exact ⟨y,by simp,hl,rfl⟩
   ·obtain ⟨q,hq,h1⟩:=XaC h
    exact ⟨q,W4 _ hq,h1⟩
  ·obtain ⟨q,hq,h1⟩:=XaC h
   exact ⟨q,W4 _ hq,h1⟩
def Xmd {p:WE} {t:UL} {l:List Int} (pf:PF N x w L p t l) (hB:hdB (hdA x.Heap.Words p.Addr) t.Header=false):Qfd N x w p=some ([],[],false):=by
 have hu:((hdA x.Heap.Words p.Addr).Kind==t.Header.Kind&&((hdA x.Heap.Words p.Addr).Length==t.Header.Length&&(hdA x.Heap.Words p.Addr).Map==t.Header.Map))=false:=hB
 rw[Qfd,pf.get,Xa,pf.th,Xa]
 simp only[hu];rfl
def XjA (hN:1000000<N) {p:WE} {t:UL} {l:List Int} (pf:PF N x w L p t l) (hB:hdB (hdA x.Heap.Words p.Addr) t.Header=true) :
 Qfd N x w p=some (bif (Zl (hdA x.Heap.Words p.Addr) 0 l t.Fields).all (·.ok) then ((itL (Zl (hdA x.Heap.Words p.Addr) 0 l t.Fields)).map (·.1),(itL (Zl (hdA x.Heap.Words p.Addr) 0 l t.Fields)).map (·.2),true) else ([],[],false)):=by
 have hu:((hdA x.Heap.Words p.Addr).Kind==t.Header.Kind&&((hdA x.Heap.Words p.Addr).Length==t.Header.Length&&(hdA x.Heap.Words p.Addr).Map==t.Header.Map))=true:=hB
 have h5:=pf.l255
 have:=Xa6 hN (hdA x.Heap.Words p.Addr,0) t (l,0) (by show l.length<=1000;omega) (pf.eqv hB).1 N 0 [] [] (Un _) (by show l.length-0<N;omega) (by simp) (by simp)
 rw[WP] at this
 have this:QcS N (hdA x.Heap.Words p.Addr,0) t (l,0) N 0 [] []=_:=this
 rw[Qfd,pf.get,Xa,pf.th,Xa]
 simp only[hu,Ws,Wa]
 rw[pf.fld,Xa,this,Xa]
 dsimp only
 cases (Zl (hdA x.Heap.Words p.Addr) 0 l t.Fields).all (·.ok)
 ·rw[Wa,Wa,Xl]
 ·rw[We,We,Xk];simp
def bfs (hN:NB N) (ht:ET x) (v:VF N x L) {kk:Nat} (hw:WB kk w) (tw:Xz w) (u:WV w):∀ (m m2 k:Nat) (out:List WE),SR (·∈L) w.Things.length out->k<=out.length->w.Things.length-k<m->w.Things.length-k<m2 ->
 (QaU N x w m (k:Int) (mI out) (mA out) out=some (.ret ([],false))/\(Qa1 N x w m2 true (k:Int) out=some (.ret ([],false))\/∃ z,Qa1 N x w m2 true (k:Int) out=some (.nxt (false,z)))) \/
 ∃ o,QaU N x w m (k:Int) (mI out) (mA out) out=some (.nxt (mI o,mA o,o))/\Qa1 N x w m2 true (k:Int) out=some (.nxt (true,o))/\o.length<=1000000
 | 0,m2,k,out,_,_,hm,_=>by omega
 | m+1,0,k,out,_,_,_,hm=>by omega
 | m+1,m2+1,k,out,h,hk,hm,hm2=>by
  have hN':1000000<N:=by unfold NB at hN;omega
  have hol:=h.len
  have hn1:=h.n1
  rw[QaU,Qa1,We,Xf (by omega),Xf (by omega)]
  by_cases hkl:k<out.length
  case neg =>
   rw[Wk (by omega),Wa,Wa]
   exact .inr ⟨out,rfl,rfl,by omega⟩
  have hp:=h.pr _ (WW hkl)
  obtain ⟨t,l,pf⟩:=Xrh hN ht v hw tw u hp.1 hp.2.1 hp.2.2
  rw[Wj (by omega),We,We,Xc,Wb hkl,Xa,Xa]
  generalize out[k]=p at *
  simp only[XN]
  rw[pf.gget,Xa,pf.th,Xa,show (((hdA x.Heap.Words p.Addr,(0:Int)).2) != 0)=false from rfl,Wa]
  have hBu:((hdA x.Heap.Words p.Addr,(0:Int)).1.Kind==t.Header.Kind&&((hdA x.Heap.Words p.Addr,(0:Int)).1.Length==t.Header.Length&&(hdA x.Heap.Words p.Addr,(0:Int)).1.Map==t.Header.Map))=hdB (hdA x.Heap.Words p.Addr) t.Header:=rfl
  rw[hBu,Xe (by omega)]
  cases hB:hdB (hdA x.Heap.Words p.Addr) t.Header with
  | false =>
   rw[Xmd pf hB,Xa]
   exact .inl ⟨rfl,.inl rfl⟩
  | true =>
   obtain ⟨e1,e2⟩:=pf.eqv hB
   have h5:=pf.l255
   have g6:=gl6 (x:=x) (w:=w) hN' (hdA x.Heap.Words p.Addr,(0:Int)) t (k:Int) (l,(0:Int)) (by show l.length<=1000000;omega) e1 e2 h
   rw[Ws,Wa,pf.gfld,Xa,show (((l,(0:Int)).2) != 0)=false from rfl,Wa,VX,show ((l,(0:Int)).1.length==t.Fields.length)=true by simpa using e1,Ws,Wa,XjA hN' pf hB,Xa]
   have hits:=Xet (Zl (hdA x.Heap.Words p.Addr) 0 l t.Fields) out
   rcases g6 with ⟨g1,e,g2,_⟩ | ⟨o,g1,g3,g2⟩
   ·rw[g2,Xa,Xl]
    have g1:itS out (Zl (hdA x.Heap.Words p.Addr) 0 l t.Fields)=none:=g1
    rw[g1] at hits
    cases hall:(Zl (hdA x.Heap.Words p.Addr) 0 l t.Fields).all (·.ok) with
    | false=>exact .inl ⟨rfl,.inl rfl⟩
    | true =>
     rw[hall,Wn rfl] at hits
     have a2:=Xic (O:=(·∈L)) (n:=w.Things.length) hN' (x:=x) (w:=w) (k:Int) ((itL (Zl (hdA x.Heap.Words p.Addr) 0 l t.Fields)).map (·.1),(itL (Zl (hdA x.Heap.Words p.Addr) 0 l t.Fields)).map (·.2),true) (by
      have:=XeC (Zl (hdA x.Heap.Words p.Addr) 0 l t.Fields);rw[Jr _ _ _ _ e1] at this;simp only[W0];omega) (by simp) (by
      intro z hz
      rw[XcK] at hz
      obtain ⟨y,hy,hlive,rfl⟩:=XaC hz
      exact e2 y hy (W3.1 hall y hy) hlive) h
     simp only[XcK] at a2
     rw[← hits] at a2
     simp only[We,Ws,Wa]
     rw[a2,Xa,Xl]
     obtain ⟨m3,rfl⟩:∃ m3,m2=m3+1:=⟨m2-1,by omega⟩
     rw[Qa1]
     exact .inl ⟨rfl,.inr ⟨_,rfl⟩⟩
   ·rw[g2,Xa,Xk]
    have g1:itS out (Zl (hdA x.Heap.Words p.Addr) 0 l t.Fields)=some o:=g1
    rw[g1] at hits
    cases hall:(Zl (hdA x.Heap.Words p.Addr) 0 l t.Fields).all (·.ok) with
    | false=>rw[hall,Wm (by simp)] at hits;cases hits
    | true =>
     rw[hall,Wn rfl] at hits
     have hz2:∀ z∈itL (Zl (hdA x.Heap.Words p.Addr) 0 l t.Fields),(z.1=0\/z.1∈L)/\0<=z.2/\z.2<=w.Things.length:=by
      intro z hz
      obtain ⟨y,hy,hlive,rfl⟩:=XaC hz
      exact e2 y hy (W3.1 hall y hy) hlive
     have a2:=Xic (O:=(·∈L)) (n:=w.Things.length) hN' (x:=x) (w:=w) (k:Int) ((itL (Zl (hdA x.Heap.Words p.Addr) 0 l t.Fields)).map (·.1),(itL (Zl (hdA x.Heap.Words p.Addr) 0 l t.Fields)).map (·.2),true) (by
      have:=XeC (Zl (hdA x.Heap.Words p.Addr) 0 l t.Fields);rw[Jr _ _ _ _ e1] at this;simp only[W0];omega) (by simp) (by
      intro z hz
      rw[XcK] at hz
      exact hz2 z hz) h
     simp only[XcK] at a2
     rw[← hits] at a2
     simp only[We,Ws,Wa]
     rw[a2,Xa,Xk]
     obtain ⟨_,_,q,rfl⟩:=Xg6 h.pi h.pr hz2 hits.symm
     exact bfs hN ht v hw tw u m m2 (k+1) _ g3 (by rw[Wp];omega) (by omega) (by omega)
end
abbrev MP:=List (Int×Int)
def T5 (N:Nat) (a0:Ud) (a1:Wy) (x65 x66:MP) (x67:List WE):Option (List WE×Bool) :=
 jn (λ (x82:Bool) (x83:MP) (x84:MP) (x85:List WE) =>
  bif (!x82) then some ([],false)
  else bnd (QaU N a0 a1 N 0 x83 x84 x85) λ e=>exK e (λ r=>some r) λ y113 =>
  some (y113.2.2,true)) λ j19 =>
 bif (((a0.Pins.length:Nat):Int) != ((a1.Marks.length:Nat):Int)) then j19 false x65 x66 x67
 else bnd (Qbt N a0 a1 N 0 x65 x66 x67) λ e=>exK e (λ y80=>j19 false y80.1 y80.2.1 y80.2.2) λ y81 =>
 j19 true y81.1 y81.2.1 y81.2.2
def T4 (N:Nat) (a0:Ud) (a1:Wy) (x48 x49:MP) (x50:List WE):Option (List WE×Bool) :=
 jn (λ (x64:Bool) (x65:MP) (x66:MP) (x67:List WE) =>
  bif (!x64) then some ([],false)
  else T5 N a0 a1 x65 x66 x67) λ j15 =>
 bif (((a0.Weaks.Entries.length:Nat):Int) != ((a1.Weaks.Entries.length:Nat):Int)) then j15 false x48 x49 x50
 else bnd (Qbb N a0 a1 N 0 x48 x49 x50) λ e=>exK e (λ y62=>j15 false y62.1 y62.2.1 y62.2.2) λ y63 =>
 j15 true y63.1 y63.2.1 y63.2.2
def T3 (N:Nat) (a0:Ud) (a1:Wy) (x31 x32:MP) (x33:List WE):Option (List WE×Bool) :=
 jn (λ (x47:Bool) (x48:MP) (x49:MP) (x50:List WE) =>
  bif (!x47) then some ([],false)
  else T4 N a0 a1 x48 x49 x50) λ j11 =>
 bif (((a0.Globals.Entries.length:Nat):Int) != ((a1.Globals.Entries.length:Nat):Int)) then j11 false x31 x32 x33
 else bnd (Qba N a0 a1 N 0 x31 x32 x33) λ e=>exK e (λ y45=>j11 false y45.1 y45.2.1 y45.2.2) λ y46 =>
 j11 true y46.1 y46.2.1 y46.2.2
def T2 (N:Nat) (a0:Ud) (a1:Wy) (y1 y2:MP) (y3:List WE):Option (List WE×Bool) :=
 jn (λ (x30:Bool) (x31:MP) (x32:MP) (x33:List WE) =>
  bif (!x30) then some ([],false)
  else T3 N a0 a1 x31 x32 x33) λ j7 =>
 bnd (QaD N a0.Locals.Scopes a1.Locals.Scopes) λ y15 =>
 bif (!y15) then j7 false y1 y2 y3
 else bnd (Qcn N a0.Locals.Issued a1.Locals.Issued) λ y16 =>
 bif (!y16) then j7 false y1 y2 y3
 else bif (((a0.Locals.Slots.length:Nat):Int) != ((a1.Locals.Slots.length:Nat):Int)) then j7 false y1 y2 y3
 else bnd (Qa9 N a0 a1 N 0 y1 y2 y3) λ e=>exK e (λ y28=>j7 false y28.1 y28.2.1 y28.2.2) λ y29 =>
 j7 true y29.1 y29.2.1 y29.2.2
def XeD (N:Nat) (a0:Ud) (a1:Wy):QdE N a0 a1 =
 (bnd (Qgn N a0) λ y1 =>
 bif (!y1) then some ([],false)
 else bnd (Qfc N a1) λ y2 =>
 bif (!y2) then some ([],false)
 else bif (!((a0.Heap.Conf.PageWords==a1.Conf.PageWords)&&(a0.Heap.Conf.Pages==a1.Conf.Pages))) then some ([],false)
 else bif (((a0.Roots.length:Nat):Int) != ((a1.Roots.length:Nat):Int)) then some ([],false)
 else bnd (QaT N a0 a1 N 0 [] [] []) λ e=>exK e (λ r=>some r) λ y14 =>
 T2 N a0 a1 y14.1 y14.2.1 y14.2.2):=rfl
section
variable {N:Nat} {x:Ud} {w:Wy} {L:List Int}
def FIN (N:Nat) (x:Ud) (w:Wy):Option (List WE)->Option (List WE×Bool)
 | none=>some ([],false)
 | some o=>bnd (QaU N x w N 0 (mI o) (mA o) o) λ e=>exK e (λ r=>some r) λ y=>some (y.2.2,true)
def gd (b:Bool) (o:Option (List WE)):Option (List WE):=if b then o else none
abbrev SRL (L:List Int) (w:Wy):=SR (·∈L) w.Things.length
def Xri (hN:NB N) (ht:ET x) (v:VF N x L) (hi:x.Pins.length=w.Marks.length->∀ y∈ZE x.Pins w.Marks,IO (·∈L) w.Things.length y) {o:List WE} (h:SRL L w o) :
 T5 N x w (mI o) (mA o) o=FIN N x w (gd (x.Pins.length==w.Marks.length) (itS o (ZE x.Pins w.Marks))):=by
 rw[T5,XN,VX,ZQ]
 by_cases he:x.Pins.length=w.Marks.length
 ·rw[show (x.Pins.length==w.Marks.length)=true by simpa using he,We,gd,Wn rfl]
  rcases gl5 hN ht v he (hi he) h with ⟨g1,e,g2,_⟩ | ⟨o',g1,_,g2⟩
  ·rw[g2,g1,Xa,Xl];rfl
  ·rw[g2,g1,Xa,Xk];rfl
 ·rw[show (x.Pins.length==w.Marks.length)=false by simpa using he];rfl
def Xrj (hN:NB N) (ht:ET x) (v:VF N x L) (hi5:x.Pins.length=w.Marks.length->∀ y∈ZE x.Pins w.Marks,IO (·∈L) w.Things.length y) (hi:x.Weaks.Entries.length=w.Weaks.Entries.length->∀ y∈Zu x.Weaks.Entries w.Weaks.Entries,IO (·∈L) w.Things.length y) {o:List WE} (h:SRL L w o) :
 T4 N x w (mI o) (mA o) o=FIN N x w (gd (x.Weaks.Entries.length==w.Weaks.Entries.length) ((itS o (Zu x.Weaks.Entries w.Weaks.Entries)).bind λ o=>gd (x.Pins.length==w.Marks.length) (itS o (ZE x.Pins w.Marks)))):=by
 have hN':1000000<N:=by unfold NB at hN;omega
 rw[T4,XN,VX,ZQ]
 by_cases he:x.Weaks.Entries.length=w.Weaks.Entries.length
 ·rw[show (x.Weaks.Entries.length==w.Weaks.Entries.length)=true by simpa using he,We,gd,Wn rfl]
  rcases gl4 hN' (by have:=Ya v.wea;omega) he (hi he) h with ⟨g1,e,g2,_⟩ | ⟨o',g1,g3,g2⟩
  ·rw[g2,g1,Xa,Xl];rfl
  ·rw[g2,g1,Xa,Xk];exact Xri hN ht v hi5 g3
 ·rw[show (x.Weaks.Entries.length==w.Weaks.Entries.length)=false by simpa using he];rfl
def Xrk (hN:NB N) (ht:ET x) (v:VF N x L) (hi5:x.Pins.length=w.Marks.length->∀ y∈ZE x.Pins w.Marks,IO (·∈L) w.Things.length y) (hi4:x.Weaks.Entries.length=w.Weaks.Entries.length->∀ y∈Zu x.Weaks.Entries w.Weaks.Entries,IO (·∈L) w.Things.length y)
 (hi:x.Globals.Entries.length=w.Globals.Entries.length->∀ y∈Zu x.Globals.Entries w.Globals.Entries,IO (·∈L) w.Things.length y) {o:List WE} (h:SRL L w o) :
 T3 N x w (mI o) (mA o) o=FIN N x w (gd (x.Globals.Entries.length==w.Globals.Entries.length) ((itS o (Zu x.Globals.Entries w.Globals.Entries)).bind λ o=>gd (x.Weaks.Entries.length==w.Weaks.Entries.length) ((itS o (Zu x.Weaks.Entries w.Weaks.Entries)).bind λ o=>gd (x.Pins.length==w.Marks.length) (itS o (ZE x.Pins w.Marks))))):=by
 have hN':1000000<N:=by unfold NB at hN;omega
 rw[T3,XN,VX,ZQ]
 by_cases he:x.Globals.Entries.length=w.Globals.Entries.length
 ·rw[show (x.Globals.Entries.length==w.Globals.Entries.length)=true by simpa using he,We,gd,Wn rfl]
  rcases gl3 hN' (by have:=Ya v.glo;omega) he (hi he) h with ⟨g1,e,g2,_⟩ | ⟨o',g1,g3,g2⟩
  ·rw[g2,g1,Xa,Xl];rfl
  ·rw[g2,g1,Xa,Xk];exact Xrj hN ht v hi5 hi4 g3
 ·rw[show (x.Globals.Entries.length==w.Globals.Entries.length)=false by simpa using he];rfl
def B2 (x:Ud) (w:Wy):Bool:=scE x.Locals.Scopes w.Locals.Scopes&&(isE x.Locals.Issued w.Locals.Issued&&x.Locals.Slots.length==w.Locals.Slots.length)
def RES (x:Ud) (w:Wy) (o:List WE):Option (List WE) :=
 gd (B2 x w) ((itS o (ZB x.Locals.Slots w.Locals.Slots)).bind λ o=>gd (x.Globals.Entries.length==w.Globals.Entries.length) ((itS o (Zu x.Globals.Entries w.Globals.Entries)).bind λ o=>gd (x.Weaks.Entries.length==w.Weaks.Entries.length) ((itS o (Zu x.Weaks.Entries w.Weaks.Entries)).bind λ o=>gd (x.Pins.length==w.Marks.length) (itS o (ZE x.Pins w.Marks)))))
structure OP (x:Ud) (w:Wy) (L:List Int):Prop where
 r:x.Roots.length=w.Roots.length->∀ y∈ZA x.Roots w.Roots,IO (·∈L) w.Things.length y
 s:∀ y∈ZB x.Locals.Slots w.Locals.Slots,IO (·∈L) w.Things.length y
 g:x.Globals.Entries.length=w.Globals.Entries.length->∀ y∈Zu x.Globals.Entries w.Globals.Entries,IO (·∈L) w.Things.length y
 k:x.Weaks.Entries.length=w.Weaks.Entries.length->∀ y∈Zu x.Weaks.Entries w.Weaks.Entries,IO (·∈L) w.Things.length y
 p:x.Pins.length=w.Marks.length->∀ y∈ZE x.Pins w.Marks,IO (·∈L) w.Things.length y
def Xrl (hN:NB N) (ht:ET x) (v:VF N x L) (hi:OP x w L) {o:List WE} (h:SRL L w o) :
 T2 N x w (mI o) (mA o) o=FIN N x w (RES x w o):=by
 have hN':1000000<N:=by unfold NB at hN;omega
 obtain ⟨l1,l2,l3⟩:=ht.eb.loc
 rw[T2,XN,Xoq hN' l2,Xor hN' l3,VX,ZQ,Xa,Xa,ZQ,ZQ,RES,B2]
 cases scE x.Locals.Scopes w.Locals.Scopes with
 | false=>rfl
 | true =>
 cases isE x.Locals.Issued w.Locals.Issued with
 | false=>rfl
 | true =>
 by_cases he:x.Locals.Slots.length=w.Locals.Slots.length
 ·rw[show (x.Locals.Slots.length==w.Locals.Slots.length)=true by simpa using he,We,We,We]
  rcases gl2 hN' l1 he hi.s h with ⟨g1,e,g2,_⟩ | ⟨o',g1,g3,g2⟩
  ·rw[g2,g1,Xa,Xl];rfl
  ·rw[g2,g1,Xa,Xk];exact Xrk hN ht v hi.p hi.k hi.g g3
 ·rw[show (x.Locals.Slots.length==w.Locals.Slots.length)=false by simpa using he];rfl
def XjB (x:Ud) (w:Wy):Option (List WE):=gd (cfB x w&&x.Roots.length==w.Roots.length) ((itS [] (ZA x.Roots w.Roots)).bind λ o=>RES x w o)
def Xme (hN:NB N) (ht:ET x) (v:VF N x L) (hi:OP x w L) (h:SRL L w []) (e1:Qgn N x=some true) (e2:Qfc N w=some true):QdE N x w=FIN N x w (XjB x w):=by
 have hN':1000000<N:=by unfold NB at hN;omega
 rw[XeD,e1,Xa,Ws,Wa,e2,Xa,Ws,Wa,ZQ,VX,ZQ,XjB,cfB]
 cases (x.Heap.Conf.PageWords==w.Conf.PageWords&&x.Heap.Conf.Pages==w.Conf.Pages) with
 | false=>rfl
 | true =>
 by_cases he:x.Roots.length=w.Roots.length
 ·rw[show (x.Roots.length==w.Roots.length)=true by simpa using he,We,We]
  have hr:=ht.eb.roots
  rcases gl1 (N:=N) hN' (by omega) he (hi.r he) h with ⟨g1,e,g2,g4⟩ | ⟨o',g1,g3,g2⟩
  ·have g2:QaT N x w N 0 [] [] []=_:=g2
   rw[g2,g1,Xa,Xl,g4];rfl
  ·have g2:QaT N x w N 0 [] [] []=_:=g2
   rw[g2,g1,Xa,Xk];exact Xrl hN ht v hi g3
 ·rw[show (x.Roots.length==w.Roots.length)=false by simpa using he];rfl
end
section
variable {N:Nat} {x:Ud} {w:Wy} {L:List Int}
def XaD:∀ (a b:List OA),itL (a++b)=itL a++itL b
 | [],b=>rfl
 | x::a,b=>by
  rw[Ia,itL,itL,XaD a b]
  split<;>rfl
def XdH:∀ (a b:List Int),itL (ZA a b)=a.zip b
 | [],b=>by simp[ZA,itL]
 | x::a,[]=>by simp[ZA,itL]
 | x::a,y::b=>congrArg ((x,y)::·) (XdH a b)
def Xgf:∀ (a:List U4) (b:List U7),itL (ZE a b)=(a.map (·.Ref)).zip (b.map (·.Id))
 | [],b=>by simp[ZE,itL]
 | x::a,[]=>by simp[ZE,itL]
 | x::a,y::b=>congrArg ((x.Ref,y.Id)::·) (Xgf a b)
def Xa7:∀ (a b:List U1),a.length=b.length->slB a b=true->itL (ZB a b)=(XX a).zip (XX b)/\(XX a).length=(XX b).length
 | [],[],_,_=>⟨rfl,rfl⟩
 | s::a,t::b,hl,h=>by
  unfold slB at h
  rw[IH,U2,Ww,Ww] at h
  obtain ⟨⟨_,h1⟩,h2⟩:=h
  obtain ⟨e1,e2⟩:=Xa7 a b (by simpa using hl) h2
  have h1:s.Live=t.Live:=by simpa using h1
  have e:itL (ZB (s::a) (t::b))=if s.Live then (s.Ref,t.Ref)::itL (ZB a b) else itL (ZB a b):=rfl
  unfold XX at *
  rw[e,Od,Od,← h1]
  cases s.Live with
  | true=>simp only[if_true,WX,IH,e1,Uc,e2];trivial
  | false=>simp only[US,if_false];exact ⟨e1,e2⟩
def Vh:∀ (a b:List Uj),a.length=b.length->enB a b=true->itL (Zu a b)=(XA a).zip (XA b)/\(XA a).length=(XA b).length
 | [],[],_,_=>⟨rfl,rfl⟩
 | s::a,t::b,hl,h=>by
  unfold enB at h
  rw[IH,U2,Ww,Ww] at h
  obtain ⟨⟨_,h1⟩,h2⟩:=h
  obtain ⟨e1,e2⟩:=Vh a b (by simpa using hl) h2
  have h1:s.Live=t.Live:=by simpa using h1
  have e:itL (Zu (s::a) (t::b))=if s.Live then (s.Ref,t.Ref)::itL (Zu a b) else itL (Zu a b):=rfl
  unfold XA at *
  rw[e,Od,Od,← h1]
  cases s.Live with
  | true=>simp only[if_true,WX,IH,e1,Uc,e2];trivial
  | false=>simp only[US,if_false];exact ⟨e1,e2⟩
def ALL (x:Ud) (w:Wy):List OA:=ZA x.Roots w.Roots++(ZB x.Locals.Slots w.Locals.Slots++(Zu x.Globals.Entries w.Globals.Entries++(Zu x.Weaks.Entries w.Weaks.Entries++ZE x.Pins w.Marks)))
def K0 (x:Ud) (w:Wy):Bool:=(cfB x w&&x.Roots.length==w.Roots.length)&&(B2 x w&&(x.Globals.Entries.length==w.Globals.Entries.length&&(x.Weaks.Entries.length==w.Weaks.Entries.length&&x.Pins.length==w.Marks.length)))
def Xos:(ALL x w).all (·.ok)=(slB x.Locals.Slots w.Locals.Slots&&(enB x.Globals.Entries w.Globals.Entries&&(enB x.Weaks.Entries w.Weaks.Entries&&piB x.Pins w.Marks))):=by
 have h1:(ZA x.Roots w.Roots).all (·.ok)=true:=by unfold ZA;rw[ZF];simp
 unfold ALL
 rw[IK,IK,IK,IK,h1,WA]
 unfold ZB Zu ZE
 rw[ZF,ZF,ZF,ZF];rfl
def XjC (o:Option (List WE)):gd true o=o:=rfl
def Xmf (o:Option (List WE)):gd false o=none:=rfl
def Xie {α:Type} (o:Option α):(o.bind λ _=>(none:Option (List WE)))=none:=by cases o<;>rfl
def Xot (x:Ud) (w:Wy):XjB x w=gd (K0 x w) (itS [] (ALL x w)):=by
 unfold XjB K0 RES ALL
 cases (cfB x w&&x.Roots.length==w.Roots.length) with
 | false=>rfl
 | true =>
 cases B2 x w with
 | false=>simp only[Xmf,XjC,Xie,WA,W5]
 | true =>
 cases (x.Globals.Entries.length==w.Globals.Entries.length) with
 | false=>simp only[Xmf,XjC,Xie,WA,W5]
 | true =>
 cases (x.Weaks.Entries.length==w.Weaks.Entries.length) with
 | false=>simp only[Xmf,XjC,Xie,WA,W5]
 | true =>
 cases (x.Pins.length==w.Marks.length) with
 | false=>simp only[Xmf,XjC,Xie,WA,W5]
 | true=>simp only[XjC,WA,Xeu]
def TAB (x:Ud) (w:Wy):Bool:=cfB x w&&(x.Roots.length==w.Roots.length&&(x.Pins.length==w.Marks.length&&(piB x.Pins w.Marks&&((x.Locals.Slots.length==w.Locals.Slots.length&&(x.Locals.Scopes.length==w.Locals.Scopes.length&&(x.Locals.Issued.length==w.Locals.Issued.length&&(slB x.Locals.Slots w.Locals.Slots&&(scE x.Locals.Scopes w.Locals.Scopes&&isE x.Locals.Issued w.Locals.Issued)))))&&((x.Globals.Entries.length==w.Globals.Entries.length&&enB x.Globals.Entries w.Globals.Entries)&&(x.Weaks.Entries.length==w.Weaks.Entries.length&&enB x.Weaks.Entries w.Weaks.Entries))))))
def Xhd (x:Ud) (w:Wy):TAB x w=(K0 x w&&(ALL x w).all (·.ok)):=by
 rw[Xos]
 unfold TAB K0 B2 scE isE
 refine Bool.eq_iff_iff.2 ⟨λ h=>?_,λ h=>?_⟩
 ·simp only[Ww] at h ⊢
  obtain ⟨a,b,c,d,⟨e,f,g,i,⟨f',j⟩,g',k⟩,⟨l,m⟩,n,o⟩:=h
  exact ⟨⟨⟨a,b⟩,⟨⟨f,j⟩,⟨g,k⟩,e⟩,l,n,c⟩,i,m,o,d⟩
 ·simp only[Ww] at h ⊢
  obtain ⟨⟨⟨a,b⟩,⟨⟨f,j⟩,⟨g,k⟩,e⟩,l,n,c⟩,i,m,o,d⟩:=h
  exact ⟨a,b,c,d,⟨e,f,g,i,⟨f,j⟩,g,k⟩,⟨l,m⟩,n,o⟩
def Xif (h:TAB x w=true):itL (ALL x w)=(XeB x).zip (Xge w):=by
 unfold TAB at h
 simp only[Ww,beq_iff_eq] at h
 obtain ⟨a,b,c,d,⟨e,f,g,i,j,k⟩,⟨l,m⟩,n,o⟩:=h
 obtain ⟨s1,s2⟩:=Xa7 _ _ e i
 obtain ⟨g1,g2⟩:=Vh _ _ l m
 obtain ⟨k1,k2⟩:=Vh _ _ n o
 unfold ALL XeB Xge
 rw[XaD,XaD,XaD,XaD,XdH,s1,g1,k1,Xgf]
 rw[List.zip_append (by simp only[Wp];omega),List.zip_append (by simp only[Wp];omega),List.zip_append (by simp only[Wp];omega),List.zip_append b]
 simp only[Ul]
def Xou (x:Ud) (w:Wy):gd (TAB x w) (sts [] ((XeB x).zip (Xge w)))=XjB x w:=by
 rw[Xot,Xet]
 cases h:TAB x w with
 | true =>
  rw[← Xif h]
  rw[Xhd,Ww] at h
  rw[h.1,h.2];rfl
 | false =>
  rw[Xhd] at h
  cases h1:K0 x w with
  | false=>rfl
  | true =>
   rw[h1,WA] at h
   rw[h];rfl
def XcL {α β γ:Type} (f:α->β->γ):∀ {a:List α} {b:List β} {z:γ},z∈List.zipWith f a b->∃ s∈a,∃ t∈b,z=f s t
 | [],b,z,h=>by simp at h
 | x::a,[],z,h=>by simp at h
 | x::a,y::b,z,h=>by
  rw[List.zipWith_cons_cons] at h
  rcases UQ.1 h with rfl | h
  ·exact ⟨x,by simp,y,by simp,rfl⟩
  ·obtain ⟨s,hs,t,ht,e⟩:=XcL f h
   exact ⟨s,W4 _ hs,t,W4 _ ht,e⟩
def XaE {n:Nat} {l:List Int} (h:XI n l=true) {v:Int} (hv:v∈l):v<=n:=by
 unfold XI at h
 have:=W3.1 h v hv
 simpa using this
def Xmg (v:VF N x L) (tw:Xz w) (u:WV w):OP x w L:=by
 have hr:∀ r,(r∈x.Roots\/r∈XX x.Locals.Slots\/r∈XA x.Globals.Entries\/r∈XA x.Weaks.Entries)->r=0\/r∈L:=λ r h=>v.refs r (by
  simp only[WK]
  rcases h with h | h | h | h
  ·exact .inl (.inl (.inl h))
  ·exact .inl (.inl (.inr h))
  ·exact .inl (.inr h)
  ·exact .inr h)
 have ent:∀ {a b:List Uj},(∀ r∈XA a,r=0\/r∈L)->(∀ t∈b,tU t.Ref)->(∀ r∈XA b,r<=w.Things.length)->∀ y∈Zu a b,IO (·∈L) w.Things.length y:=by
  intro a b ha tb hb y hy hok hlive
  obtain ⟨s,hs,t,ht,rfl⟩:=XcL _ hy
  simp only[Ww,beq_iff_eq] at hok hlive
  have hl2:t.Live=true:=by rw[← hok.2];exact hlive
  exact ⟨ha _ (UH.2 ⟨s,UJ.2 ⟨hs,hlive⟩,rfl⟩),(tb t ht).1,hb _ (UH.2 ⟨t,UJ.2 ⟨ht,hl2⟩,rfl⟩)⟩
 refine ⟨λ _ y hy=>?_,λ y hy=>?_,λ _=>?_,λ _=>?_,λ _ y hy=>?_⟩
 ·obtain ⟨s,hs,t,ht,rfl⟩:=XcL _ hy
  exact λ _ _=>⟨hr s (.inl hs),(tw.2.2.2.2.2 t ht).1,XaE u.roots ht⟩
 ·obtain ⟨s,hs,t,ht,rfl⟩:=XcL _ hy
  intro hok hlive
  simp only[Ww,beq_iff_eq] at hok hlive
  have hl2:t.Live=true:=by rw[← hok.2];exact hlive
  exact ⟨hr _ (.inr (.inl (UH.2 ⟨s,UJ.2 ⟨hs,hlive⟩,rfl⟩))),(tw.2.1 t ht).1,XaE u.wl (UH.2 ⟨t,UJ.2 ⟨ht,hl2⟩,rfl⟩)⟩
 ·exact ent (λ r h=>hr r (.inr (.inr (.inl h)))) (λ t ht=>tw.2.2.1 t ht) (λ r h=>XaE u.wg h)
 ·exact ent (λ r h=>hr r (.inr (.inr (.inr h)))) (λ t ht=>tw.2.2.2.1 t ht) (λ r h=>XaE u.ww h)
 ·obtain ⟨s,hs,t,ht,rfl⟩:=XcL _ hy
  have:=u.marks t ht
  exact λ _ _=>⟨.inr (v.pins s hs),by show 0<=t.Id;omega,this.2⟩
end
section
variable {N:Nat} {x:Ud} {w:Wy} {L:List Int}
def Xrm (hN:NB N) (ht:ET x) (v:VF N x L) (tw:Xz w) (u:WV w) (h:TAB x w=true):∀ z∈(XeB x).zip (Xge w),(z.1=0\/z.1∈L)/\0<=z.2/\z.2<=w.Things.length:=by
 intro z hz
 rw[← Xif h] at hz
 obtain ⟨y,hy,hlive,rfl⟩:=XaC hz
 have hi:=Xmg v tw u
 have hall:(ALL x w).all (·.ok)=true:=by rw[Xhd,Ww] at h;exact h.2
 have hok:=W3.1 hall y hy
 unfold TAB at h
 simp only[Ww,beq_iff_eq] at h
 obtain ⟨a,b,c,d,⟨e,f,g,i,j,k⟩,⟨l,m⟩,n,o⟩:=h
 unfold ALL at hy
 simp only[WK] at hy
 rcases hy with hy | hy | hy | hy | hy
 ·exact hi.r b y hy hok hlive
 ·exact hi.s y hy hok hlive
 ·exact hi.g l y hy hok hlive
 ·exact hi.k n y hy hok hlive
 ·exact hi.p c y hy hok hlive
def Xov (h:TAB x w=true):(XeB x).length=(Xge w).length:=by
 unfold TAB at h
 simp only[Ww,beq_iff_eq] at h
 obtain ⟨a,b,c,d,⟨e,f,g,i,j,k⟩,⟨l,m⟩,n,o⟩:=h
 have:=(Xa7 _ _ e i).2
 have:=(Vh _ _ l m).2
 have:=(Vh _ _ n o).2
 unfold XeB Xge
 simp only[Wp,W0]
 omega
def Xhe (hN:NB N) (ht:ET x) {k:Nat} (hw:WB k w) (tw:Xz w):∃ r,QdE N x w=some r/\Qfe N x w=some r/\r.1.length<=1000000:=by
 have hN':1000000<N:=by unfold NB at hN;omega
 obtain ⟨b,eb,_⟩:=Kz hN ht.eb
 have eg:=Xoc hN ht
 have gw:=Xls hw hN' tw
 have rw_:=Xan hw hN'
 rw[eb] at eg
 cases b with
 | false =>
  refine ⟨([],false),?_,?_,by simp⟩
  ·rw[XeD,eg,Xa];rfl
  ·rw[Qfe,eb,Xa];rfl
 | true =>
 cases hwv:Ye w with
 | false =>
  rw[hwv] at gw rw_
  refine ⟨([],false),?_,?_,by simp⟩
  ·rw[XeD,eg,Xa,Ws,Wa,gw,Xa];rfl
  ·rw[Qfe,eb,Xa,Ws,Wa,rw_,Xa];rfl
 | true =>
 rw[hwv] at gw rw_
 obtain ⟨L,v⟩:=Xoh hN ht eb
 have u:=Xrg hwv
 have hi:=Xmg v tw u
 have hkk:=hw.kk
 have hts:=hw.things
 have s0:SRL L w []:=⟨PI.nil,λ p hp=>by simp at hp,λ a ha=>by obtain ⟨_,_,h1,h2⟩:=Xhc hN ht v ha;omega,by omega⟩
 have G:=Xme hN ht v hi s0 eg gw
 have T:=Xjz hN ht v hw u
 have TB_:Qfs N x w=some (TAB x w):=T
 have tabs:=Xou x w
 rw[G,Qfe,eb,Xa,Ws,Wa,rw_,Xa,Ws,Wa,TB_,Xa]
 cases hT:TAB x w with
 | false =>
  rw[hT,Xmf] at tabs
  rw[← tabs]
  exact ⟨([],false),rfl,rfl,by simp⟩
 | true =>
  rw[hT,XjC] at tabs
  have hz:=Xrm hN ht v tw u hT
  have hpl:(XeB x).length<=100000\/True:=.inr trivial
  have hlen:=Xov hT
  have l1:=ZZ x.Locals.Slots
  have l2:=Ys x.Globals.Entries
  have l3:=Ys x.Weaks.Entries
  have m1:=(Yb.1 v.loc).slots
  have m2:=Ya v.glo
  have m3:=Ya v.wea
  have m4:=hw.rootsK
  have m5:=(Yb.1 v.loc).iss
  have m6:=v.p64
  have l1':=ZZ w.Locals.Slots
  have l2':=Ys w.Globals.Entries
  have l3':=Ys w.Weaks.Entries
  have m1':=(Yb.1 u.loc).slots
  have m2':=Ya u.glo
  have m3':=Ya u.wea
  have m5':=(Yb.1 u.loc).iss
  have m6':=u.m64
  have hA:(XeB x).length<=100000:=by
   rw[hlen];unfold Xge;simp only[Wp,W0];omega
  rw[Ws,Wa,Xjx hN ht v,Xa,Xmb hN hw u,Xa,Xjw hN' hA hlen hz s0,Xa,tabs]
  cases hR:XjB x w with
  | none =>
   obtain ⟨n,rfl⟩:∃ n,N=n+1:=⟨N-1,by omega⟩
   simp only
   rw[Qa1,Wa,Xa,Xk]
   exact ⟨([],false),rfl,rfl,by simp⟩
  | some o =>
   rw[hR] at tabs
   obtain ⟨p1,p2,_⟩:=Xg6 s0.pi s0.pr hz tabs
   have ho:SRL L w o:=⟨p1,p2,s0.o,s0.n1⟩
   simp only
   have B:=bfs hN ht v hw tw u N N 0 o ho (Un _) (by omega) (by omega)
   have B:(QaU N x w N 0 (mI o) (mA o) o=some (.ret ([],false))/\(Qa1 N x w N true 0 o=some (.ret ([],false))\/∃ z,Qa1 N x w N true 0 o=some (.nxt (false,z))))\/∃ o',QaU N x w N 0 (mI o) (mA o) o=some (.nxt (mI o',mA o',o'))/\Qa1 N x w N true 0 o=some (.nxt (true,o'))/\o'.length<=1000000:=B
   rw[FIN]
   rcases B with ⟨h1,h2 | ⟨z,h2⟩⟩ | ⟨o',h1,h2,h3⟩
   ·rw[h1,h2,Xa,Xa,Xl,Xl];exact ⟨_,rfl,rfl,by simp⟩
   ·rw[h1,h2,Xa,Xa,Xl,Xk];exact ⟨_,rfl,rfl,by simp⟩
   ·rw[h1,h2,Xa,Xa,Xk,Xk];exact ⟨_,rfl,rfl,h3⟩
def Xrn (hN:1000000<N) {l:List WE} (hl:l.length<=1000000):Qhd N l l=some true:=by
 have c:=Xgb (F:=Qee N l l) l l rfl (λ s t=>s.Addr==t.Addr&&s.Id==t.Id) (λ n k h1 h2=>by
  rw[Qee,Wj (by omega),We,Xc,Wb h1]
  simp only[Xa]
  unfold bne
  rw[ZQ,ZQ,Xe (by omega)]
  cases (l[k].Addr==l[k].Addr)<;>rfl) (λ n=>by rw[Qee,Wk (by omega),Wa]) (n:=N) (by omega)
 rw[Qhd,VX,ZQ,show (l.length==l.length)=true by simp,We,Xgc _ c]
 have:((l.zip l).all λ p=>p.1.Addr==p.2.Addr&&p.1.Id==p.2.Id)=true:=by
  rw[W3]
  intro p hp
  obtain ⟨i,hi,rfl⟩:=WU hp
  rw[List.getElem_zip];simp
 rw[this,We]
end
def XeE (m:Nat):Qhs (m+5000)=some true:=by kernel_rfl
section
variable {N:Nat}
def Xo7 {α:Type} {P:α->Prop} {a b c:α} (ha:P a) (hb:P b) (hc:P c) (k:Nat) (hk:k<3):∃ x,Xb [a,b,c] (k:Int)=some x/\P x:=by
 rw[Xc]
 match k,hk with
 | 0,_=>exact ⟨a,rfl,ha⟩
 | 1,_=>exact ⟨b,rfl,hb⟩
 | 2,_=>exact ⟨c,rfl,hc⟩
def Xqb (hN:NB N) {x:Ud} (hx:ET x) {a0:Ud} {a1:Wy} {y3:ID} {y4:Ud×UV} {y5:Wy×UV} (h1:Wd y3.World) (h2:Wd y5.1) (h3:Wd a1) (v:Int):QaJ N a0 a1 y3 y4 y5 x v N 0=some (.nxt ()):=by
 have hN':1000000<N:=by unfold NB at hN;omega
 refine XlI (F:=QaJ N a0 a1 y3 y4 y5 x v) (L:=3) (u:=()) (λ n k hk=>?_) (λ n=>by rw[QaJ,Wk (by omega),Wa]) (by omega)
 obtain ⟨w,ew,⟨q,hq,hw⟩,tw⟩:=Xo7 (P:=Wd) h1 h2 h3 k hk
 obtain ⟨r,r1,r2,r3⟩:=Xhe hN hx hw tw
 rw[QaJ,Wj (by omega),We,ew,Xa,Xod hw hN',Xa,r1,Xa,r2,Xa,show (!(r.2==r.2))=false by simp,Wa,Xrn hN' r3,Xa,Ws,Wa,Xe (by omega)]
def Xqc (hN:NB N) {a0:Ud} {a1:Wy} {y3:ID} {y4:Ud×UV} {y5:Wy×UV} (e1:ET y3.Env) (e2:ET y4.1) (e3:ET a0) (h1:Wd y3.World) (h2:Wd y5.1) (h3:Wd a1):QaK N a0 a1 y3 y4 y5 N 0=some (.nxt ()):=by
 have hN':1000000<N:=by unfold NB at hN;omega
 refine XlI (F:=QaK N a0 a1 y3 y4 y5) (L:=3) (u:=()) (λ n k hk=>?_) (λ n=>by rw[QaK,Wk (by omega),Wa]) (by omega)
 obtain ⟨x,ex,hx⟩:=Xo7 (P:=ET) e1 e2 e3 k hk
 rw[QaK,Wj (by omega),We,ex,Xa,Xqb hN hx h1 h2 h3,Xa,Xk,Xe (by omega)]
def Vi (hN:NB N) {a0:Ud} {a1:Wy} (t0:X4 a0) (t1:Xz a1) (hl:a1.Things.length<=140737488355328) (hl2:a1.Things.length<N) (tape odd:List Int):QcT N a0 a1 tape odd=some true:=by
 obtain ⟨b,eb,hb⟩:=Xjl (N:=N) a0
 rw[QcT,eb,Xa]
 cases b with
 | false=>rfl
 | true =>
 obtain ⟨c,ec,hc⟩:=Xlp hl hl2
 rw[Ws,Wa,ec,Xa]
 cases c with
 | false=>rfl
 | true =>
 obtain ⟨p,ep,k,hk,hp,hne,hs⟩:=Xjv hN tape
 obtain ⟨y4,e4,h4⟩:=Xoo hN hp.env hne hs odd
 have t4:=Xop odd y4 e4
 obtain ⟨y5,e5,h5,_⟩:=Xlo (N:=N) hp.wor (by omega) (t:=y4.2) (t4.le (by omega))
 have tw5:=QmG (N:=N) hp.ty.2.1 y5 e5
 obtain ⟨m,hm⟩:∃ m,N=m+5000:=⟨N-5000,by unfold NB at hN;omega⟩
 have aw:=XeE m
 rw[← hm] at aw
 rw[Ws,Wa,ep,Xa,e4,Xa,e5,Xa,Xqc hN ⟨hp.env,hp.ty.1.1⟩ ⟨h4,(QnH hp.ty.1 y4 e4).1⟩ ⟨hb rfl,t0.1⟩ ⟨⟨k,by omega,hp.wor⟩,hp.ty.2.1⟩ ⟨⟨k+1,by omega,h5⟩,tw5⟩ ⟨⟨100,by omega,hc rfl⟩,t1⟩,Xa,Xk,aw,Xa]
end
end Go.Sx
