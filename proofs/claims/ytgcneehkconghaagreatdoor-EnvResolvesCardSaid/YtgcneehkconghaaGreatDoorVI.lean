import Derived.KernelRfl
import Derived.Test.YtgcneehkconghaaGreatDoorVE
set_option linter.all false
namespace Go.Sx
section
variable {N:Nat}
theorem Xd0 (hN:1000<N) {w v:Int} (h0:0<=w) (h1:w<=63) (hv:0<=v) (hv2:v<2 ^ w.toNat):Qep N v w=some true:=by
 rw[Qep,ZY h0 (by omega) hN,Xa,Xgk (by omega) hv hv2];rfl
theorem XkD (hN:1000000<N) {k l m:Int} (k0:0<=k) (k1:k<4) (l0:0<=l) (l1:l<4096) (m0:0<=m) (m1:m<4294967296) :
 QgD N [(Iq.mk 2 1),(Iq.mk 2 k),(Iq.mk 12 l),(Iq.mk 32 m)]=some (1+k*4+l*16+m*65536,0):=by
 obtain ⟨n,rfl⟩:∃ n,N=n+5:=⟨N-5,by omega⟩
 generalize hL:[(Iq.mk 2 1),(Iq.mk 2 k),(Iq.mk 12 l),(Iq.mk 32 m)]=L
 have l3:L.length=4:=by rw[← hL];rfl
 have g0:Xb L 0=some (Iq.mk 2 1):=by rw[← hL];unfold Xb;rfl
 have g1:Xb L 1=some (Iq.mk 2 k):=by rw[← hL];unfold Xb;rfl
 have g2:Xb L 2=some (Iq.mk 12 l):=by rw[← hL];unfold Xb;rfl
 have g3:Xb L 3=some (Iq.mk 32 m):=by rw[← hL];unfold Xb;rfl
 have i1:wI (0+1)=1:=Xc (by omega) (by omega)
 have i2:wI (1+1)=2:=Xc (by omega) (by omega)
 have i3:wI (2+1)=3:=Xc (by omega) (by omega)
 have i4:wI (3+1)=4:=Xc (by omega) (by omega)
 have j1:wI (64-2)=62:=Xc (by omega) (by omega)
 have j2:wI (62-2)=60:=Xc (by omega) (by omega)
 have j3:wI (60-12)=48:=Xc (by omega) (by omega)
 have j4:wI (48-32)=16:=Xc (by omega) (by omega)
 have k2:wI (0+2)=2:=Xc (by omega) (by omega)
 have k3:wI (2+2)=4:=Xc (by omega) (by omega)
 have k4:wI (4+12)=16:=Xc (by omega) (by omega)
 have k5:wI (16+32)=48:=Xc (by omega) (by omega)
 have e1:Qcl (n+5) L (n+5) 64 0=some (.nxt ()):=by
  rw[Qcl,l3,g0]
  simp only[Xa,i1,j1]
  rw[Qcl,l3,g1]
  simp only[Xa,i2,j2]
  rw[Qcl,l3,g2]
  simp only[Xa,i3,j3]
  rw[Qcl,l3,g3]
  simp only[Xa,i4,j4]
  rw[Qcl,l3]
  rfl
 have f0:Qep (n+5) 1 2=some true:=Xd0 (by omega) (by omega) (by omega) (by omega) (by decide)
 have f1:Qep (n+5) k 2=some true:=Xd0 (by omega) (by omega) (by omega) k0 (by show k<4;omega)
 have f2:Qep (n+5) l 12=some true:=Xd0 (by omega) (by omega) (by omega) l0 (by show l<4096;omega)
 have f3:Qep (n+5) m 32=some true:=Xd0 (by omega) (by omega) (by omega) m0 (by show m<4294967296;omega)
 have s0:ZM .u64 1 0=1:=by decide +kernel
 have s1:ZM .u64 k 2=k*2 ^ 2:=by show wU (k*4)=k*4;exact Xv (by omega) (by omega)
 have s2:ZM .u64 l 4=l*2 ^ 4:=by show wU (l*16)=l*16;exact Xv (by omega) (by omega)
 have s3:ZM .u64 m 16=m*2 ^ 16:=by show wU (m*65536)=m*65536;exact Xv (by omega) (by omega)
 have o0:bOr .u64 0 1=1:=by decide +kernel
 have o1:bOr .u64 1 (k*2 ^ 2)=1+k*2 ^ 2:=XdZ (by omega) (by omega) (by decide) k0 (by omega)
 have o2:bOr .u64 (1+k*2 ^ 2) (l*2 ^ 4)=1+k*2 ^ 2+l*2 ^ 4:=XdZ (by omega) (by omega) (by omega) l0 (by omega)
 have o3:bOr .u64 (1+k*2 ^ 2+l*2 ^ 4) (m*2 ^ 16)=1+k*2 ^ 2+l*2 ^ 4+m*2 ^ 16:=XdZ (by omega) (by omega) (by omega) m0 (by omega)
 have e2:Qcm (n+5) L (n+5) 0 0 0=some (.nxt (1+k*2 ^ 2+l*2 ^ 4+m*2 ^ 16)):=by
  rw[Qcm,l3,g0]
  simp only[Xa,f0,i1,k2,s0,o0]
  rw[Wh (by omega),Wc,Ws,Wa,Xe (by omega)]
  rw[Qcm,l3,g1]
  simp only[Xa,f1,i2,k3,s1,o1]
  rw[Wh (by omega),Wc,Ws,Wa,Xe (by omega)]
  rw[Qcm,l3,g2]
  simp only[Xa,f2,i3,k4,s2,o2]
  rw[Wh (by omega),Wc,Ws,Wa,Xe (by omega)]
  rw[Qcm,l3,g3]
  simp only[Xa,f3,i4,k5,s3,o3]
  rw[Wh (by omega),Wc,Ws,Wa,Xe (by omega)]
  rw[Qcm,l3]
  rw[Wj (by omega),Wa]
 rw[QgD,e1,Xa,Xr,e2,Xa,Xr]
 congr 2
theorem Xgl {d:Wy} (tm:tW d.Map) (h:Xx d=true):0<=d.Map/\d.Map<4294967296:=by
 obtain ⟨a,b⟩:=tm;omega
theorem XmH (hN:1000000<N) {d:Wy} (tm:tW d.Map):Qe8 N d=Qcg N d:=by
 rw[Qe8,KA (by omega),Jg,Xa]
 cases hv:Xx d with
 | false=>rfl
 | true =>
  have hb:=XH hv
  have hm:=Xgl tm hv
  rw[Ws,Wa,Wm rfl,Xv (n:=d.Kind) (by omega) (by omega),Xv (n:=d.Length) (by omega) (by omega),Xv (n:=d.Map) (by omega) (by omega),XkD hN (by omega) (by omega) (by omega) (by omega) (by omega) (by omega),Xa]
  congr 2
  unfold Vo
  have s:∀ x:Int,ZM .u64 x 16=wU (x*65536):=λ _=>rfl
  simp only[s,XbB]
  omega
theorem Xiq (hN:NB N) {ws l:List Int} (hw:ws.length<=100000) (hl:l.length<=1000) {a:Int} (ha:a<=18446744073709551615):QfY N ws a l=QbY N ws a l:=by
 rw[QfY,Xax (by omega) ha,Z2 (by unfold BIG;omega) (by unfold BIG;omega) (by unfold NB at hN;omega),Xa0 (by unfold BIG;omega) N a _ (by omega),Xa]
 by_cases h1:4096<=a/\a<=4096+((ws.length:Nat):Int)
 case neg =>
  rw[Wk h1,Wk (by unfold Yb;omega)];rfl
 rw[Wm h1]
 dsimp only
 by_cases h2:a+((l.length:Nat):Int)<=4096+((ws.length:Nat):Int)
 case neg=>rw[Wj h2,WU,Wc,Wk (by unfold Yb;omega)]
 rw[Wh h2,Ws,Wa,Wm (by unfold Yb;omega),Qay,Xa,Xe (by omega),Xe (by omega)]
 rfl
theorem XqP {n:Nat} (e:Int):(List.replicate (n+1) (0:Int)).set 0 e=[e]++List.replicate n (0:Int):=by
 rw[List.replicate_succ];rfl
theorem Xcc (hN:NB N) {h:Wn} (hb:HB h) {a:Int} (ha:a<=18446744073709551615) {d:Wy} (tm:tW d.Map):Qfe N h a d=QbI N h a d:=by
 have hN':1000000<N:=by unfold NB at hN;omega
 rw[Qfe,QbI,XmH hN' tm,Jg,Xa,Xa,X8 hb.2 hN']
 obtain ⟨b,eb⟩:=Zj (N:=N) hN hb
 cases hv:Xx d with
 | false =>
  rw[Wk (by simp),eb,Xa,Xa]
  cases b<;>rfl
 | true =>
  have hb':=XH hv
  rw[Wm rfl,eb,Xa,Xa]
  dsimp only
  rw[show ((0:Int) != 0)=false from rfl,Wa,Wa]
  cases b with
  | false=>rfl
  | true =>
  have hs:XF d=d.Length+1:=by unfold XF;rw[Wm hv]
  obtain ⟨n,hn⟩:∃ n:Nat,d.Length=(n:Int):=⟨d.Length.toNat,by omega⟩
  have ht:(d.Length+1).toNat=n+1:=by omega
  have ht2:d.Length.toNat=n:=by omega
  rw[Ws,Wa,Wa,Y0 (by omega),Xa,hs,Xe (by omega),ht,ht2,Xe (by omega),Xe (by omega)]
  have hg:Xb (List.replicate (n+1) (0:Int)) 0=some 0:=by unfold Xb;simp
  rw[hg,Xa,XqP,Xiq hN hb.1 (by simp;omega) ha]
  obtain ⟨w,ew⟩:∃ w,QbY N h.Words a ([Vo d]++List.replicate n (0:Int))=some w:=⟨_,Z2 (by unfold BIG;have:=hb.1;omega) (by unfold BIG;simp;omega) (by simp;unfold NB at hN;omega) a⟩
  rw[ew,Xa,Xa,QfN]
  cases (w.2 != 0) with
  | true=>rw[Wc,Wc,Xa]
  | false=>rw[Wa,Wa,Qak,Xa,Xa]
end
end Go.Sx
namespace Go.Sx
section
variable {N:Nat}
theorem XmI {α:Type} (q:α->Bool) (l:List α) (j:Nat) (x:α) (h:∀ y,l[j]? = some y->q y=q x):(l.set j x).all q=l.all q:=by
 by_cases hj:j<l.length
 ·have e1:l.set j x=l.take j++x::l.drop (j+1):=Ib▸(Wm hj)
  have e2:l=l.take j++l[j]::l.drop (j+1):=by rw[List.getElem_cons_drop,IT]
  rw[e1]
  conv=>rhs;rw[e2]
  simp only[List.all_append,I8]
  rw[h _ (Wd hj)]
 ·rw[List.set_eq_of_length_le (by omega)]
theorem Xcv {α:Type} (l:List α) (i k j:Nat) (x:α):((l.set j x).drop i).take k=if i<=j then ((l.drop i).take k).set (j-i) x else (l.drop i).take k:=by
 by_cases h:i<=j
 ·rw[Wm h,List.drop_set,Wk (by omega),List.take_set]
 ·rw[Wk h,List.drop_set,Wm (by omega)]
theorem XkE {c:WT} {ps:List Wv} {j:Nat} (hj:j<ps.length) {x:Wv} (hx:∀ sp,X6 sp x=X6 sp ps[j]) (hs:Ya c ps j x=Ya c ps j ps[j]) (i:Nat) (hi:i<ps.length) :
 Ya c (ps.set j x) i ((ps.set j x)[i]'(by rw[Wx];exact hi))=Ya c ps i ps[i]:=by
 have hall:∀ sp k,(((ps.set j x).drop (i+1)).take k).all (X6 sp)=((ps.drop (i+1)).take k).all (X6 sp):=by
  intro sp k
  rw[Xcv]
  split
  ·refine XmI _ _ _ _ λ y hy=>?_
   rw[WW] at hy
   split at hy
   ·rw[Un,show i+1+(j-(i+1))=j by omega,Wd hj] at hy
    cases hy;exact (hx sp).symm
   ·cases hy
  ·rfl
 have e:∀ p,Ya c (ps.set j x) i p=Ya c ps i p:=by
  intro p
  unfold Ya
  simp only[Wx,hall]
 rw[e]
 by_cases hij:i=j
 ·subst hij
  rw[List.getElem_set_self];exact hs
 ·rw[List.getElem_set_ne (by omega)]
theorem XaR {h:Wn} (hl:h.Pages.length<=100000) (hN:1000000<N) (ps':List Wv) (hlen:ps'.length=h.Pages.length) (hsp:∀ i (hi:i<h.Pages.length),Ya h.Conf ps' i (ps'[i]'(by omega))=Ya h.Conf h.Pages i h.Pages[i]) (ws:List Int) (b:Int):∀ (n i:Nat),i<=h.Pages.length->Qae N ⟨h.Conf,ws,ps',h.Space,b⟩ n (i:Int)=Qae N h n (i:Int)
 | 0,i,_=>by rw[Qae,Qae]
 | n+1,i,hi=>by
  rw[Qae,Qae]
  dsimp only
  rw[hlen]
  by_cases hlt:i<h.Pages.length
  case neg=>rw[Wj (show ¬ (i:Int)<_ by omega),Wa,Wa]
  rw[Wh (show (i:Int)<_ by omega),Wc,Wc,Kz (by omega) hN (by omega),Kz hl hN hlt,hsp i hlt,Xa,Xa]
  have hs:=Xb6 (c:=h.Conf) hlt (p:=h.Pages[i])
  generalize Ya h.Conf h.Pages i h.Pages[i]=s at *
  by_cases h0:s=0
  ·subst h0;rfl
  ·rw[show (((s:Nat):Int)==0)=false by simpa using h0,Wa,Wa,Xc (by omega) (by omega),show (i:Int)+(s:Int)=((i+s:Nat):Int) by omega]
   exact XaR hl hN ps' hlen hsp ws b n (i+s) (by omega)
structure OI (h:Wn):Prop where
 conf:XZ h.Conf=true
 words:(h.Words.length:Int)=h.Conf.Pages*h.Conf.PageWords
 pages:(h.Pages.length:Int)=h.Conf.Pages
 space:0<=h.Space/\h.Space<=1
 bump:h.Bump = -1\/(0<=h.Bump/\h.Bump<h.Pages.length/\(pg h.Pages h.Bump).Kind=1)
theorem UH.pre {h:Wn} (hp:UH h):OI h:=⟨hp.conf,hp.words,hp.pages,hp.space,hp.bump⟩
theorem Jo {h:Wn} (hp:OI h):Qb5 N h=bnd (Qae N h N 0) λ e=>exK e (λ r=>some r) λ _=>some true:=by
 have hv:=Xi.1 hp.conf
 have hm:=X3 hp.conf (i:=0) (by omega) (by omega)
 have hw:=hp.words
 have hpg:=hp.pages
 have e1:(((h.Words.length:Nat):Int) != wI (h.Conf.PageWords*h.Conf.Pages))=false:=by
  rw[Oe,Xc (by omega) (by omega)];simpa using hw
 have e2:(((h.Pages.length:Nat):Int) != h.Conf.Pages)=false:=by simpa using hpg
 have e3:∀ {α:Type} (x y z:α),(bif h.Space != 0 then (bif h.Space != 1 then x else y) else y)=y:=by
  intro α x y z
  by_cases s0:h.Space=0
  ·rw[s0];rfl
  ·have s1:h.Space=1:=by have:=hp.space;omega
   rw[s1];rfl
 rw[Qb5]
 simp only[XV,Zw,Xa,hp.conf,Ws,Wa,e1,e2]
 rw[e3 _ _ (some true)]
 rcases hp.bump with hb | ⟨b0,b1,b2⟩
 ·rw[hb];rfl
 ·rw[show (h.Bump != -1)=true by simp;omega,Wc,XB (show ¬ h.Bump<0 by omega),Wa,XB (show ¬ h.Bump>=((h.Pages.length:Nat):Int) by omega),Wa,YR b0 b1,Xa,b2];rfl
theorem Xfp {h:Wn} (hN:NB N) (hb:HB h) (ep:Qab N h=some true) {ps':List Wv} (hlen:ps'.length=h.Pages.length) (hsp:∀ i (hi:i<h.Pages.length),Ya h.Conf ps' i (ps'[i]'(by omega))=Ya h.Conf h.Pages i h.Pages[i]) {ws:List Int} (hw:ws.length=h.Words.length) {b:Int} (hbump:b = -1\/(0<=b/\b<ps'.length/\(pg ps' b).Kind=1)):Qab N ⟨h.Conf,ws,ps',h.Space,b⟩=some true:=by
 have hN':1000000<N:=by unfold NB at hN;omega
 have hp:=Y3 hN hb ep
 rw[← X8 (by show ps'.length<=_;rw[hlen];exact hb.2) hN',Jo (h:=⟨h.Conf,ws,ps',h.Space,b⟩) ⟨hp.conf,by show ((ws.length:Nat):Int)=_;rw[hw];exact hp.words,by show ((ps'.length:Nat):Int)=_;rw[hlen];exact hp.pages,hp.space,hbump⟩]
 have:=XaR hb.2 hN' ps' hlen hsp ws b N 0 (by omega)
 rw[show ((0:Nat):Int)=0 from rfl] at this
 rw[this,← Jo hp.pre,X8 hb.2 hN',ep]
end
end Go.Sx
namespace Go.Sx
section
variable {N:Nat}
theorem Xdb (hN:NB N) {h:Wn} (hb:HB h) (ep:Qab N h=some true) {d:Wy} (hv:Xx d=true) {a:Int} (ha:Yb h.Words a (d.Length.toNat+1)):∃ h2,QbI N h a d=some (h2,0):=by
 have hb':=XH hv
 obtain ⟨n,hn⟩:∃ n:Nat,d.Length=(n:Int):=⟨d.Length.toNat,by omega⟩
 have ht2:d.Length.toNat=n:=by omega
 rw[ht2] at ha
 rw[QbI,Jg,Wm hv,ep,Xa,Xa,Ws,Wa]
 dsimp only
 rw[show ((0:Int) != 0)=false from rfl,Wa,Xe (by omega),ht2,Xe (by omega),Z2 (by unfold BIG;have:=hb.1;omega) (by unfold BIG;simp;omega) (by simp;unfold NB at hN;omega),Wm (by simpa [Nat.add_comm] using ha),Xa]
 dsimp only
 rw[show ((0:Int) != 0)=false from rfl,Wa]
 exact ⟨_,rfl⟩
theorem Xd1 (hN:1000000<N) {ps:List Wv} (hps:ps.length<=100000) {i:Int} (f r:Wv) (k:Nat) (hk:1<=k) (hk2:k<=1000) (hr:RunOK ps i (k:Int)):Qcr N ps i (k:Int) f r=some (Zu ps (f::List.replicate (k-1) r) i.toNat,0):=by
 obtain ⟨h0,_,h2,h3⟩:=hr
 obtain ⟨j,rfl⟩:∃ j:Nat,i=(j:Int):=⟨i.toNat,by omega⟩
 have hfree:((ps.drop j).take k).any JT=false:=by
  rw[List.any_eq_false]
  intro p hp hb
  obtain ⟨m,hm,rfl⟩:=W3 hp
  rw[Wz,WO] at hm
  rw[List.getElem_take,List.getElem_drop] at hb
  have:=h3 (m:Int) (by omega) (by omega)
  have e:pg ps ((j:Int)+(m:Int))=ps[j+m]'(by omega):=by
   unfold pg
   rw[show ((j:Int)+(m:Int)).toNat=j+m by omega,Wp,Wd (by omega)];rfl
  rw[e] at this
  unfold JT at hb
  rw[this] at hb;cases hb
 have ht:=XdY (N:=N) 0 j k f r ps hps (by omega) N 0 (by omega) (by omega)
 have hp0:Zu ps (List.replicate 0 r) j=ps:=by unfold Zu;simp
 rw[hp0,Ia,Nat.sub_zero,show ((0:Nat):Int)=0 from rfl,hfree,Wk (by simp)] at ht
 rw[Qcr,XB (show ¬ (j:Int)<0 by omega),Wa,XB (show ¬ (j:Int)>=((ps.length:Nat):Int) by omega),Wa,Xc (n:=((ps.length:Nat):Int)-(j:Int)) (by omega) (by omega),XB (show ¬ (k:Int)>((ps.length:Nat):Int)-(j:Int) by omega),Wa,Xe (by omega),ht,Xa,Xr]
 have hl2:(Zu ps (List.replicate k r) j).length=ps.length:=K7 (by rw[WC];omega)
 rw[Xd,Wd (by omega),Xa,show ((j:Nat):Int).toNat=j from rfl]
 congr 2
 unfold Zu
 obtain ⟨m,rfl⟩:∃ m,k=m+1:=⟨k-1,by omega⟩
 rw[WC,Iy,W5,WC,List.replicate_succ,List.set_append_left _ _ (by simp;omega),List.set_append_right _ _ (by simp;omega)]
 simp only[Wz]
 rw[show j-min j ps.length=0 by omega,IN]
end
end Go.Sx
namespace Go.Sx
section
variable {N:Nat}
theorem Xdc {c:WT} {ps:List Wv} {j:Nat} {p:Wv} (hk:p.Kind=1) (hs:0<=p.Space/\p.Space<=1) (hp:0<=p.Pins/\p.Pins<=2147483647) (hu:0<=p.Used/\p.Used<=c.PageWords):Ya c ps j p=1:=by
 unfold Ya
 rw[Wk (by omega),Wm (by omega),Wm hk,Wm hu]
theorem Xgm {c:WT} {ps:List Wv} {j:Nat}:Ya c ps j XaJ=1:=rfl
theorem V6 {ps:List Wv} {j:Nat} (hj:j<ps.length):pg ps (j:Int)=ps[j]:=by
 unfold pg;rw[show ((j:Nat):Int).toNat=j from rfl,Wp,Wd hj];rfl
theorem Xfq (hN:NB N) {h:Wn} (hb:HB h) (ep:Qab N h=some true) {j:Nat} (hj:j<h.Pages.length) {x:Wv} (hk:x.Kind=1) (hs:0<=x.Space/\x.Space<=1) (hpn:0<=x.Pins/\x.Pins<=2147483647) (hu:0<=x.Used/\x.Used<=h.Conf.PageWords) (ho:h.Pages[j].Kind=0\/h.Pages[j].Kind=1) {b:Int} (hbump:b=(j:Int)):Qab N ⟨h.Conf,h.Words,h.Pages.set j x,h.Space,b⟩=some true:=by
 have hp:=Y3 hN hb ep
 have hpg:=hp.pgs (j:Int) (by omega) (by omega)
 have e1:Ya h.Conf h.Pages j h.Pages[j]=1:=by
  rcases ho with ho | ho
  ·have:=hpg.free (by rw[V6 hj];exact ho)
   rw[V6 hj] at this;rw[this];rfl
  ·have a:=hpg.space;have b:=hpg.pins;have c:=hpg.small (by rw[V6 hj];exact ho)
   rw[V6 hj] at a b c
   exact Xdc ho a b c
 have nc:∀ (p:Wv) (sp:Int),p.Kind=0\/p.Kind=1->X6 sp p=false:=by
  intro p sp h
  unfold X6 ZW
  rw[show (p.Kind==3)=false by rcases h with h | h<;>rw[h]<;>rfl];rfl
 refine Xfp hN hb ep (by rw[Wx]) (λ i hi=>XkE hj (λ sp=>by rw[nc x sp (.inr hk),nc _ sp ho]) ?_ i hi) rfl (.inr ⟨by omega,by rw[Wx];omega,?_⟩)
 ·rw[e1];exact Xdc hk hs hpn hu
 ·rw[hbump]
  unfold pg
  rw[show ((j:Nat):Int).toNat=j from rfl,Wp,Ir hj];exact hk
def Xfr (N:Nat) (h:Wn) (n u:Int) (first:Int):Option (Nat×Int) :=
 if 0<=h.Bump/\u<=Y8 h.Conf/\(pg h.Pages h.Bump).Space=h.Space/\(pg h.Pages h.Bump).Used+n<=h.Conf.PageWords then some (h.Bump.toNat,(pg h.Pages h.Bump).Used)
 else if 0<=first/\u<Y8 h.Conf then some (first.toNat,0) else none
def K8 (h:Wn) (n:Int) (j:Nat) (at_:Int):Wn:=⟨h.Conf,h.Words,h.Pages.set j ⟨1,h.Space,at_+n,(pg h.Pages (j:Int)).Pins⟩,h.Space,(j:Int)⟩
theorem Xdd (hN:NB N) {h:Wn} (hb:HB h) (hp:UH h) {n u f:Int} (hn:0<=n/\n<=300) (eu:Qci N h.Pages=some u) (ef:QbA N h.Pages 1=some f) :
 Qdn N h n=some (match Xfr N h n u f with | some (j,a)=>(K8 h n j a,Xg h.Conf (j:Int) a,true) | none=>(zHp,0,false)):=by
 have hN':1000000<N:=by unfold NB at hN;omega
 have hpl:=hb.2
 have hpages:=hp.pages
 have hcv:=Xi.1 hp.conf
 have fresh:(bif decide (f<0) then some (zHp,(0:Int),false) else bif decide (u>=Y8 h.Conf) then some (zHp,0,false) else bnd (QbB N h.Pages f h.Space) λ y6=>bnd (Xb y6.1 f) λ p11=>bnd (Xb y6.1 f) λ p12=>bnd (Xb y6.1 f) λ p13=>some ((Wn.mk h.Conf h.Words (y6.1.set f.toNat (Wv.mk p13.Kind p13.Space (wI (p12.Used+n)) p13.Pins)) h.Space f),(wU (wI ((wI (4096+(wI (f*h.Conf.PageWords))))+p11.Used))),true))=some (match (if 0<=f/\u<Y8 h.Conf then some (f.toNat,(0:Int)) else none) with | some (j,a)=>(K8 h n j a,Xg h.Conf (j:Int) a,true) | none=>(zHp,0,false)):=by
  by_cases h1:f<0
  ·rw[Wh h1,Wc,Wk (by omega)]
  by_cases h2:u>=Y8 h.Conf
  ·rw[XB h1,Wa,Wh h2,Wc,Wk (by omega)]
  rw[XB h1,Wa,XB h2,Wa,Wm (by omega)]
  have hrun:RunOK h.Pages f 1:=by
   rcases (Y9 (N:=N) (ps:=h.Pages) 1 (by omega) (by omega)).get_eq ef with hh | hh
   ·omega
   ·exact hh
  obtain ⟨j,rfl⟩:∃ j:Nat,f=(j:Int):=⟨f.toNat,by omega⟩
  have hj:j<h.Pages.length:=by have:=hrun.2.2.1;omega
  have hsp:=hp.space
  have hm:=X3 hp.conf (i:=(j:Int)) (by omega) (by omega)
  have et:=Xd1 hN' hpl (Wv.mk 1 h.Space 0 0) (Wv.mk 0 0 0 0) 1 (by omega) (by omega) hrun
  have et':Qcr N h.Pages (j:Int) 1 (Wv.mk 1 h.Space 0 0) (Wv.mk 0 0 0 0)=_:=et
  have hput:Zu h.Pages (Wv.mk 1 h.Space 0 0::List.replicate (1-1) (Wv.mk 0 0 0 0)) j=h.Pages.set j (Wv.mk 1 h.Space 0 0):=by
   unfold Zu
   rw[Ib,Wm hj];simp
  rw[QbB,XB (show ¬ h.Space<0 by omega),Wa,XB (show ¬ h.Space>1 by omega),Wa,et',show ((j:Nat):Int).toNat=j from rfl,hput,Xa,Xa]
  have hg:Xb (h.Pages.set j (Wv.mk 1 h.Space 0 0)) (j:Int)=some (Wv.mk 1 h.Space 0 0):=by
   rw[Xd,Ir hj]
  dsimp only
  have hz:(pg h.Pages (j:Int)).Pins=0:=by
   have:=(hp.pgs (j:Int) (by omega) (by omega)).free (by have:=hrun.2.2.2 0 (by omega) (by omega);simpa using this)
   rw[this];rfl
  simp only[hg,Xa]
  unfold K8 Xg
  rw[List.set_set,hz,Xc (n:=0+n) (by omega) (by omega),Xc (n:=(j:Int)*h.Conf.PageWords) (by omega) (by omega),Xc (n:=4096+(j:Int)*h.Conf.PageWords) (by omega) (by omega),Xc (n:=4096+(j:Int)*h.Conf.PageWords+0) (by omega) (by omega),Xv (by omega) (by omega)]
 rw[Qdn,Xe (by omega),XbF,Xa,eu,Xa,XV,ef]
 simp only[Xa]
 rw[fresh]
 unfold Xfr
 by_cases b0:h.Bump<0
 ·rw[Wh b0,Wc,Wk (c:=0<=h.Bump/\u<=Y8 h.Conf/\_) (λ hh=>by omega)]
 have hbump:0<=h.Bump/\h.Bump<h.Pages.length/\(pg h.Pages h.Bump).Kind=1:=by
  rcases hp.bump with hh | hh
  ·omega
  ·exact hh
 have hpg:=hp.pgs h.Bump hbump.1 hbump.2.1
 have hus:=hpg.small hbump.2.2
 have hm:=X3 hp.conf (i:=h.Bump) (by omega) (by omega)
 rw[XB b0,Wa,YR hbump.1 hbump.2.1]
 simp only[Xa]
 rw[Xc (n:=(pg h.Pages h.Bump).Used+n) (by omega) (by omega)]
 by_cases b1:(pg h.Pages h.Bump).Space=h.Space
 case neg=>rw[show ((pg h.Pages h.Bump).Space != h.Space)=true by simpa using b1,Wc,Wk (c:=0<=h.Bump/\u<=Y8 h.Conf/\_) (λ hh=>b1 hh.2.2.1)]
 rw[show ((pg h.Pages h.Bump).Space != h.Space)=false by simpa using b1,Wa]
 by_cases b2:(pg h.Pages h.Bump).Used+n>h.Conf.PageWords
 ·rw[Wh b2,Wc,Wk (c:=0<=h.Bump/\u<=Y8 h.Conf/\_) (λ hh=>by omega)]
 by_cases b3:u>Y8 h.Conf
 ·rw[XB b2,Wa,Wh b3,Wc,Wk (c:=0<=h.Bump/\u<=Y8 h.Conf/\_) (λ hh=>by omega)]
 rw[XB b2,Wa,XB b3,Wa,Wm (c:=0<=h.Bump/\u<=Y8 h.Conf/\_) (by omega)]
 dsimp only
 unfold K8 Xg
 have hbn:((h.Bump.toNat:Nat):Int)=h.Bump:=by omega
 rw[hbn,hbump.2.2,b1,Xc (n:=h.Bump*h.Conf.PageWords) (by omega) (by omega),Xc (n:=4096+h.Bump*h.Conf.PageWords) (by omega) (by omega),Xc (n:=4096+h.Bump*h.Conf.PageWords+(pg h.Pages h.Bump).Used) (by omega) (by omega),Xv (by omega) (by omega)]
end
end Go.Sx
namespace Go.Sx
section
variable {N:Nat}
theorem XaS (hN:NB N) {h:Wn} (hb:HB h) (hp:UH h) {n u f:Int} (hn:0<=n/\n<=300) (hk:Xz h.Conf n=0) (eu:Qci N h.Pages=some u) (ef:QbA N h.Pages 1=some f) :
 Qcc N h n=some (match Xfr N h n u f with | some (j,a)=>(K8 h n j a,⟨(j:Int),a⟩,0) | none=>(zHp,⟨0,0⟩,3)):=by
 have hN':1000000<N:=by unfold NB at hN;omega
 have hpl:=hb.2
 have hpages:=hp.pages
 have hcv:=Xi.1 hp.conf
 have fresh:(bif decide (f>=0) then (bif decide (u<Y8 h.Conf) then (bnd (QfK N h.Pages f h.Space) λ y11=>bif (y11.2 != 0) then some (zHp,(IL.mk 0 0),y11.2) else bnd (Xb y11.1 f) λ p12=>some ((Wn.mk h.Conf h.Words (y11.1.set f.toNat (Wv.mk p12.Kind p12.Space n p12.Pins)) h.Space f),(IL.mk f 0),0)) else some (zHp,(IL.mk 0 0),3)) else some (zHp,(IL.mk 0 0),3))=some (match (if 0<=f/\u<Y8 h.Conf then some (f.toNat,(0:Int)) else none) with | some (j,a)=>(K8 h n j a,IL.mk (j:Int) a,(0:Int)) | none=>(zHp,IL.mk 0 0,3)):=by
  by_cases h1:f>=0
  case neg=>rw[Wj h1,Wa,Wk (by omega)]
  by_cases h2:u<Y8 h.Conf
  case neg=>rw[Wh h1,Wc,Wj h2,Wa,Wk (by omega)]
  rw[Wh h1,Wc,Wh h2,Wc,Wm (by omega)]
  have hrun:RunOK h.Pages f 1:=by
   rcases (Y9 (N:=N) (ps:=h.Pages) 1 (by omega) (by omega)).get_eq ef with hh | hh
   ·omega
   ·exact hh
  obtain ⟨j,rfl⟩:∃ j:Nat,f=(j:Int):=⟨f.toNat,by omega⟩
  have hj:j<h.Pages.length:=by have:=hrun.2.2.1;omega
  have hsp:=hp.space
  have et:=Xd1 hN' hpl (Wv.mk 1 h.Space 0 0) (Wv.mk 0 0 0 0) 1 (by omega) (by omega) hrun
  have et':Qcr N h.Pages (j:Int) 1 (Wv.mk 1 h.Space 0 0) (Wv.mk 0 0 0 0)=_:=et
  have hput:Zu h.Pages (Wv.mk 1 h.Space 0 0::List.replicate (1-1) (Wv.mk 0 0 0 0)) j=h.Pages.set j (Wv.mk 1 h.Space 0 0):=by
   unfold Zu
   rw[Ib,Wm hj];simp
  rw[Xip hN' hpl,QbB,XB (show ¬ h.Space<0 by omega),Wa,XB (show ¬ h.Space>1 by omega),Wa,et',show ((j:Nat):Int).toNat=j from rfl,hput,Xa,Xa]
  have hg:Xb (h.Pages.set j (Wv.mk 1 h.Space 0 0)) (j:Int)=some (Wv.mk 1 h.Space 0 0):=by
   rw[Xd,Ir hj]
  dsimp only
  have hz:(pg h.Pages (j:Int)).Pins=0:=by
   have:=(hp.pgs (j:Int) (by omega) (by omega)).free (by have:=hrun.2.2.2 0 (by omega) (by omega);simpa using this)
   rw[this];rfl
  rw[show ((0:Int) != 0)=false from rfl,Wa,hg,Xa]
  unfold K8
  rw[List.set_set,hz,Int.zero_add]
 rw[Qcc,Va,eu,Xa,XdX,Xa,K6,hk,Xa,XB (show ¬ (0:Int)>0 by omega),Wa,Xaz hN' hpl,ef]
 simp only[Xa,XV]
 rw[fresh]
 unfold Xfr
 by_cases b0:h.Bump>=0
 case neg=>rw[Wj b0,Wa,Wk (c:=0<=h.Bump/\u<=Y8 h.Conf/\_) (λ hh=>by omega)]
 have hbump:0<=h.Bump/\h.Bump<h.Pages.length/\(pg h.Pages h.Bump).Kind=1:=by
  rcases hp.bump with hh | hh
  ·omega
  ·exact hh
 have hpg:=hp.pgs h.Bump hbump.1 hbump.2.1
 have hus:=hpg.small hbump.2.2
 rw[Wh b0,Wc]
 by_cases b3:u<=Y8 h.Conf
 case neg=>rw[Wj b3,Wa,Wk (c:=0<=h.Bump/\u<=Y8 h.Conf/\_) (λ hh=>by omega)]
 rw[Wh b3,Wc,YR hbump.1 hbump.2.1,Xa]
 by_cases b1:(pg h.Pages h.Bump).Space=h.Space
 case neg=>rw[show ((pg h.Pages h.Bump).Space==h.Space)=false by simpa using b1,Wa,Wk (c:=0<=h.Bump/\u<=Y8 h.Conf/\_) (λ hh=>b1 hh.2.2.1)]
 rw[show ((pg h.Pages h.Bump).Space==h.Space)=true by simpa using b1,Wc,Xc (n:=h.Conf.PageWords-(pg h.Pages h.Bump).Used) (by omega) (by omega)]
 by_cases b2:n<=h.Conf.PageWords-(pg h.Pages h.Bump).Used
 case neg=>rw[Wj b2,Wa,Wk (c:=0<=h.Bump/\u<=Y8 h.Conf/\_) (λ hh=>by omega)]
 rw[Wh b2,Wc,Wm (c:=0<=h.Bump/\u<=Y8 h.Conf/\_) (by omega),Qak,Xa,YR hbump.1 hbump.2.1,Xa,Xa]
 dsimp only
 unfold K8
 have hbn:((h.Bump.toNat:Nat):Int)=h.Bump:=by omega
 rw[hbn,hbump.2.2,b1,Xc (n:=(pg h.Pages h.Bump).Used+n) (by omega) (by omega)]
theorem Xoj (hN:NB N) {h:Wn} (hb:HB h) (ep:Qab N h=some true) {n u f:Int} (hn:1<=n/\n<=h.Conf.PageWords) (ef:QbA N h.Pages 1=some f) {j:Nat} {a:Int} (hpl:Xfr N h n u f=some (j,a)):j<h.Pages.length/\0<=a/\a+n<=h.Conf.PageWords/\Qab N (K8 h n j a)=some true:=by
 have hp:=Y3 hN hb ep
 have hl:=hb.2
 have hsp:=hp.space
 unfold Xfr at hpl
 split at hpl
 ·rename_i hc
  cases hpl
  have hbump:0<=h.Bump/\h.Bump<h.Pages.length/\(pg h.Pages h.Bump).Kind=1:=by
   rcases hp.bump with hh | hh
   ·omega
   ·exact hh
  have hpg:=hp.pgs h.Bump hbump.1 hbump.2.1
  have hus:=hpg.small hbump.2.2
  have hbn:((h.Bump.toNat:Nat):Int)=h.Bump:=by omega
  have hj:h.Bump.toNat<h.Pages.length:=by omega
  refine ⟨hj,hus.1,by omega,?_⟩
  unfold K8
  rw[hbn]
  refine Xfq (x:=⟨1,h.Space,(pg h.Pages h.Bump).Used+n,(pg h.Pages h.Bump).Pins⟩) hN hb ep hj rfl hsp hpg.pins (by show 0<=(pg h.Pages h.Bump).Used+n/\_;exact ⟨by omega,by show (pg h.Pages h.Bump).Used+n<=_;omega⟩) (.inr ?_) hbn.symm
  rw[← V6 hj,hbn];exact hbump.2.2
 ·split at hpl
  ·rename_i hc2
   cases hpl
   have hrun:RunOK h.Pages f 1:=by
    rcases (Y9 (N:=N) (ps:=h.Pages) 1 (by omega) (by unfold NB at hN;omega)).get_eq ef with hh | hh
    ·omega
    ·exact hh
   have h3:=hrun.2.2.1
   have hfn:((f.toNat:Nat):Int)=f:=by omega
   have hj:f.toNat<h.Pages.length:=by omega
   have hk0:(pg h.Pages f).Kind=0:=by have:=hrun.2.2.2 0 (by omega) (by omega);simpa using this
   refine ⟨hj,by omega,by omega,?_⟩
   unfold K8
   have hpg:=hp.pgs f (by omega) (by omega)
   rw[hfn]
   refine Xfq (x:=⟨1,h.Space,0+n,(pg h.Pages f).Pins⟩) hN hb ep hj rfl hsp hpg.pins (by show 0<=0+n/\_;exact ⟨by omega,by show 0+n<=_;omega⟩) (.inl ?_) hfn.symm
   rw[← V6 hj,hfn];exact hk0
  ·cases hpl
end
end Go.Sx
namespace Go.Sx
section
variable {N:Nat}
theorem V7 (hN:1000000<N) (c:WT) (d:Wy):Qb8 N c d=some (Xx d&&(d.Kind != 0&&Xz c (XF d) != -1)):=by
 rw[Qb8,YZ,Xa,Yf]
 simp only[Xa,Zr (show 10<=N by omega)]
 cases Xx d<;>cases (d.Kind != 0)<;>rfl
theorem Xfs {h:Wn} (hb:HB h) (n:Int) (j:Nat) (a:Int):HB (K8 h n j a):=⟨hb.1,by show (h.Pages.set j _).length<=_;rw[Wx];exact hb.2⟩
theorem Xgn (hN:NB N) {h:Wn} (hb:HB h) {d:Wy} (tm:tW d.Map) (hk:Xz h.Conf (XF d)=0):QdX N h d=QbM N h d:=by
 have hN':1000000<N:=by unfold NB at hN;omega
 have hl:=hb.2
 rw[QdX,QbM,X8 hl hN',V5 hN']
 obtain ⟨b,eb⟩:=Zj (N:=N) hN hb
 rw[eb,Xa,Xa]
 cases b with
 | false=>rfl
 | true =>
 rw[Ws,Wa,Wa,V7 hN',Xa,Xa]
 cases hv:Xx d with
 | false=>rfl
 | true =>
 cases hkd:(d.Kind != 0) with
 | false=>rfl
 | true =>
 rw[hk]
 have hp:=Y3 hN hb eb
 have hcv:=Xi.1 hp.conf
 have hvb:=XH hv
 have hs:XF d=d.Length+1:=by unfold XF;rw[Wm hv]
 have hn:1<=XF d/\XF d<=h.Conf.PageWords:=by
  have h1:1<=XF d:=by omega
  refine ⟨h1,?_⟩
  unfold Xz at hk
  rw[Wm ⟨hp.conf,h1⟩] at hk
  by_cases hle:XF d<=h.Conf.PageWords / 4
  ·omega
  ·rw[Wk hle] at hk
   repeat' split at hk
   all_goals omega
 obtain ⟨u,eu,_⟩:=JG (N:=N) (ps:=h.Pages) (by omega) (by omega)
 obtain ⟨f,ef,_⟩:=Y9 (N:=N) (ps:=h.Pages) 1 (by omega) (by omega)
 simp only[show ((0:Int) != -1)=true from rfl,Oa,Ws,Wa,Y0 (show 1000<N by omega),Yf,Xa,Zr (show 10<=N by omega),hk,Xdd hN hb hp (n:=XF d) ⟨by omega,by omega⟩ eu ef,XaS hN hb hp (n:=XF d) ⟨by omega,by omega⟩ hk eu ef,XV,show decide ((0:Int)>0)=false from rfl]
 cases hpl:Xfr N h (XF d) u f with
 | none=>rfl
 | some ja =>
  obtain ⟨j,a⟩:=ja
  obtain ⟨q1,q2,q3,q4⟩:=Xoj hN hb eb hn ef hpl
  have hpg:=hp.pages
  have hm:=X3 hp.conf (i:=(j:Int)) (by omega) (by omega)
  have hw:=hp.words
  dsimp only
  have hin:Yb (K8 h (XF d) j a).Words (Xg h.Conf (j:Int) a) (d.Length.toNat+1):=by
   unfold Yb Xg
   show _/\_<=4096+((h.Words.length:Nat):Int)
   constructor
   ·omega
   ·have:(((d.Length.toNat+1:Nat)):Int)=XF d:=by omega
    rw[this];omega
  obtain ⟨h2,e2⟩:=Xdb hN (Xfs hb _ j a) q4 hv hin
  rw[show ((0:Int) != 0)=false from rfl,Wa,JP,ZX,Wk (by rw[hp.conf];simp),Wm (by omega),Xa]
  dsimp only
  rw[show ((0:Int) != 0)=false from rfl,Wa,Xcc hN (Xfs hb _ j a) (by unfold Xg;omega) tm,e2,Xa]
  dsimp only
  rw[show ((0:Int) != 0)=false from rfl,Wa,Ws,Wa]
  rw[Xa]
end
end Go.Sx
namespace Go.Sx
section
variable {N:Nat}
theorem XkF {ps l:List Wv} {j:Nat} (h:j+l.length<=ps.length) (i:Nat):(Zu ps l j)[i]? = if i<j then ps[i]? else if i<j+l.length then l[i-j]? else ps[i]?:=by
 unfold Zu
 by_cases a:i<j
 ·rw[Wm a,Uq (by simp;omega),Uq (by simp;omega),WW,Wm a]
 rw[Wk a]
 by_cases b:i<j+l.length
 ·rw[Wm b,Uq (by simp;omega),UP (by simp;omega)]
  congr 1;simp;omega
 ·rw[Wk b,UP (by simp;omega),Un]
  congr 1;simp;omega
theorem Xir {α:Type} (q:α->Bool) {l l':List α} (hlen:l.length=l'.length) (h:(∀ i:Nat,l[i]? = l'[i]?)\/∃ (i:Nat) (x y:α),l[i]? = some x/\l'[i]? = some y/\q x=false/\q y=false):l.all q=l'.all q:=by
 rcases h with h | ⟨i,x,y,h1,h2,h3,h4⟩
 ·rw[List.ext_getElem? h]
 ·have a:l.all q=false:=List.all_eq_false.2 ⟨x,Uh h1,by rw[h3];simp⟩
  have b:l'.all q=false:=List.all_eq_false.2 ⟨y,Uh h2,by rw[h4];simp⟩
  rw[a,b]
theorem XkG {c:WT} {ps:List Wv} {i:Nat} {p:Wv} {s:Nat} (h:Ya c ps i p=s) (h2:2<=s):((ps.drop (i+1)).take (s-1)).all (X6 p.Space)=true/\s<=ps.length-i:=by
 unfold Ya at h
 split at h
 ·split at h<;>omega
 split at h
 ·split at h
  ·split at h<;>omega
  split at h
  ·split at h
   ·rename_i hh
    subst h
    exact ⟨hh.2.2,hh.2.1⟩
   ·omega
  ·omega
 ·omega
theorem XkH {c:WT} {ps ps':List Wv} (hlen:ps'.length=ps.length) {i:Nat} (hd:∀ m sp,((ps'.drop (i+1)).take m).all (X6 sp)=((ps.drop (i+1)).take m).all (X6 sp)) (p:Wv):Ya c ps' i p=Ya c ps i p:=by
 unfold Ya
 simp only[hlen,hd]
theorem Xcd {h:Wn} (hl:h.Pages.length<=100000) (hN:1000000<N):∀ (k n j:Nat),j+k<=h.Pages.length->(∀ m,m<k->∀ (hm:j+m<h.Pages.length),h.Pages[j+m]=XaJ)->Qae N h (n+k) (j:Int)=Qae N h n ((j+k:Nat):Int)
 | 0,n,j,_,_=>rfl
 | k+1,n,j,hj,hz=>by
  rw[show n+(k+1)=(n+k)+1 from rfl,Qae,Wh (by omega),Wc,Kz hl hN (show j<h.Pages.length by omega),Xa]
  have:=hz 0 (by omega) (by omega)
  simp only[Ia] at this
  rw[this,Xgm,show ((((1:Nat)):Int)==0)=false from rfl,Wa,show ((1:Nat):Int)=1 from rfl,Xh (by omega),Xcd hl hN k n (j+1) (by omega) (λ m hm hlt=>by have:=hz (m+1) (by omega) (by omega);simpa only[show j+(m+1)=j+1+m by omega] using this)]
  congr 2;omega
theorem Xgo (hN:NB N) {h:Wn} (hb:HB h) (ep:Qab N h=some true) {j k:Nat} (hk:1<=k) (hr:RunOK h.Pages (j:Int) (k:Int)) {w:Int} (hw:Xz h.Conf w=(k:Int)):Qab N ⟨h.Conf,h.Words,Zu h.Pages (Wv.mk 2 h.Space w 0::List.replicate (k-1) (Wv.mk 3 h.Space 0 0)) j,h.Space,h.Bump⟩=some true:=by
 have hN':1000000<N:=by unfold NB at hN;omega
 have hp:=Y3 hN hb ep
 have hl:=hb.2
 have hsp:=hp.space
 have hnr:=Ze h.Conf w
 obtain ⟨_,_,hfit,hfree⟩:=hr
 generalize hL:(Wv.mk 2 h.Space w 0::List.replicate (k-1) (Wv.mk 3 h.Space 0 0))=L
 have hLl:L.length=k:=by rw[← hL];simp;omega
 have hjk:j+L.length<=h.Pages.length:=by omega
 have hlen:(Zu h.Pages L j).length=h.Pages.length:=K7 hjk
 have hz:∀ m,m<k->∀ (hm:j+m<h.Pages.length),h.Pages[j+m]=XaJ:=by
  intro m hm hlt
  have:=(hp.pgs ((j:Int)+m) (by omega) (by omega)).free (hfree m (by omega) (by omega))
  rw[show (j:Int)+(m:Int)=((j+m:Nat):Int) by omega,V6 hlt] at this
  exact this
 generalize hq:Zu h.Pages L j=ps' at *
 have hget:∀ i,ps'[i]? = if i<j then h.Pages[i]? else if i<j+k then L[i-j]? else h.Pages[i]?:=by
  intro i;rw[← hq,XkF hjk,hLl]
 have hout:∀ i (hi:i<h.Pages.length),(i<j\/j+k<=i)->ps'[i]'(by omega)=h.Pages[i]:=by
  intro i hi ho
  have a:=hget i
  rw[Wd (by omega),Wd hi] at a
  rcases ho with ho | ho
  ·rw[Wm ho] at a;exact WP a
  ·rw[Wk (by omega),Wk (by omega)] at a;exact WP a
 have hall:∀ i,(i<j\/j+k<=i)->∀ m sp,((ps'.drop (i+1)).take m).all (X6 sp)=((h.Pages.drop (i+1)).take m).all (X6 sp):=by
  intro i ho m sp
  refine Xir _ (by simp[hlen]) ?_
  by_cases hcov:i<j/\j<i+1+m
  ·right
   refine ⟨j-(i+1),Wv.mk 2 h.Space w 0,XaJ,?_,?_,rfl,rfl⟩
   ·rw[WW,Wm (by omega),Un,show i+1+(j-(i+1))=j by omega,hget,Wk (by omega),Wm (by omega),Nat.sub_self,← hL];rfl
   ·rw[WW,Wm (by omega),Un,show i+1+(j-(i+1))=j by omega,Wd (by omega)]
    have:=hz 0 (by omega) (by omega)
    simp only[Ia] at this
    rw[this]
  ·left
   intro q
   rw[WW,WW]
   split
   ·rw[Un,Un,hget]
    rcases ho with ho | ho
    ·rw[Wm (by omega)]
    ·rw[Wk (by omega),Wk (by omega)]
   ·rfl
 have main:∀ (m i n n':Nat),h.Pages.length-i<=m->i<=h.Pages.length->(i<=j\/j+k<=i)->h.Pages.length-i+200<n->h.Pages.length-i+200<n'->Qae N ⟨h.Conf,h.Words,ps',h.Space,h.Bump⟩ n (i:Int)=Qae N h n' (i:Int):=by
  intro m
  induction m with
  | zero =>
   intro i n n' h1 h2 h3 h4 h5
   obtain ⟨n,rfl⟩:∃ q,n=q+1:=⟨n-1,by omega⟩
   obtain ⟨n',rfl⟩:∃ q,n'=q+1:=⟨n'-1,by omega⟩
   rw[Qae,Qae]
   dsimp only
   rw[hlen,Wj (by omega),Wa,Wa]
  | succ m ih =>
   intro i n n' h1 h2 h3 h4 h5
   by_cases hlt:i<h.Pages.length
   case neg =>
    obtain ⟨n,rfl⟩:∃ q,n=q+1:=⟨n-1,by omega⟩
    obtain ⟨n',rfl⟩:∃ q,n'=q+1:=⟨n'-1,by omega⟩
    rw[Qae,Qae]
    dsimp only
    rw[hlen,Wj (by omega),Wa,Wa]
   by_cases hij:i=j
   ·subst hij
    obtain ⟨n,rfl⟩:∃ q,n=q+1:=⟨n-1,by omega⟩
    obtain ⟨n',rfl⟩:∃ q,n'=q+k:=⟨n'-k,by omega⟩
    rw[Xcd hl hN' k n' i (by omega) hz,Qae]
    dsimp only
    have hx:ps'[i]'(by omega)=Wv.mk 2 h.Space w 0:=by
     have a:=hget i
     rw[Wd (by omega),Wk (by omega),Wm (by omega),Nat.sub_self,← hL] at a
     exact WP a
    have htl:((ps'.drop (i+1)).take (k-1)).all (X6 h.Space)=true:=by
     rw[Uc]
     intro y hy
     obtain ⟨q,hq',rfl⟩:=W3 hy
     rw[Wz,WO] at hq'
     have a:=hget (i+1+q)
     have hLq:L[i+1+q-i]? = some (Wv.mk 3 h.Space 0 0):=by
      rw[← hL,show i+1+q-i=q+1 by omega,List.getElem?_cons_succ,IH,Wm (by omega)]
     rw[Wd (by omega),Wk (by omega),Wm (by omega),hLq] at a
     rw[List.getElem_take,List.getElem_drop,WP a]
     simp[X6,ZW]
    have hsn:Ya h.Conf ps' i (ps'[i]'(by omega))=k:=by
     rw[hx]
     unfold Ya
     have hk2:(Xz h.Conf w).toNat=k:=by omega
     rw[Wk (show ¬ (2:Int)=0 by omega),Wm (by show (h.Space=0\/h.Space=1)/\(0:Int)<=0/\(0:Int)<=2147483647;omega),Wk (show ¬ (2:Int)=1 by omega),Wm rfl]
     dsimp only
     rw[hk2,Wm ⟨by omega,by omega,htl⟩]
    rw[Wh (by omega),Wc,Kz (by omega) hN' (by omega),hsn,Xa,show (((k:Nat):Int)==0)=false by simp;omega,Wa,Xc (by omega) (by omega),show (i:Int)+(k:Int)=((i+k:Nat):Int) by omega]
    exact ih (i+k) n n' (by omega) (by omega) (.inr (by omega)) (by omega) (by omega)
   ·have ho:i<j\/j+k<=i:=by omega
    obtain ⟨n,rfl⟩:∃ q,n=q+1:=⟨n-1,by omega⟩
    obtain ⟨n',rfl⟩:∃ q,n'=q+1:=⟨n'-1,by omega⟩
    rw[Qae,Qae]
    dsimp only
    rw[hlen,Wh (by omega),Wc,Wc,Kz (by omega) hN' (by omega),Kz hl hN' hlt,hout i hlt ho,XkH hlen (hall i ho),Xa,Xa]
    have hs:=Xb6 (c:=h.Conf) hlt (p:=h.Pages[i])
    have hbig:=XkG (c:=h.Conf) (ps:=h.Pages) (i:=i) (p:=h.Pages[i]) rfl
    generalize Ya h.Conf h.Pages i h.Pages[i]=s at *
    by_cases h0:s=0
    ·subst h0;rfl
    ·rw[show (((s:Nat):Int)==0)=false by simpa using h0,Wa,Wa,Xc (by omega) (by omega),show (i:Int)+(s:Int)=((i+s:Nat):Int) by omega]
     refine ih (i+s) n n' (by omega) (by omega) ?_ (by omega) (by omega)
     rcases ho with ho | ho
     ·left
      by_cases hs2:2<=s
      ·obtain ⟨ha,_⟩:=hbig hs2
       by_cases hle:i+s<=j
       ·exact hle
       ·exfalso
        rw[Uc] at ha
        have hm:XaJ∈(h.Pages.drop (i+1)).take (s-1):=by
         refine Uh (i:=j-(i+1)) ?_
         rw[WW,Wm (by omega),Un,show i+1+(j-(i+1))=j by omega,Wd (by omega)]
         have:=hz 0 (by omega) (by omega)
         simp only[Ia] at this
         rw[this]
        have:=ha _ hm
        cases this
      ·omega
     ·right;omega
 have hbump:h.Bump = -1\/(0<=h.Bump/\h.Bump<ps'.length/\(pg ps' h.Bump).Kind=1):=by
  rcases hp.bump with hh | ⟨b0,b1,b2⟩
  ·exact .inl hh
  ·refine .inr ⟨b0,by omega,?_⟩
   obtain ⟨q,hq2⟩:∃ q:Nat,h.Bump=(q:Int):=⟨h.Bump.toNat,by omega⟩
   rw[hq2] at b1 b2 ⊢
   have hqi:q<h.Pages.length:=by omega
   rw[V6 hqi] at b2
   by_cases hin:q<j\/j+k<=q
   ·rw[V6 (by omega),hout q hqi hin];exact b2
   ·exfalso
    have:=hz (q-j) (by omega) (by omega)
    simp only[show j+(q-j)=q by omega] at this
    rw[this] at b2;cases b2
 rw[← X8 (by show ps'.length<=_;omega) hN',Jo (h:=⟨h.Conf,h.Words,ps',h.Space,h.Bump⟩) ⟨hp.conf,hp.words,by show ((ps'.length:Nat):Int)=_;rw[hlen];exact hp.pages,hp.space,hbump⟩]
 have:=main h.Pages.length 0 N N (by omega) (by omega) (.inl (by omega)) (by omega) (by omega)
 rw[show ((0:Nat):Int)=0 from rfl] at this
 rw[this,← Jo hp.pre,X8 hl hN',ep]
end
end Go.Sx
namespace Go.Sx
section
variable {N:Nat}
def Xce (h:Wn) (n:Int) (j k:Nat):Wn:=⟨h.Conf,h.Words,Zu h.Pages (Wv.mk 2 h.Space n 0::List.replicate (k-1) (Wv.mk 3 h.Space 0 0)) j,h.Space,h.Bump⟩
theorem Xft (hN:1000000<N) {h:Wn} (hl:h.Pages.length<=100000) (hp:UH h) {n:Int} {j k:Nat} (hk:1<=k) (hk4:k<=4) (hw:Xz h.Conf n=(k:Int)) (hr:RunOK h.Pages (j:Int) (k:Int)):Qdo N h.Conf h.Pages (j:Int) h.Space n=some ((Xce h n j k).Pages,0):=by
 have hsp:=hp.space
 rw[Qdo,Zr (by omega),Xa,hw,XB (show ¬ (k:Int)<1 by omega),Wa,XB (show ¬ h.Space<0 by omega),Wa,XB (show ¬ h.Space>1 by omega),Wa,Xd1 hN hl _ _ k hk (by omega) hr,Xa]
 rfl
theorem XkI {h:Wn} (hb:HB h) (n:Int) {j k:Nat} (hk:1<=k) (hj:j+k<=h.Pages.length):HB (Xce h n j k):=⟨hb.1,by
 show (Zu h.Pages _ j).length<=_
 rw[K7 (by simp;omega)];exact hb.2⟩
theorem Xgp (hN:NB N) {h:Wn} (hb:HB h) {d:Wy} (tm:tW d.Map) (hk0:0<Xz h.Conf (XF d)):QdX N h d=QbM N h d:=by
 have hN':1000000<N:=by unfold NB at hN;omega
 have hl:=hb.2
 rw[QdX,QbM,X8 hl hN',V5 hN']
 obtain ⟨b,eb⟩:=Zj (N:=N) hN hb
 rw[eb,Xa,Xa]
 cases b with
 | false=>rfl
 | true =>
 rw[Ws,Wa,Wa,V7 hN',Xa,Xa]
 cases hv:Xx d with
 | false=>rfl
 | true =>
 cases hkd:(d.Kind != 0) with
 | false=>rfl
 | true =>
 have hp:=Y3 hN hb eb
 have hcv:=Xi.1 hp.conf
 have hvb:=XH hv
 have hpages:=hp.pages
 have hs:XF d=d.Length+1:=by unfold XF;rw[Wm hv]
 have hnr:=Ze h.Conf (XF d)
 obtain ⟨k,hk⟩:∃ k:Nat,Xz h.Conf (XF d)=(k:Int):=⟨(Xz h.Conf (XF d)).toNat,by omega⟩
 have hneed:=XgS hp.conf (w:=XF d) (by omega)
 rw[hk] at hneed hk0 hnr ⊢
 obtain ⟨u,eu,hu⟩:=JG (N:=N) (ps:=h.Pages) (by omega) (by omega)
 obtain ⟨f1,ef1,_⟩:=Y9 (N:=N) (ps:=h.Pages) 1 (by omega) (by omega)
 obtain ⟨f,ef,hf⟩:=Y9 (N:=N) (ps:=h.Pages) (k:Int) (by omega) (by omega)
 have hlim:0<=Y8 h.Conf/\Y8 h.Conf<=16:=by unfold Y8;rw[Wm hp.conf];omega
 have e1:(((k:Nat):Int) != -1)=true:=by simp
 simp only[e1,Oa,Ws,Wa,Y0 (show 1000<N by omega),Yf,Xa,Zr (show 10<=N by omega),hk,Xdd hN hb hp (n:=XF d) ⟨by omega,by omega⟩ eu ef1,XV,Wh (show ((k:Nat):Int)>0 by omega),Wc]
 rw[QdS,ef,Xa,Qcc,Va,eu,Xa,XdX,Xa,K6,hk,Xa,Wh (show ((k:Nat):Int)>0 by omega),Wc,Xaz hN' hl,ef,Xa,XV]
 by_cases h1:f>=0
 case neg =>
  rw[Wj h1,Wa,Xa,Wh (show f<0 by omega),Wc,Xa];rfl
 rw[Wh h1,Wc,XB (show ¬ f<0 by omega),Wa,XbF]
 simp only[Xa]
 rw[Xc (n:=Y8 h.Conf-(k:Int)) (by omega) (by omega),Xc (n:=u+(k:Int)) (by omega) (by omega)]
 by_cases h2:u<=Y8 h.Conf-(k:Int)
 case neg =>
  rw[Wj h2,Wa,Xa,Wh (show u+(k:Int)>Y8 h.Conf by omega),Wc,Xa];rfl
 rw[Wh h2,Wc,XB (show ¬ u+(k:Int)>Y8 h.Conf by omega),Wa,Xda hN' hl]
 have hrun:RunOK h.Pages f (k:Int):=by
  rcases hf with hh | hh
  ·omega
  ·exact hh
 obtain ⟨j,rfl⟩:∃ j:Nat,f=(j:Int):=⟨f.toNat,by omega⟩
 have hfit:=hrun.2.2.1
 rw[Xft hN' hl hp (by omega) (by omega) hk hrun]
 simp only[Xa]
 have hpr:=Xgo hN hb eb (by omega) hrun hk
 have hHB:=XkI hb (XF d) (j:=j) (k:=k) (by omega) (by omega)
 have hm:=X3 hp.conf (i:=(j:Int)) (by omega) (by omega)
 have hw:=hp.words
 have hmul:((j:Int)+(k:Int))*h.Conf.PageWords<=h.Conf.Pages*h.Conf.PageWords:=UE (by omega) (by omega)
 rw[IK] at hmul
 have hin:Yb (Xce h (XF d) j k).Words (Xg h.Conf (j:Int) 0) (d.Length.toNat+1):=by
  unfold Yb Xg
  show _/\_<=4096+((h.Words.length:Nat):Int)
  constructor
  ·omega
  ·have:(((d.Length.toNat+1:Nat)):Int)=XF d:=by omega
   rw[this];omega
 obtain ⟨h2',e2⟩:=Xdb hN hHB hpr hv hin
 have ea:wU (wI (4096+wI ((j:Int)*h.Conf.PageWords)))=Xg h.Conf (j:Int) 0:=by
  unfold Xg
  rw[Xc (n:=(j:Int)*h.Conf.PageWords) (by omega) (by omega),Xc (n:=4096+(j:Int)*h.Conf.PageWords) (by omega) (by omega),Xv (by omega) (by omega)];omega
 rw[show ((0:Int) != 0)=false from rfl,Wa,JP,ZX,Wk (by rw[hp.conf];simp),Wm (by omega),Xa]
 dsimp only
 rw[show ((0:Int) != 0)=false from rfl,Wa,ea,Ws,Wa]
 have e3:Qfe N (Wn.mk h.Conf h.Words (Xce h (XF d) j k).Pages h.Space h.Bump) (Xg h.Conf (j:Int) 0) d=some (h2',0):=(Xcc hN hHB (by unfold Xg;omega) tm).trans e2
 have e4:QbI N (Wn.mk h.Conf h.Words (Xce h (XF d) j k).Pages h.Space h.Bump) (Xg h.Conf (j:Int) 0) d=some (h2',0):=e2
 rw[e3,e4,Xa,Xa]
 rfl
theorem XmJ (hN:NB N) {h:Wn} (hb:HB h) {d:Wy} (tm:tW d.Map):QdX N h d=QbM N h d:=by
 have hnr:=Ze h.Conf (XF d)
 by_cases h0:Xz h.Conf (XF d)=0
 ·exact Xgn hN hb tm h0
 by_cases h1:0<Xz h.Conf (XF d)
 ·exact Xgp hN hb tm h1
 ·have hN':1000000<N:=by unfold NB at hN;omega
  have hm:Xz h.Conf (XF d) = -1:=by omega
  rw[QdX,QbM,X8 hb.2 hN',V5 hN',V7 hN',hm]
  obtain ⟨b,eb⟩:=Zj (N:=N) hN hb
  rw[eb,Xa,Xa,Xa,Xa]
  cases b<;>cases Xx d<;>cases (d.Kind != 0)<;>rfl
end
end Go.Sx
namespace Go.Sx
section
variable {N:Nat}
def KL (h h':Wn):Prop:=h'.Words.length=h.Words.length/\h'.Pages.length=h.Pages.length
theorem XmK (hN:NB N) {h:Wn} (hb:HB h) (hp:UH h) {n:Int} (hn:0<=n/\n<=300) (hk0:0<=Xz h.Conf n) {r:Wn×IL×Int} (e:Qcc N h n=some r) (h0:r.2.2=0):KL h r.1:=by
 have hN':1000000<N:=by unfold NB at hN;omega
 have hl:=hb.2
 obtain ⟨u,eu,hu⟩:=JG (N:=N) (ps:=h.Pages) (by omega) (by omega)
 obtain ⟨f1,ef1,_⟩:=Y9 (N:=N) (ps:=h.Pages) 1 (by omega) (by omega)
 by_cases hk:Xz h.Conf n=0
 ·rw[XaS hN hb hp hn hk eu ef1] at e
  cases hpl:Xfr N h n u f1 with
  | none=>rw[hpl] at e;cases e;cases h0
  | some ja =>
   rw[hpl] at e
   cases e
   exact ⟨rfl,by show (h.Pages.set _ _).length=_;rw[Wx]⟩
 ·have hnr:=Ze h.Conf n
  obtain ⟨k,hk2⟩:∃ k:Nat,Xz h.Conf n=(k:Int):=⟨(Xz h.Conf n).toNat,by omega⟩
  have hlim:0<=Y8 h.Conf/\Y8 h.Conf<=16:=by
   have:=Xi.1 hp.conf
   unfold Y8;rw[Wm hp.conf];omega
  obtain ⟨f,ef,hf⟩:=Y9 (N:=N) (ps:=h.Pages) (k:Int) (by omega) (by omega)
  rw[Qcc,Va,eu,Xa,XdX,Xa,K6,hk2,Xa,Wh (show ((k:Nat):Int)>0 by omega),Wc,Xaz hN' hl,ef,Xa,XV] at e
  by_cases h1:f>=0
  case neg=>rw[Wj h1,Wa] at e;cases e;cases h0
  rw[Wh h1,Wc] at e
  by_cases h2:u<=wI (Y8 h.Conf-(k:Int))
  case neg=>rw[Wj h2,Wa] at e;cases e;cases h0
  rw[Wh h2,Wc,Xda hN' hl] at e
  have hrun:RunOK h.Pages f (k:Int):=by
   rcases hf with hh | hh
   ·omega
   ·exact hh
  obtain ⟨j,rfl⟩:∃ j:Nat,f=(j:Int):=⟨f.toNat,by omega⟩
  have hfit:=hrun.2.2.1
  rw[Xft hN' hl hp (by omega) (by omega) hk2 hrun,Xa] at e
  cases e
  refine ⟨rfl,?_⟩
  show (Zu h.Pages _ j).length=_
  exact K7 (by simp;omega)
theorem XkJ (hN:NB N) {h:Wn} (hb:HB h) (a:Int) (d:Wy):Ok (QbI N h a d) λ r=>r.2=0->KL h r.1:=by
 have hN':=hN
 unfold NB at hN'
 rw[QbI,Jg]
 obtain ⟨b,eb⟩:=Zj (N:=N) hN hb
 rw[Xa,eb,Xa]
 refine Wo (λ _=>Wg λ e=>by cases e) λ _=>Wo (λ _=>Wg λ e=>by cases e) λ h2=>?_
 have hv:Xx d=true:=by
  cases hv:Xx d with
  | true=>rfl
  | false=>rw[hv,Wk (by simp)] at h2;cases h2
 have hd:=XH hv
 refine WS (by omega) (WS (by omega) ?_)
 rw[Z2 (by unfold BIG;have:=hb.1;omega) (by unfold BIG;simp;omega) (by simp;omega),Xa]
 have hv':(if Xx d=true then (Vo d,(0:Int)) else (0,1))=(Vo d,0):=Wm hv
 rw[hv']
 by_cases hin:Yb h.Words a ([(Vo d,(0:Int)).fst]++List.replicate d.Length.toNat (0:Int)).length
 ·rw[Wm hin]
  refine Wo (λ h3=>absurd h3 (by simp)) λ _=>Wg λ _=>⟨?_,rfl⟩
  show (ovr _ _ _).length=_
  unfold Yb at hin
  exact ZS (by unfold ix;omega)
 ·rw[Wk hin]
  exact Wo (λ _=>Wg λ e=>by cases e) λ h3=>absurd h3 (by simp)
theorem Xhj (hN:NB N) {h:Wn} (hb:HB h) {d:Wy} (tm:tW d.Map):Ok (QbM N h d) λ r=>r.2.2=0->KL h r.1:=by
 have hN':1000000<N:=by unfold NB at hN;omega
 obtain ⟨r,er,hr⟩:=XdJ hN hb d
 refine ⟨r,er,λ h0=>?_⟩
 rw[← XmJ hN hb tm,QdX,X8 hb.2 hN',V5 hN',V7 hN'] at er
 obtain ⟨b,eb⟩:=Zj (N:=N) hN hb
 rw[eb,Xa] at er
 cases b with
 | false=>cases er;cases h0
 | true =>
 have hp:=Y3 hN hb eb
 rw[Ws,Wa,Xa] at er
 cases hb2:(Xx d&&(d.Kind != 0&&Xz h.Conf (XF d) != -1)) with
 | false=>rw[hb2] at er;cases er;cases h0
 | true =>
 rw[hb2,Ws,Wa,Y0 (by omega),Xa] at er
 simp only[WE,bne_iff_ne,ne_eq] at hb2
 have hnr:=Ze h.Conf (XF d)
 have hs:=XeJ d
 cases e4:Qcc N h (XF d) with
 | none=>rw[e4,Xal] at er;cases er
 | some y4 =>
 rw[e4,Xa] at er
 by_cases h4:y4.2.2=0
 case neg =>
  rw[show (y4.2.2 != 0)=true by simpa using h4,Wc] at er
  cases er;exact absurd h0 h4
 rw[show (y4.2.2 != 0)=false by simpa using h4,Wa,JP] at er
 have k1:=XmK hN hb hp (n:=XF d) ⟨by omega,by omega⟩ (by omega) e4 h4
 obtain ⟨y5,e5⟩:∃ y5,Qbu N h.Conf y4.2.1.page y4.2.1.offset=some y5:=⟨_,ZX _ _ _ _⟩
 rw[e5,Xa] at er
 by_cases h5:y5.2=0
 case neg =>
  rw[show (y5.2 != 0)=true by simpa using h5,Wc] at er
  cases er;exact absurd h0 h5
 have ha5:y5.1<=18446744073709551615:=by
  rw[ZX] at e5
  have hcv:=Xi.1 hp.conf
  rw[Wk (by rw[hp.conf];simp)] at e5
  split at e5
  ·rename_i hc
   have hm:=X3 hp.conf (i:=y4.2.1.page) hc.1 hc.2.1
   cases e5
   show Xg h.Conf _ _<=_
   unfold Xg;omega
  ·cases e5;cases h5
 have hb4:HB y4.1:=⟨by rw[k1.1];exact hb.1,by rw[k1.2];exact hb.2⟩
 rw[show (y5.2 != 0)=false by simpa using h5,Wa,Xcc hN hb4 ha5 tm] at er
 obtain ⟨y6,e6,k6⟩:=XkJ hN hb4 y5.1 d
 rw[e6,Xa] at er
 by_cases h6:y6.2=0
 case neg =>
  rw[show (y6.2 != 0)=true by simpa using h6,Wc] at er
  cases er;exact absurd h0 h6
 rw[show (y6.2 != 0)=false by simpa using h6,Wa] at er
 cases er
 have k:=k6 h6
 exact ⟨k.1.trans k1.1,k.2.trans k1.2⟩
end
end Go.Sx
namespace Go.Sx
section
variable {N:Nat}
theorem KL.refl (h:Wn):KL h h:=⟨rfl,rfl⟩
theorem KL.trans {a b c:Wn} (h:KL a b) (k:KL b c):KL a c:=⟨k.1.trans h.1,k.2.trans h.2⟩
theorem Xfu (hN:NB N) {h:Wn} (hb:HB h) {a i v:Int} {r:Int×Int} (hf:Qbp N h a i=some r) (h0:r.2=0):∃ h',Qbm N h a i v=some (h',0)/\KL h h':=by
 have hN':=hN
 unfold NB at hN'
 obtain ⟨hp,hat,i0,i1⟩:=(XbH hN hb a i).get_eq hf h0
 have hr:=hat.rng
 have hfit:=VP hp hat
 have hm:=X3 hp.conf (i:=0) (by omega) (by have:=Xi.1 hp.conf;omega)
 have hw:=hp.words
 have hd:=XH (ZT (wd h.Words a))
 unfold szA at hfit
 unfold hdA at *
 have ew:wU (wU (a+1)+wU i)=a+1+i:=by rw[Xv (n:=a+1) (by omega) (by omega),Xv (n:=i) (by omega) (by omega),Xv (by omega) (by omega)]
 rw[Qbm,hf,Xa,show (r.2 != 0)=false by simpa using h0,Wa,ew,VM (by unfold BIG;have:=hb.1;omega) (by omega),Wm (by unfold inW;omega),Xa]
 exact ⟨_,rfl,by rw[Wx],rfl⟩
end
end Go.Sx
namespace Go.Sx
section
variable {N:Nat}
theorem Xfv (hN:NB N) {h:Wn} (hb:HB h) {l:List Int} (e:Qbl N h l=some true):QbH N h=some true:=by
 obtain ⟨g,eg,_⟩:=Kf hN hb
 rw[Qbl,eg,Xa] at e
 cases g with
 | false=>cases e
 | true=>exact eg
theorem Xgq (hN:NB N) {h:Wn} (hb:HB h) (ep:Qab N h=some true) (eg:QbH N h=some true):Ok (Qdl N h) λ r=>∃ l,OD N h l r.1:=by
 have hN':=hN
 unfold NB at hN'
 have hb2:=hb.2
 have hp:=Y3 hN hb ep
 have hg:=(Kf hN hb).get_eq eg rfl
 rw[Qdl,ep,Xa,eg,Xa,Ws,Wa,Wa]
 refine WG (Zt hN hb) λ y _ hy=>WS (by omega) ?_
 refine WG (VS h y (by omega) N 0 h.Pages (by omega) (by omega) (by omega) (SameK.refl _)) λ qs _ hqs=>Wg ?_
 exact ⟨y.1,⟨hb,λ _=>hg,λ _=>hp,hy.1⟩,XeU hb hp hy.1 rfl rfl rfl hqs rfl rfl rfl,rfl,.inl hp⟩
theorem XmL (hN:NB N) {h0:Wn} {w:W0} (hb:HB h0) (hp:UH h0\/h0.Pages=[]) (hc:w.Heap.Conf=h0.Conf) (hw:w.Heap.Words.length=h0.Words.length) (hpl:w.Heap.Pages.length=h0.Pages.length):Ok (QdH N w) λ r=>KL h0 r.Heap/\r.Taken=w.Taken:=by
 have hN':=hN
 unfold NB at hN'
 have hb1:=hb.1
 have hb2:=hb.2
 rw[QdH]
 exact WS (by omega) (WS (by omega) (WG (Xa5 hN hb hp hc N 0 _ _ _ (by omega) (by omega) (by omega) hw hpl) λ r _ hr=>Wg ⟨⟨hr.1,hr.2⟩,rfl⟩))
theorem Xgr (hN:NB N) {h:Wn} (hb:HB h) {rs ws:List Int} (hr:rs.length<=1000000) (hw:ws.length<=1000000):Ok (Qcs N h rs ws) λ r=>r.2.2.2.2=0->KL h r.1:=by
 have hN':=hN
 unfold NB at hN'
 have bad:∀ (a:Wn) (b c:List Int) (d:Us) (e:Int),e≠0->(a,b,c,d,e).2.2.2.2=0->KL h (a,b,c,d,e).1:=λ _ _ _ _ e he hh=>absurd hh he
 rw[Qcs]
 refine WG (Yl (N:=N) (by omega) hb.1 hb.2) λ b ep _=>Wo (λ _=>Wg (bad _ _ _ _ 1 (by decide))) λ hb1=>Is ?_
 have hbt:b=true:=by simpa using hb1
 subst hbt
 refine WG (K2 hN hb hr) λ b2 e2 _=>Wo (λ _=>Wg (bad _ _ _ _ 19 (by decide))) λ hb2=>?_
 have hbt2:b2=true:=by simpa using hb2
 subst hbt2
 have eg:=Xfv hN hb e2
 refine WG (K2 hN hb hw) λ b _ _=>Wo (λ _=>Wg (bad _ _ _ _ 19 (by decide))) λ _=>?_
 refine WG (Xgq hN hb ep eg) λ y4 _ hy4=>?_
 obtain ⟨l,bq⟩:=hy4
 have hs:=bq.st
 refine WG (XeW hN hs hr bq.ci) λ y5 _ hy5=>Wo (λ he=>Wg (bad _ _ _ _ _ (by simpa using he))) λ he=>?_
 obtain ⟨c1,c2,c3⟩:=hy5 (by simpa using he)
 have hsc:=bq.sc
 refine WG (XjZ hN hs c1 (by omega) (by omega)) λ y6 _ hy6=>Wo (λ he=>Wg (bad _ _ _ _ _ (by simpa using he))) λ he=>?_
 have d1:=hy6 (by simpa using he)
 refine WG (XdG hN hs ws hw y5 y6 d1 N 0 _ [] (by omega) (by omega) (by omega) rfl) λ y16 _ hy16=>?_
 have d2:CI h l (W0.mk y6.1.Heap y6.1.Old y6.1.Taken y6.1.Queue y6.1.Scanned (Us.mk y6.1.Report.Copied y6.1.Report.Kept y6.1.Report.Filled y6.1.Report.Freed y16.1 y6.1.Report.Steps)):=by
  obtain ⟨O,s,ho⟩:=d1.obj
  exact ⟨d1.conf,d1.wlen,d1.plen,d1.spc,d1.old,d1.tk,d1.tnd,d1.knd,d1.qnd,⟨O,s,⟨ho.old,ho.queue,ho.fit,ho.apart,ho.taken,ho.free⟩⟩⟩
 refine WG (XgX hN hs d2) λ y17 _ ⟨f1,f2,f3,f4,f5⟩=>?_
 refine WG (XmL hN (h0:=h) hs.hb bq.pr f1 f2 f4) λ y18 _ ⟨g1,g2⟩=>?_
 refine Is (Wo (λ ht=>?_) λ _=>Wg λ _=>g1)
 have ht:0<(y18.Taken.length:Int):=Wr ht
 rw[g2] at ht ⊢
 rw[Xc (by omega) (by omega)]
 exact Ok.get (by omega) (by omega) λ p _=>Wg λ _=>g1
end
end Go.Sx
namespace Go.Sx
section
variable {N:Nat}
theorem Xcf {h:Wn} {a d:Int}:PT (Qb4 N h a d) (KL h):=by
 rw[Qb4]
 exact WN (WA λ _=>WA λ _=>WA λ _=>We ⟨rfl,by show (List.set _ _ _).length=_;rw[Wx]⟩)
theorem Xgs {h:Wn} {pins:List UN} {a:Int}:PT (Qbi N h pins a) λ r=>r.2.2=0->KL h r.1:=by
 rw[Qbi]
 refine WA λ y1=>Wl (We λ e=>by cases e) (Wl (We λ e=>by cases e) (WA λ y2=>Wl (We λ e=>by cases e) (WN (WA λ p3=>WA λ p4=>WA λ p5=>Wl ?_ ?_))))
 ·exact WN (WN (WN (Wt Xcf λ y hy=>We λ _=>hy)))
 ·exact Wt Xcf λ y hy=>We λ _=>hy
theorem UJ {α:Type} {P:α->Prop} {b:Bool} {x y:Option α} (h1:b=true->PT x P) (h2:b=false->PT y P):PT (bif b then x else y) P:=by
 cases b
 ·exact h2 rfl
 ·exact h1 rfl
theorem Xis {h:Wn} {pins:List UN} {a:Int}:PT (Qc4 N h pins a) λ r=>r.2.2.2=0->KL h r.1:=by
 rw[Qc4]
 simp only[XV]
 repeat' first
  | (refine We λ e=>?_;first | assumption | (exfalso;revert e;decide))
  | refine Wt Xcf λ y hy=>?_
  | refine Wl ?_ ?_
  | refine WN ?_
  | refine WA λ _=>?_
end
end Go.Sx
namespace Go.Sx
section
variable {N:Nat} {x:W6}
theorem Xfw {α:Type} {o:Option α} {P:α->Prop} (h:Ok o P):PT o P:=λ r e=>h.get_eq e
theorem XaT (hN:NB N) (hx:EB x):PT (Qa2 N x) λ r=>r.2.2=0->KL x.Heap r.1.Heap:=by
 have hN':=hN
 unfold NB at hN'
 have hr:=hx.roots
 have hp:=hx.pins
 have l1:=ZV hx.loc
 have l2:=YI x.Globals.Entries
 have l3:=YI x.Weaks.Entries
 rw[Qa2]
 refine Wt (Xfw (Kq hN hx)) λ b hv=>UJ (λ _=>We λ e=>?_) λ hb=>?_
 ·exact absurd e (by decide)
 have hv:=hv (by simpa using hb)
 have h64:=hv.mat.len
 refine Wt (Xfw (XbW hN hx)) λ y2 h2=>?_
 rw[YH hx.wea (by omega),Xa]
 refine Wt (Xfw (Xgr hN hx.heap (by omega) (by omega))) λ y4 h4=>UJ (λ hc=>We λ e=>?_) λ hc=>?_
 ·have e':y4.2.2.2.2=0:=e
  rw[e'] at hc;cases hc
 have hk:KL x.Heap y4.1:=h4 (by simpa using hc)
 repeat' first
  | exact We λ _=>hk
  | refine WN ?_
  | refine WA λ _=>?_
end
end Go.Sx
namespace Go.Sx
section
variable {N:Nat} {x:W6}
theorem Xit (hN:NB N) (hx:EB x) {d:Wy} (tm:tW d.Map):PT (Qb2 N x d) λ r=>r.2.2=0->KL x.Heap r.1.Heap:=by
 rw[Qb2]
 simp only[XV]
 refine WA λ b=>UJ (λ _=>We λ e=>?_) λ _=>?_
 ·exact absurd e (by decide)
 refine Wt (Xfw (Xhj hN hx.heap tm)) λ y2 h2=>UJ (λ _=>?_) λ _=>?_
 ·refine Wt (Q:=λ y:W6×Us×Int=>EB y.1/\(y.2.2=0->KL x.Heap y.1.Heap)) (λ r e=>⟨(JM hN hx).get_eq e,XaT hN hx r e⟩) λ y3 h3=>UJ (λ hc=>We λ e=>?_) λ hc=>?_
  ·have e':y3.2.2=0:=e
   rw[e'] at hc;cases hc
  have k3:=h3.2 (by simpa using hc)
  refine Wt (Xfw (Xhj hN h3.1.heap tm)) λ y4 h4=>UJ (λ hc=>We λ e=>?_) λ hc=>We λ _=>?_
  ·have e':y4.2.2=0:=e
   rw[e'] at hc;cases hc
  ·exact k3.trans (h4 (by simpa using hc))
 ·refine UJ (λ hc=>We λ e=>?_) λ hc=>We λ _=>?_
  ·have e':y2.2.2=0:=e
   rw[e'] at hc;cases hc
  ·exact h2 (by simpa using hc)
end
end Go.Sx
namespace Go.Sx
section
variable {N:Nat} {x:W6}
structure SM (x:W6):Prop where
 sc:x.Locals.Scopes.length<=1000
 glo:x.Globals.Entries.length<=1000
 wea:x.Weaks.Entries.length<=1000
 pins:x.Pins.length<=1000
 roots:x.Roots.length<=1000
def KE (x y:W6):Prop:=KL x.Heap y.Heap/\(SM x->SM y)
theorem KE.refl (x:W6):KE x x:=⟨KL.refl _,id⟩
theorem KE.trans {x y z:W6} (h:KE x y) (k:KE y z):KE x z:=⟨h.1.trans k.1,λ s=>k.2 (h.2 s)⟩
def KQ (x:W6) (r:W6×Int×Int):Prop:=r.2.2=0->KE x r.1
theorem Yt {e:Int} (h:(e != 0)=true):PT (bnd (Qac N e) λ y=>some (y.1,y.2.1,y.2.2)) (KQ x):=by
 rw[Qac,Xa]
 exact We λ e'=>by have e':e=0:=e';subst e';cases h
theorem V8 {o:Option (W6×Int×Int)} (h:PT o (KQ x)):PT (bnd o λ y=>some (y.1,y.2.1,y.2.2)) (KQ x):=Wt h λ y hy=>We hy
theorem Xgt {a b:Int}:KQ x (x,a,b):=λ _=>KE.refl _
theorem zz {e:Int} (h:(e != 0)=false):e=0:=by simpa using h
theorem OM {α:Type} {P:α->Prop} {p:Prop} [Decidable p] {o:Option α} (k:p->PT o P):PT (Sx.grd p o) P:=by
 unfold Sx.grd
 split
 ·exact k (by assumption)
 ·exact IJ
theorem Xok (a:Ww) (v:Int):(Vu a v).1.Scopes.length<=a.Scopes.length:=by
 unfold Vu
 repeat' split
 all_goals simp[zL]
theorem Xol (a:Ww) (i g:Int):(Xao a i g).1.Scopes.length<=a.Scopes.length:=by
 unfold Xao
 split<;>simp[zL]
theorem XmM (a:Ww) (c:Int):(Jk a c).1.Scopes.length<=1000:=by
 unfold Jk
 cases hv:Y4 a
 ·simp[zL]
 have:=(Z4.1 hv).sc
 repeat' split
 all_goals simp[zL]
 omega
theorem Xom (a:Ww):(ZG a).1.Scopes.length<=a.Scopes.length:=by
 unfold ZG
 repeat' split
 all_goals simp[zL]
theorem XkK (t:WI) (i g:Int):(JK t i g).1.Entries.length<=t.Entries.length:=by
 unfold JK
 split<;>simp[zT]
theorem XkL {t:WI} (v:Int) (h:t.Entries.length<=1000):(JJ t v).1.Entries.length<=1000:=XbR (k:=0) h v
theorem Xd2 (hN:NB N) (hx:EB x) {v:Int}:PT (Qb3 N x v) (KQ x):=by
 have hN':=hN
 unfold NB at hN'
 rw[Qb3,VV hx.loc (by omega),Xa]
 exact UJ (λ _=>We Xgt) λ _=>UJ (λ h=>Yt h) λ _=>WA λ _=>We λ _=>⟨KL.refl _,λ s=>⟨Ur (Xok _ _) s.sc,s.glo,s.wea,s.pins,s.roots⟩⟩
theorem Xd3 (rs:List Int):∀ (n:Nat) (c k:Int) (v:List Ub),PT (Qa1 N rs n c k v) λ r=>r.length=v.length
 | 0,c,k,v=>IJ
 | n+1,c,k,v=>by
  rw[Qa1]
  refine WN (Wl (WA λ _=>Wl (WA λ _=>WA λ _=>?_) (Xd3 rs n _ _ v)) (We rfl))
  exact λ r e=>(Xd3 rs n _ _ _ r e).trans (Wx ..)
theorem Xhk {t:WI} {rs:List Int}:PT (Qct N t rs) λ r=>r.1.Entries.length<=t.Entries.length:=by
 rw[Qct]
 exact WA λ _=>Wl (We (US _)) (WA λ _=>WN (Wl (We (US _)) (WN (Wt (Xd3 rs N _ _ _) λ y hy=>We (Nat.le_of_eq hy)))))
theorem Xd4 (a:Ww) (rs:List Int):∀ (n:Nat) (c k:Int) (v:List UX),PT (Qa0 N a rs n c k v) (tE (λ r=>r.1.Scopes.length<=a.Scopes.length) λ _=>True)
 | 0,c,k,v=>IJ
 | n+1,c,k,v=>by
  rw[Qa0]
  exact WN (Wl (WA λ _=>Wl (Xd4 a rs n _ _ _) (WA λ _=>Wl (We (US _)) (WA λ _=>WA λ _=>Xd4 a rs n _ _ _))) (We trivial))
theorem XmN {a:Ww} {rs:List Int}:PT (QdI N a rs) λ r=>r.1.Scopes.length<=a.Scopes.length:=by
 rw[QdI]
 exact WA λ _=>Wl (We (US _)) (WA λ _=>Wl (We (US _)) (WN (Oq (Xd4 a rs N _ _ _) (λ r hr=>We hr) λ v _=>We (Uf _))))
theorem XkM (x:W6) (y4:Wn×List Int×List Int×Us×Int) (y5 y6:List Int) (y7:Ww×Int) (y8 y9:WI×Int) (hp:x.Pins.length<=1000000):∀ (n:Nat) (k:Int) (v:List UN),k=v.length->k<=x.Pins.length->PT (QaL N x y4 y5 y6 y7 y8 y9 n k v) λ r=>r.length<=x.Pins.length
 | 0,k,v,_,_=>IJ
 | n+1,k,v,hk,hkp=>by
  rw[QaL]
  refine UJ (λ hc=>WA λ _=>WA λ _=>WN ?_) λ _=>We (by omega)
  have hc:=Wr hc
  rw[Xc (n:=k+1) (by omega) (by omega)]
  exact XkM x y4 y5 y6 y7 y8 y9 hp n _ _ (by rw[Wq];simp;omega) (by omega)
theorem Xfx (hN:NB N) (hx:EB x):PT (Qa2 N x) λ r=>r.2.2=0->KE x r.1:=by
 have main:PT (Qa2 N x) λ r=>SM x->SM r.1:=by
  have z:SM x->SM ⟨zHp,⟨[],[],[]⟩,⟨[]⟩,⟨[]⟩,[],[]⟩:=λ _=>⟨by simp,by simp,by simp,by simp,by simp⟩
  rw[Qa2]
  refine WA λ b=>Wl (We z) (WA λ y2=>WA λ y3=>WA λ y4=>Wl (We z) (WA λ y5=>WA λ y6=>WN (WN (WN (WN (Wt XmN λ y7 h7=>WN (Wt Xhk λ y8 h8=>Wt Xhk λ y9 h9=>Wt (XkM x y4 y5 y6 y7 y8 y9 hx.pins N 0 [] rfl (by omega)) λ y14 h14=>We λ s=>⟨Ur h7 s.sc,Ur h8 s.glo,Ur h9 s.wea,Ur h14 s.pins,?_⟩)))))))
  have:=s.roots
  show (List.take _ _).length<=_
  rw[Wz];omega
 exact λ r e h0=>⟨XaT hN hx r e h0,main r e⟩
theorem Xon (hN:NB N) (hx:EB x) {d:Wy} (tm:tW d.Map):PT (Qb2 N x d) λ r=>r.2.2=0->KE x r.1:=by
 have main:PT (Qb2 N x d) λ r=>SM x->SM r.1:=by
  have z:SM x->SM ⟨zHp,⟨[],[],[]⟩,⟨[]⟩,⟨[]⟩,[],[]⟩:=λ _=>⟨by simp,by simp,by simp,by simp,by simp⟩
  rw[Qb2]
  simp only[XV]
  refine WA λ b=>Wl (We z) (WA λ y2=>Wl (Wt (Xfx hN hx) λ y3 h3=>UJ (λ _=>We z) λ h=>WA λ y4=>Wl (We z) (We λ s=>?_)) (Wl (We z) (We λ s=>⟨s.sc,s.glo,s.wea,s.pins,s.roots⟩)))
  have s':=(h3 (zz h)).2 s
  exact ⟨s'.sc,s'.glo,s'.wea,s'.pins,s'.roots⟩
 exact λ r e h0=>⟨Xit hN hx tm r e h0,main r e⟩
theorem Xde (hN:NB N) {h:Wn} (hb:HB h) {l:List UN} (hl:l.length<=1000000):PT (QbV N h l) λ b=>b=true->l.length<=64:=λ b e hb1=>((JL hN hb hl).get_eq e hb1).len
theorem XkN (hN:NB N) (hx:EB x) {a:Int}:PT (Qbi N x.Heap x.Pins a) λ r=>r.2.2=0->KL x.Heap r.1/\r.2.1.length<=1000:=by
 have main:PT (Qbi N x.Heap x.Pins a) λ r=>r.2.1.length<=1000:=by
  rw[Qbi]
  refine Wt (Xde hN hx.heap hx.pins) λ b hb=>UJ (λ _=>We (US _)) λ hb1=>?_
  have h64:=hb (by simpa using hb1)
  refine Wl (We (US _)) (WA λ y2=>Wl (We (US _)) (WN (WA λ _=>WA λ _=>WA λ _=>Wl (WN (WN (OM λ hg=>WA λ _=>We ?_))) (WA λ _=>We ?_))))
  ·simp only[Wz,Wq,Wx,WO];omega
  ·show (x.Pins.set _ _).length<=_;rw[Wx];omega
 exact λ r e h0=>⟨Xgs r e h0,main r e⟩
theorem XqQ (hN:NB N) (hx:EB x) {a:Int}:PT (Qc4 N x.Heap x.Pins a) λ r=>r.2.2.2=0->KL x.Heap r.1/\r.2.1.length<=1000:=by
 have main:PT (Qc4 N x.Heap x.Pins a) λ r=>r.2.1.length<=1000:=by
  rw[Qc4]
  simp only[XV]
  refine Wt (Xde hN hx.heap hx.pins) λ b hb=>UJ (λ _=>We (US _)) λ hb1=>?_
  have h64:=hb (by simpa using hb1)
  have l1:∀ i p,(x.Pins.set i p).length<=1000:=λ i p=>by rw[Wx];omega
  have l2:∀ p,(x.Pins++[p]).length<=1000:=λ p=>by rw[Wq];simp;omega
  repeat' first
   | exact We (US _)
   | exact We (l1 _ _)
   | exact We (l2 _)
   | refine Wl ?_ ?_
   | refine WN ?_
   | refine WA λ _=>?_
 exact λ r e h0=>⟨Xis r e h0,main r e⟩
theorem XmO (N:Nat) (h:Wn) (a:Int):PT (Qat N h a) λ r=>r.2≠0->r.1.Length=0:=by
 rw[Qat]
 simp only[XV]
 repeat' first
  | (refine We λ e=>?_;first | rfl | (exact absurd rfl e))
  | refine Wl ?_ ?_
  | refine WN ?_
  | refine WA λ _=>?_
theorem XkO (N:Nat) (h:Wn) (a:Int):PT (Qbq N h a) λ r=>r.2≠0->r.1.Length=0:=by
 rw[Qbq]
 refine WA λ b=>Wl (We λ _=>rfl) (Wl (We λ _=>rfl) (Wt (XmO N h a) λ y hy=>Wl (Wl (We λ _=>rfl) (We hy)) (We hy)))
theorem Xoo (hN:NB N) {h:Wn} (hb:HB h) {a i:Int} {y:Wy×Int} (hg:Qbq N h a=some y) (h0:y.2=0) (hi0:0<=i) (hi:i<y.1.Length):∃ v,Qbp N h a i=some (v,0):=by
 have hN':=hN
 unfold NB at hN'
 obtain ⟨hp,_,hat,hh,_⟩:=(Vr hN hb a).get_eq hg h0
 rw[hh] at hi
 have hr:=hat.rng
 have hfit:=VP hp hat
 have hm:=X3 hp.conf (i:=0) (by omega) (by have:=Xi.1 hp.conf;omega)
 have hw:=hp.words
 have hd:=XH (ZT (wd h.Words a))
 unfold szA at hfit
 unfold hdA at *
 have ew:wU (wU (a+1)+wU i)=a+1+i:=by rw[Xv (n:=a+1) (by omega) (by omega),Xv (n:=i) (by omega) (by omega),Xv (by omega) (by omega)]
 rw[Qbp,hg,Xa,show (y.2 != 0)=false by simpa using h0,Wa,Wj (by omega),Wa,hh,Wj (by omega),Wa,ew,ZC (by unfold BIG;have:=hb.1;omega),Xa,Wm (by unfold inW;omega)]
 exact ⟨_,rfl⟩
theorem Xfy (hN:NB N) (hb:HB x.Heap) {a b:Int} (hu:tU b) {c:Bool}:PT (QcJ N x a b c) λ r=>r.2.2=0->∃ v,Qbp N x.Heap r.1 r.2.1=some (v,0):=by
 rw[QcJ]
 refine WA λ y1=>UJ (λ hc=>We λ e=>?_) λ _=>?_
 ·have e:y1.2=0:=e
  rw[e] at hc;cases hc
 refine Wt (Q:=λ y=>Qbq N x.Heap y1.1=some y) (λ r e=>e) λ y2 h2=>UJ (λ _=>We λ e=>absurd e (by decide)) λ h3=>WA λ _=>Wl (We λ e=>absurd e (by decide)) (We λ _=>?_)
 have h3:=WH h3
 obtain ⟨u1,u2⟩:=hu
 have hz:y2.2=0:=by
  by_cases hz:y2.2=0
  ·exact hz
  ·have:=XkO N _ _ _ h2 hz
   rw[this,Xv (by omega) (by omega)] at h3
   omega
 obtain ⟨_,_,_,hh,_⟩:=(Vr hN hb y1.1).get_eq h2 hz
 have hd:=XH (ZT (wd x.Heap.Words y1.1))
 have hl:0<=y2.1.Length/\y2.1.Length<=255:=by rw[hh];unfold hdA;omega
 rw[Xv (by omega) (by omega)] at h3
 show ∃ v,Qbp N x.Heap y1.1 (wI b)=some (v,0)
 rw[Xc (by omega) (by omega)]
 exact Xoo hN hb h2 hz u1 (by omega)
theorem XkP (hN:NB N) (hx:EB x) {op a b c:Int} (hu:tU b):PT (Qdp N x op a b c) (KQ x):=by
 rw[Qdp]
 simp only[XV]
 have main:∀ y:Int×Int×Int,(y.2.2=0->∃ v,Qbp N x.Heap y.1 y.2.1=some (v,0))->∀ v',y.2.2=0->PT (α:=W6×Int×Int) (bnd (Qbm N x.Heap y.1 y.2.1 v') λ y12=>some ((W6.mk y12.1 x.Locals x.Globals x.Weaks x.Pins x.Roots),0,0)) (KQ x):=by
  intro y hy v' h0
  obtain ⟨v,ev⟩:=hy h0
  obtain ⟨h',e',k⟩:=Xfu hN hx.heap (v:=v') ev rfl
  rw[e',Xa]
  exact We λ _=>⟨k,λ s=>⟨s.sc,s.glo,s.wea,s.pins,s.roots⟩⟩
 refine UJ (λ _=>Wt (Xfy hN hx.heap hu) λ y hy=>?_) λ _=>Wt (Xfy hN hx.heap hu) λ y hy=>?_<;>
 exact UJ (λ h=>Yt h) λ h0=>WA λ y7=>UJ (λ _=>We Xgt) λ _=>UJ (λ _=>V8 (Xd2 hN hx)) λ _=>UJ (λ _=>WA λ y9=>UJ (λ h=>Yt h) λ _=>main y hy _ (zz h0)) λ _=>main y hy _ (zz h0)
theorem Xiu (hN:NB N) (hx:EB x) {op a b:Int} (ha:tU a) (hb:tU b):PT (QcP N x op a b) (KQ x):=by
 rw[QcP]
 simp only[XV]
 refine UJ (λ _=>Yt (by decide)) λ _=>Wt (Qgs ha hb) λ y2 h2=>UJ (λ _=>Yt (by decide)) λ _=>WA λ y3=>UJ (λ _=>Yt (by decide)) λ _=>WA λ y5=>UJ (λ h=>Yt h) λ _=>Wt (Q:=λ y:W6×Int×Int=>EB y.1/\(y.2.2=0->KE x y.1)) (λ r e=>⟨(XcW hN hx _).get_eq e,Xon hN hx h2 r e⟩) λ y7 h7=>UJ (λ h=>Yt h) λ h=>Wt (Xd2 hN h7.1) λ y9 h9=>We λ e=>(h7.2 (zz h)).trans (h9 e)
theorem XkQ (hN:NB N) (hx:EB x) {op a b:Int}:PT (Qdq N x op a b) (KQ x):=by
 rw[Qdq]
 simp only[XV]
 repeat' first
  | exact We Xgt
  | exact V8 (Xd2 hN hx)
  | (refine Yt ?_;assumption)
  | (refine UJ (λ h=>?_) λ _=>?_)
  | refine WA λ _=>?_
theorem Xgu (hN:NB N) (hx:EB x) {op a:Int}:PT (Qcu N x op a) (KQ x):=by
 have hN':=hN
 unfold NB at hN'
 rw[Qcu]
 simp only[XV]
 have eW:=KJ (N:=N) (t:=⟨x.Weaks.Entries⟩) hx.wea (by omega)
 have eG:=KJ (N:=N) (t:=⟨x.Globals.Entries⟩) hx.glo (by omega)
 have main1:∀ (c v g w:Int),SM x->∀ r:WI,r.Entries.length<=1000->SM ⟨x.Heap,x.Locals,⟨x.Globals.Entries⟩,⟨r.Entries⟩,x.Pins,x.Roots⟩:=λ _ _ _ _ s r hr=>⟨s.sc,s.glo,hr,s.pins,s.roots⟩
 refine WA λ y1=>UJ (λ h=>Yt h) λ _=>UJ (λ h15=>?_) λ h15=>?_
 ·rw[eW,Xa,h15]
  exact UJ (λ h=>Yt h) λ _=>WA λ _=>We λ _=>⟨KL.refl _,λ s=>⟨s.sc,s.glo,XkL _ s.wea,s.pins,s.roots⟩⟩
 ·rw[eG,Xa,h15]
  exact UJ (λ h=>Yt h) λ _=>WA λ _=>We λ _=>⟨KL.refl _,λ s=>⟨s.sc,XkL _ s.glo,s.wea,s.pins,s.roots⟩⟩
theorem Xiv (hN:NB N) (hx:EB x) {op a:Int}:PT (QcQ N x op a) (KQ x):=by
 have hN':=hN
 unfold NB at hN'
 rw[QcQ]
 simp only[XV,XdI hx.loc (show 1000000<N by omega),J1 hx.glo (show 1000000<N by omega),J1 hx.wea (show 1000000<N by omega),Xa]
 repeat' first
  | exact We λ _=>⟨KL.refl _,λ s=>⟨Ur (Xol _ _ _) s.sc,s.glo,s.wea,s.pins,s.roots⟩⟩
  | exact We λ _=>⟨KL.refl _,λ s=>⟨s.sc,Ur (XkK _ _ _) s.glo,s.wea,s.pins,s.roots⟩⟩
  | exact We λ _=>⟨KL.refl _,λ s=>⟨s.sc,s.glo,Ur (XkK _ _ _) s.wea,s.pins,s.roots⟩⟩
  | (refine Yt ?_;first | assumption | decide)
  | (refine UJ (λ h=>?_) λ _=>?_)
  | refine WA λ _=>?_
theorem Xiw (hN:NB N) (hx:EB x) {op a:Int}:PT (QcR N x op a) (KQ x):=by
 have hN':=hN
 unfold NB at hN'
 rw[QcR,VX hx.loc (by omega),Xa6 hx.loc (by omega)]
 simp only[Xa]
 refine UJ (λ _=>UJ (λ _=>Yt (by decide)) λ _=>UJ (λ h=>Yt h) λ _=>We λ _=>⟨KL.refl _,λ s=>⟨XmM _ _,s.glo,s.wea,s.pins,s.roots⟩⟩) λ _=>WA λ y4=>UJ (λ h=>Yt h) λ _=>UJ (λ h=>Yt h) λ _=>Wt (Xd2 hN (x:=⟨x.Heap,(ZG x.Locals).1,x.Globals,x.Weaks,x.Pins,x.Roots⟩) ⟨hx.heap,Xa7 hx.loc,hx.glo,hx.wea,hx.pins,hx.roots⟩) λ y hy=>We λ e=>?_
 exact KE.trans (y:=⟨x.Heap,(ZG x.Locals).1,x.Globals,x.Weaks,x.Pins,x.Roots⟩) ⟨KL.refl _,λ s=>⟨Ur (Xom _) s.sc,s.glo,s.wea,s.pins,s.roots⟩⟩ (hy e)
theorem XmP (hN:NB N) (hx:EB x) {op a:Int}:PT (QdK N x op a) (KQ x):=by
 rw[QdK]
 refine WA λ y1=>UJ (λ h=>Yt h) λ _=>UJ (λ _=>Wt (XkN hN hx) λ y3 h3=>UJ (λ h=>Yt h) λ h=>We λ _=>⟨(h3 (zz h)).1,λ s=>⟨s.sc,s.glo,s.wea,(h3 (zz h)).2,s.roots⟩⟩) λ _=>Wt (XqQ hN hx) λ y5 h5=>UJ (λ h=>Yt h) λ h=>We λ _=>⟨(h5 (zz h)).1,λ s=>⟨s.sc,s.glo,s.wea,(h5 (zz h)).2,s.roots⟩⟩
theorem XmQ (hN:NB N) (hx:EB x) {op a b c:Int} (ha:tU a) (hb:tU b):PT (QdL N x op a b c) (KQ x):=by
 rw[QdL]
 simp only[XV]
 refine WA λ b1=>UJ (λ _=>Yt (by decide)) λ _=>?_
 repeat' first
  | exact Yt (by decide)
  | exact V8 (Xiu hN hx ha hb)
  | exact V8 (XkP hN hx hb)
  | exact V8 (XkQ hN hx)
  | exact V8 (Xgu hN hx)
  | exact V8 (Xiv hN hx)
  | exact V8 (Xiw hN hx)
  | exact V8 (XmP hN hx)
  | refine Wl ?_ ?_
theorem Xpr (hN:NB N) {p:Ig} (hx:EB p.Env) {d:Oj} (td:XbD d):PT (QbP N p d) λ r=>KE p.Env r.1.Env:=by
 rw[QbP]
 simp only[XV]
 refine UJ (λ _=>Wt (Xfx hN hx) λ y1 h1=>UJ (λ h=>WA λ y2=>We (h1 (by simpa using h))) λ _=>We (KE.refl _)) λ _=>?_
 refine Wt (XmQ hN hx td.1 td.2.1) λ y26 h26=>WA λ _=>WA λ y28=>?_
 repeat' first
  | exact We (KE.refl _)
  | exact We (h26 (by simpa using ‹(y26.2.2==0)=true›))
  | (refine UJ (λ h=>?_) λ _=>?_)
  | refine WN ?_
end
end Go.Sx
namespace Go.Sx
section
variable {N:Nat}
def NE (h:Wn):Prop:=1<=h.Words.length/\1<=h.Pages.length
theorem KL.ne {a b:Wn} (k:KL a b) (h:NE a):NE b:=⟨by rw[k.1];exact h.1,by rw[k.2];exact h.2⟩
theorem Xop {t:UU}:PT (Qc8 N t) λ r=>XZ r.1=true:=by
 rw[Qc8]
 refine WA λ y1=>Wt (Q:=λ p=>p∈([16,16,20,32]:List Int)) (λ r e=>Yp e) λ p hp=>WA λ y3=>Wt (Q:=λ p=>p∈([8,12,16,20,24]:List Int)) (λ r e=>Yp e) λ q hq=>We ?_
 simp only[UB,I4,or_false] at hp hq
 rcases hp with rfl | rfl | rfl | rfl<;>rcases hq with rfl | rfl | rfl | rfl | rfl<;>(show XZ ⟨_,_⟩=true;decide)
theorem XkR {c:WT} (hv:XZ c=true):PT (Qeg N c) λ r=>NE r.1.Heap/\SM r.1:=by
 rw[Qeg,Qfl,Yy,Xa,hv,Ws,Wa]
 have hvc:=Xi.1 hv
 have hm:=X3 hv (i:=0) (by omega) (by omega)
 have e:=Xc (n:=c.Pages*c.PageWords) (by omega) (by omega)
 have h1:1*1<=c.Pages*c.PageWords:=Int.mul_le_mul (by omega) (by omega) (by omega) (by omega)
 refine Wt (Q:=λ r:Wn×Int=>NE r.1) (WN (WN (We ⟨?_,?_⟩))) λ y hy=>We ⟨hy,by simp,by simp,by simp,by simp,by simp⟩
 ·show 1<=(List.replicate _ _).length;rw[WC,e];omega
 ·show 1<=(List.replicate _ _).length;rw[WC];omega
theorem XkS {t:UU}:PT (Qbo N t) λ r=>NE r.1.Env.Heap/\SM r.1.Env:=by
 rw[Qbo]
 exact Wt Xop λ y1 h1=>Wt (XkR h1) λ y2 h2=>WA λ y3=>WA λ y4=>We ⟨h2.1,by simp,h2.2.glo,h2.2.wea,h2.2.pins,h2.2.roots⟩
theorem Xhl (hN:NB N):∀ (n:Nat) (i:Int) (t:UU) (p:Ig) (k:Nat),0<=i->i<=60->(60-i).toNat<n->(k:Int)=i->PB k p->NE p.Env.Heap/\SM p.Env->TA (10+20*i) t ->
 Ok (QeC N 60 n i t.L t.at_ p.Env.Heap.Conf.PageWords p.Env.Heap.Conf.Pages p.Env.Heap.Words p.Env.Heap.Pages p.Env.Heap.Space p.Env.Heap.Bump p.Env.Locals.Slots p.Env.Locals.Scopes p.Env.Locals.Issued p.Env.Globals.Entries p.Env.Weaks.Entries p.Env.Pins p.Env.Roots p.World.Conf.PageWords p.World.Conf.Pages p.World.Things p.World.Locals.Slots p.World.Locals.Scopes p.World.Locals.Issued p.World.Globals.Entries p.World.Weaks.Entries p.World.Marks p.World.Roots p.Words) λ r=>∃ (p':Ig) (k':Nat),k'<=60/\PB k' p'/\(NE p'.Env.Heap/\SM p'.Env)/\r=(p'.Env.Heap.Conf.PageWords,p'.Env.Heap.Conf.Pages,p'.Env.Heap.Words,p'.Env.Heap.Pages,p'.Env.Heap.Space,p'.Env.Heap.Bump,p'.Env.Locals.Slots,p'.Env.Locals.Scopes,p'.Env.Locals.Issued,p'.Env.Globals.Entries,p'.Env.Weaks.Entries,p'.Env.Pins,p'.Env.Roots,p'.World.Conf.PageWords,p'.World.Conf.Pages,p'.World.Things,p'.World.Locals.Slots,p'.World.Locals.Scopes,p'.World.Locals.Issued,p'.World.Globals.Entries,p'.World.Weaks.Entries,p'.World.Marks,p'.World.Roots,p'.Words)
 | 0,i,t,p,k,_,_,hn,_,_,_,_=>by omega
 | n+1,i,t,p,k,h0,hi,hn,hk,hp,hq,ht=>by
  rw[QeC]
  refine Wo (λ hc=>?_) λ _=>Wg ⟨p,k,by omega,hp,hq,rfl⟩
  have hc:i<60:=Wr hc
  rw[Qfx,Xa]
  refine Wo (λ _=>?_) λ _=>Wg ⟨p,k,by omega,hp,hq,rfl⟩
  have w1:=hp.w1
  have w2:=hp.w2
  have dty:=λ r (e:QcF N p t=some r)=>Qh2 (N:=N) hp.ty r e
  rw[Xc (n:=i+1) (by omega) (by omega)]
  refine WG (Xmt (p:=p) (t:=t) w1 (by omega) ht (by omega)) λ y e hy=>?_
  refine WG (Xph hN hp (by omega) (dty y e)) λ z ez hz=>?_
  have kz:=Xpr hN hp.env (dty y e) z ez
  exact Xhl hN n (i+1) y.2 z.1 (k+1) (by omega) (by omega) (by omega) (by omega) hz ⟨kz.1.ne hq.1,kz.2 hq.2⟩ (hy.le (by omega))
theorem Xdf (hN:NB N) (l:List Int):Ok (Qf4 N l 60) λ p=>∃ k,k<=60/\PB k p/\NE p.Env.Heap/\SM p.Env:=by
 have hN':=hN
 unfold NB at hN'
 rw[Qf4]
 refine WG (Xkf (m:=0) ⟨by simp,by simp⟩ (by omega)) λ y ey hy=>Ud (Xhl hN N 0 y.2 y.1 0 (by omega) (by omega) (by omega) rfl hy.1 (XkS y ey) (hy.2.le (by omega))) λ z hz=>Wg ?_
 obtain ⟨p',k',h1,h2,h3,rfl⟩:=hz
 exact ⟨k',h1,h2,h3⟩
theorem Xcg (hN:NB N) (w:Ii) (y:Int×UU):∀ (n:Nat) (k:Int) (v:List Wv),0<=k->k<=v.length->(v.length-k).toNat<n->v.length<=100000->Ok (QbG N w y n k v) λ r=>r.length<=100000
 | 0,k,v,_,_,hn,_=>by omega
 | n+1,k,v,h0,hk,hn,hv=>by
  rw[QbG]
  refine WS (by omega) (Wo (λ hc=>?_) λ _=>Wg hv)
  have hc:k<v.length:=Wr hc
  rw[Xc (n:=k+1) (by omega) (by omega)]
  refine Ok.get h0 hc λ p _=>Wo (λ _=>Ok.get h0 hc λ p _=>?_) λ _=>Xcg hN w y n _ v (by omega) (by omega) (by omega) hv
  exact Xcg hN w y n _ _ (by omega) (by rw[Wx];omega) (by rw[Wx];omega) (by rw[Wx];omega)
theorem XkT (hN:NB N) {h:Wn} (hb:HB h) (hne:NE h) {t:UU} (ht:TA 10 t):Ok (Qcw N ⟨h,[],[]⟩ t) λ r=>HB r.1.Heap:=by
 have hN':=hN
 unfold NB at hN'
 obtain ⟨b1,b2⟩:=hb
 obtain ⟨n1,n2⟩:=hne
 have sw:∀ (c:WT) (i:Nat) (v:Int) (s b:Int),HB ⟨c,h.Words.set i v,h.Pages,s,b⟩:=λ c i v s b=>⟨by show (List.set _ _ _).length<=_;rw[Wx];exact b1,b2⟩
 have sp:∀ (c:WT) (i:Nat) (v:Wv) (s b:Int),HB ⟨c,h.Words,h.Pages.set i v,s,b⟩:=λ c i v s b=>⟨b1,by show (List.set _ _ _).length<=_;rw[Wx];exact b2⟩
 have sn:∀ (c:WT) (s b:Int),HB ⟨c,h.Words,h.Pages,s,b⟩:=λ c s b=>⟨b1,b2⟩
 rw[Qcw]
 dsimp only
 refine WS (by omega) (WS (by omega) (WS (by omega) ?_))
 refine Ud (nxp ht (by omega) (by omega) (by omega)) λ y1 h1=>WS (by omega) (Ud (nxp h1.2.2 (by omega) (by omega) (by omega)) λ y2 h2=>Ud (nxp h2.2.2 (by omega) (by omega) (by omega)) λ y3 h3=>?_)
 have next:∀ {a:Int},1<=a->a<=1000000000->Ok (Qaa N y3.2 a) λ r=>0<=r.1/\r.1<a:=λ a1 a2=>(nxp h3.2.2 (by omega) a1 a2).mono λ r hr=>⟨hr.1,hr.2.1⟩
 have gw:∀ {β:Type} {P:β->Prop} {f:Int->Option β},(∀ p,Ok (f p) P)->Ok (bnd (Xb h.Words y1.1) f) P:=λ k=>Ok.get h1.1 h1.2.1 λ p _=>k p
 have gp:∀ {β:Type} {P:β->Prop} {f:Wv->Option β},(∀ p,Ok (f p) P)->Ok (bnd (Xb h.Pages y2.1) f) P:=λ k=>Ok.get h2.1 h2.2.1 λ p _=>k p
 refine I6 (λ x4=>?_) λ j hj=>Ua (hj _) (hj _)
 refine Ua (Ud (next (by omega) (by omega)) λ y5 h5=>Ok.get h5.1 h5.2 λ _ _=>gw λ _=>Wg (sw _ _ _ _ _)) ?_
 refine Ua (gw λ _=>Ud (next (by omega) (by omega)) λ y9 h9=>WS (by rw[Xv h9.1 (by omega)];exact h9.1) (gw λ _=>Wg (sw _ _ _ _ _))) ?_
 refine Ua (Ud (next (by omega) (by omega)) λ _ _=>gp λ _=>Wg (sp _ _ _ _ _)) ?_
 refine Ua (Ud (next (by omega) (by omega)) λ _ _=>gp λ _=>Wg (sp _ _ _ _ _)) ?_
 refine Ua (gp λ _=>Ud (next (by omega) (by omega)) λ _ _=>gp λ _=>Wg (sp _ _ _ _ _)) ?_
 refine Ua (Ud (next (by omega) (by omega)) λ _ _=>gp λ _=>Wg (sp _ _ _ _ _)) ?_
 refine Ua (Ud (next (by omega) (by omega)) λ _ _=>Wg (sn _ _ _)) ?_
 refine Ua (WS (by omega) ?_) ?_
 ·rw[Xc (n:=((h.Pages.length:Nat):Int)+2) (by omega) (by omega)]
  exact Ud (next (by omega) (by omega)) λ _ _=>Wg (sn _ _ _)
 refine Ua (Wg (sn _ _ _)) ?_
 refine Ua (WS (by omega) (Wg ⟨b1,by show (List.take _ _).length<=_;simp only[Wz,WO];omega⟩)) ?_
 exact Ua (Ud (Xcg hN _ y3 N 0 h.Pages (by omega) (by omega) (by omega) b2) λ r hr=>Wg ⟨b1,hr⟩) (Wg (sn _ _ _))
theorem Xch {α:Type} {l:List α} {a:α} {m:Nat} (h:l.length<=1000) (hm:1001<=m):(l++[a]).length<=m:=by rw[Wq];simp;omega
theorem XmR (hN:NB N) {x:W6} (hx:EB x) (hne:NE x.Heap) (hs:SM x) (l:List Int):Ok (Qfr N x ⟨l,0⟩) λ r=>EB r.1:=by
 have hN':=hN
 unfold NB at hN'
 obtain ⟨s1,s2,s3,s4,s5⟩:=hs
 obtain ⟨l1,l2,l3⟩:=hx.loc
 rw[Qfr]
 refine Ud (nxp (m:=0) ⟨by simp,by simp⟩ (by omega) (by omega) (by omega)) λ y1 h1=>?_
 have n1:∀ {a:Int},1<=a->a<=1000000000->Ok (Qaa N y1.2 a) λ r=>0<=r.1/\r.1<a/\TA 2 r.2:=λ a1 a2=>(nxp h1.2.2 (by omega) a1 a2).mono λ r hr=>⟨hr.1,hr.2.1,hr.2.2.le (by omega)⟩
 have n2:∀ {t:UU} {a:Int},TA 2 t->1<=a->a<=1000000000->Ok (Qaa N t a) λ r=>True:=λ ht a1 a2=>(nxp ht (by omega) a1 a2).mono λ r hr=>trivial
 refine Ua (Ud (XkT hN hx.heap hne (h1.2.2.le (by omega))) λ r hr=>Wg ⟨hr,hx.loc,hx.glo,hx.wea,hx.pins,hx.roots⟩) ?_
 refine Ua (WS (by omega) (Ud (n1 (by omega) (by omega)) λ _ _=>WS (by omega) (Wg ⟨hx.heap,hx.loc,hx.glo,hx.wea,hx.pins,Xch s5 (by omega)⟩))) ?_
 refine Ua (Wo (λ hc=>?_) λ _=>Wg hx) ?_
 ·have hc:=Wr hc
  exact WS (by omega) (Ud (n1 (by omega) (by omega)) λ y4 h4=>Ok.get h4.1 h4.2.1 λ _ _=>Ud (n2 h4.2.2 (by omega) (by omega)) λ _ _=>Ok.get h4.1 h4.2.1 λ _ _=>Wg ⟨hx.heap,⟨by show (List.set _ _ _).length<=_;rw[Wx];exact l1,l2,l3⟩,hx.glo,hx.wea,hx.pins,hx.roots⟩)
 refine Ua (WS (by omega) (Ud (n1 (by omega) (by omega)) λ y h=>Ud (n2 h.2.2 (by omega) (by omega)) λ _ _=>WS (by omega) (Wg ⟨hx.heap,hx.loc,Xch s2 (by omega),hx.wea,hx.pins,hx.roots⟩))) ?_
 refine Ua (WS (by omega) (Ud (n1 (by omega) (by omega)) λ y h=>Ud (n2 h.2.2 (by omega) (by omega)) λ _ _=>WS (by omega) (Wg ⟨hx.heap,hx.loc,hx.glo,Xch s3 (by omega),hx.pins,hx.roots⟩))) ?_
 refine Ua (WS (by omega) (Ud (n1 (by omega) (by omega)) λ y h=>Ud (n2 h.2.2 (by omega) (by omega)) λ _ _=>WS (by omega) (Wg ⟨hx.heap,hx.loc,hx.glo,hx.wea,Xch s4 (by omega),hx.roots⟩))) ?_
 refine Ua (WS (by omega) (Ud (n1 (by omega) (by omega)) λ y h=>Ud (n2 h.2.2 (by omega) (by omega)) λ _ _=>WS (by omega) (Wg ⟨hx.heap,⟨l1,Xch s1 (by omega),l3⟩,hx.glo,hx.wea,hx.pins,hx.roots⟩))) ?_
 exact Wg ⟨hx.heap,hx.loc,hx.glo,hx.wea,by simp,hx.roots⟩
theorem XmS (hN:NB N) {raw:W6} (tr:XY raw) (tape odd:List Int):Ok (Qgc N raw tape odd) λ l=>l.length<=3/\∀ x∈l,ET x:=by
 rw[Qgc]
 refine Ud (Xdf hN tape) λ p hp=>?_
 obtain ⟨k,hk,hp,hne,hs⟩:=hp
 have e1:ET p.Env:=⟨hp.env,hp.ty.1.1⟩
 refine WG (XmR hN hp.env hne hs odd) λ y ey hy=>?_
 have e2:ET y.1:=⟨hy,(Qkk hp.ty.1 y ey).1⟩
 refine Ud (Xin raw) λ b hb=>Wo (λ h=>Wg ⟨by simp,?_⟩) λ _=>Wg ⟨by simp,?_⟩
 ·have e3:ET raw:=⟨hb h,tr.1⟩
  simp only[UB,I4,or_false]
  rintro x (rfl | rfl | rfl)
  ·exact e1
  ·exact e2
  ·exact e3
 ·simp only[UB,I4,or_false]
  rintro x (rfl | rfl)
  ·exact e1
  ·exact e2
end
end Go.Sx
namespace Go.Sx
section
variable {N:Nat}
theorem Xix {w:Int} (tw:tU w) {l:List Int} (tl:tL tU l):∀ v∈([w,w.tmod 4194304,wU (w.tmod 5+262145)]++l),tU v:=by
 intro v hv
 obtain ⟨w0,w1⟩:=tw
 have a1:=Int.tmod_nonneg 4194304 w0
 have a2:=Int.tmod_lt_of_pos w (show (0:Int)<4194304 by omega)
 rcases WJ.1 hv with h | h
 ·simp only[UB,I4,or_false] at h
  rcases h with rfl | rfl | rfl
  ·exact ⟨w0,w1⟩
  ·exact ⟨a1,by omega⟩
  ·exact VK _
 ·exact tl v h
theorem Xoq (hN:NB N) {w:Int} (tw:tU w) {p:Ig} (tp:tL tU p.Words) (hl:p.Words.length<=100) {x:W6} (hx:ET x) (l:List W6) (v3:Int):Qa6 N w p l x v3 N 0=some (.nxt ()):=by
 have hN':=hN
 unfold NB at hN'
 have ht:=Xix tw tp
 refine XkB (F:=Qa6 N w p l x v3) (L:=3+p.Words.length) (u:=()) (λ n k hk=>?_) (λ n=>by rw[Qa6,Wj (by omega),Wa]) (by omega)
 have hk':k<([w,w.tmod 4194304,wU (w.tmod 5+262145)]++p.Words).length:=by rw[Wq];simp;omega
 have tv:=ht _ (WV hk')
 obtain ⟨r,er,_⟩:=YL hN hx.eb (([w,w.tmod 4194304,wU (w.tmod 5+262145)]++p.Words)[k])
 rw[Qa6,Wh (by omega),Wc,Xd,Wd hk',Xa,XkA hN hx tv,er,Xa,Xa,show (r.1 != r.1)=false by simp,show (r.2 != r.2)=false by simp,Wa,Wa,Xh (by omega)]
theorem Xor (hN:NB N) {w:Int} (tw:tU w) {p:Ig} (tp:tL tU p.Words) (hp:p.Words.length<=100) {l:List W6} (hl:l.length<=3) (hx:∀ x∈l,ET x):Qa7 N w p l N 0=some (.nxt ()):=by
 have hN':=hN
 unfold NB at hN'
 refine XkB (F:=Qa7 N w p l) (L:=l.length) (u:=()) (λ n k hk=>?_) (λ n=>by rw[Qa7,Wj (by omega),Wa]) (by omega)
 rw[Qa7,Wh (by omega),Wc,Xd,Wd hk,Xa,Xe (by omega),Xoq hN tw tp hp (hx _ (WV hk)),Xa,Xr,Xh (by omega)]
theorem XaA (hN:NB N) {raw:W6} (tr:XY raw) (tape odd:List Int) {w:Int} (tw:tU w):QdG N raw tape odd w=some true:=by
 obtain ⟨p,ep,k,hk,hp,hne,hs⟩:=Xdf hN tape
 obtain ⟨l,el,hl,hx⟩:=XmS hN tr tape odd
 obtain ⟨m,rfl⟩:∃ m,N=m+400:=⟨N-400,by unfold NB at hN;omega⟩
 have:=hp.w2
 rw[QdG,ep,Xa,Xe (by omega),el,Xa,Xor hN tw hp.ty.2.2 (by omega) hl hx,Xa,Xr,XdW,Xa]
end
end Go.Sx
