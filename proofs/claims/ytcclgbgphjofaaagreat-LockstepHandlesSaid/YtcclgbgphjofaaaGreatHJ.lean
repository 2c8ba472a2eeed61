import Derived.Test.YtcclgbgphjofaaaGreatHI
set_option linter.all false
namespace Go.Sx
structure ON(r:Int->Int->Prop)(a b:WD):Prop where
 sc:b.x=a.x
 is_:b.i=a.i
 sl:R2 (sR r) a.S b.S
def Zr(r:Int->Int->Prop):Prop:=∀x y,r x y->(y=0↔x=0)
section
variable {r:Int->Int->Prop}{a b:WD}{x y i g:Int}{s t:W4}
def R2.none{α β:Type}{r:α->β->Prop}{l:List α}{m:List β}(h:R2 r l m){k:Nat}(e:l[k]? = none):m[k]? = none:=by rw[List.getElem?_eq_none_iff]at e⊢;rw[h.1];exact e
def Xe8(hz:Zr r)(h:ON r a b):(Yx b i g).2=(Yx a i g).2/\((Yx a i g).2=0->r (Yx a i g).1 (Yx b i g).1):=by
 unfold Yx;rw[Ky hz h.sc h.is_ h.sl,h.is_,h.sl.1];split
 .exact⟨rfl,λe=>absurd e ab⟩
 split
 .exact⟨rfl,λe=>absurd e ab⟩
 split
 .exact⟨rfl,λe=>absurd e ab⟩
 split
 .exact⟨rfl,λe=>absurd e ab⟩
 cases e:a.S[i.toNat]? with
 |none=>rw[h.sl.none e];exact⟨rfl,λe=>absurd e ab⟩
 |some p=>
  obtain⟨q,eq,hq⟩:=h.sl.get e;rw[eq];dsimp only;rw[hq.1,hq.2.1];split
  .exact⟨rfl,λe=>absurd e ab⟩
  cases hl:p.V with
  |false=>exact⟨rfl,λe=>absurd e ab⟩
  |true=>exact⟨rfl,λ_=>hq.2.2.1 hl⟩
def Xci{l m:List Ul}(h:R2 (eR r) l m):(Yw m i g).2=(Yw l i g).2/\((Yw l i g).2=0->r (Yw l i g).1 (Yw m i g).1):=by
 unfold Yw;rw[KP h,h.1];split
 .exact⟨rfl,λe=>absurd e ab⟩
 split
 .exact⟨rfl,λe=>absurd e ab⟩
 cases e:l[i.toNat]? with
 |none=>rw[h.none e];exact⟨rfl,λe=>absurd e ab⟩
 |some p=>
  obtain⟨q,eq,hq⟩:=h.get e;rw[eq];dsimp only;rw[hq.1,hq.2.1];split
  .exact⟨rfl,λe=>absurd e ab⟩
  split
  .exact⟨rfl,λe=>absurd e ab⟩
  cases hl:p.V with
  |false=>exact⟨rfl,λe=>absurd e ab⟩
  |true=>exact⟨rfl,λ_=>hq.2.2.1 hl⟩
def XhG{l m:List UW}(h:R2 (sR r) l m)(f t:Nat):YL m f t=YL l f t:=by unfold YL;exact R2.countP (((h.drop f).take (t-f)).mono λ_ _ q=>q.2.1)
def Xf8(h:ON r a b):Z9 b=Z9 a:=by unfold Z9;rw[h.sc]
def Xk6(hz:Zr r)(h:ON r a b)(hxy:r x y):(Yh b y).2=(Yh a x).2/\((Yh a x).2.2.2=0->ON r (Yh a x).1 (Yh b y).1):=by
 have e0:=hz x y hxy;unfold Yh;rw[Ky hz h.sc h.is_ h.sl,h.sc,Xf8 h,h.sl.1,h.is_,XhG h.sl];split
 .exact⟨rfl,λe=>absurd e ab⟩
 by_cases hx:x=0
 .rw[Wj hx,Wj (e0.2 hx)];exact⟨rfl,λe=>absurd e ab⟩
 rw[Wg hx,Wg (λh=>hx (e0.1 h))];split
 .exact⟨rfl,λe=>absurd e ab⟩
 split
 .exact⟨rfl,λe=>absurd e ab⟩
 split
 .exact⟨rfl,λe=>absurd e ab⟩
 exact⟨rfl,λ_=>⟨rfl,rfl,h.sl.snoc ⟨rfl,rfl,λ_=>hxy,λe=>by cases e⟩⟩⟩
def Xk7(hz:Zr r)(h:ON r a b):(Z2 b i g).2=(Z2 a i g).2/\((Z2 a i g).2=0->ON r (Z2 a i g).1 (Z2 b i g).1):=by
 have q:=Xe8 (i:=i) (g:=g) hz h;unfold Z2;rw[q.1];split
 .rename_i hn;exact⟨rfl,λe=>absurd e hn⟩
 exact⟨rfl,λ_=>⟨h.sc,h.is_,h.sl.set _ ⟨rfl,rfl,λe=>(by cases e),λ_=>rfl⟩⟩⟩
def XiH(hz:Zr r)(h:ON r a b):(Y6 b i).2=(Y6 a i).2/\((Y6 a i).2=0->ON r (Y6 a i).1 (Y6 b i).1):=by
 unfold Y6;rw[Ky hz h.sc h.is_ h.sl,h.sc,h.sl.1];split
 .exact⟨rfl,λe=>absurd e ab⟩
 split
 .exact⟨rfl,λe=>absurd e ab⟩
 split
 .exact⟨rfl,λe=>absurd e ab⟩
 exact⟨rfl,λ_=>⟨rfl,h.is_,h.sl⟩⟩
def Xk8(hz:Zr r)(h:ON r a b):(Yt b).2=(Yt a).2/\((Yt a).2=0->ON r (Yt a).1 (Yt b).1):=by
 unfold Yt;rw[Ky hz h.sc h.is_ h.sl,h.sc,Xf8 h];split
 .exact⟨rfl,λe=>absurd e ab⟩
 split
 .exact⟨rfl,λe=>absurd e ab⟩
 split
 .exact⟨rfl,λe=>absurd e ab⟩
 exact⟨rfl,λ_=>⟨rfl,h.is_,h.sl.take _⟩⟩
def Xbe{α β:Type}{p:α->Bool}{q:β->Bool}:∀{l:List α} {m:List β},R2 (λa b=>q b=p a) l m->m.findIdx? q=l.findIdx? p
 |[],m,h=>by
  have:=h.1;cases m with
  |nil=>rfl
  |cons b m=>simp at this
 |a::l,m,h=>by obtain⟨b,m',rfl,h1,h2⟩:=h.unc;rw[IY,IY,h1,Xbe h2]
def Xe9(h:R2 (eR r) s.e t.e)(hxy:r x y):(YF t y).2=(YF s x).2/\((YF s x).2.2.2=0->R2 (eR r) (YF s x).1.e (YF t y).1.e):=by
 have ef:Xcw t.e=Xcw s.e:=Xbe (h.mono λa b q=>by rw[q.1,q.2.1]);unfold YF;rw[KP h,ef,h.1];split
 .exact⟨rfl,λe=>absurd e ab⟩
 cases e:Xcw s.e with
 |none=>
  dsimp only;split
  .exact⟨rfl,λe=>absurd e ab⟩
  exact⟨rfl,λ_=>h.snoc ⟨rfl,rfl,λ_=>hxy,λe=>by cases e⟩⟩
 |some k=>
  have eg:(t.e.getD k ⟨0,0,false⟩).G=(s.e.getD k ⟨0,0,false⟩).G:=by
   rw[We,We];cases e1:s.e[k]? with
   |none=>rw[h.none e1]
   |some p=>obtain⟨q,e2,hq⟩:=h.get e1;rw[e2];exact hq.1
  dsimp only;rw[eg];exact⟨rfl,λ_=>h.set k ⟨rfl,rfl,λ_=>hxy,λe=>by cases e⟩⟩
def Xfa(h:R2 (eR r) s.e t.e):(Zh t i g).2=(Zh s i g).2/\((Zh s i g).2=0->R2 (eR r) (Zh s i g).1.e (Zh t i g).1.e):=by
 have q:=Xci (i:=i) (g:=g) h;unfold Zh;rw[q.1];split
 .rename_i hn;exact⟨rfl,λe=>absurd e hn⟩
 exact⟨rfl,λ_=>h.set _ ⟨rfl,rfl,λe=>(by cases e),λ_=>rfl⟩⟩
def XhH(h:(YF t x).2.2.2=0):X8 (YF t x).1.e=true/\∀r∈Xp (YF t x).1.e,r∈Xp t.e\/r=x:=by
 unfold YF at h⊢;by_cases hv:X8 t.e=false
 .rw[Wj hv]at h;exact absurd h ae
 rw[Wg hv]at h⊢;have hv:X8 t.e=true:=by simpa using hv
 have hv':=hv;unfold X8 at hv';rw[Wr,WP,decide_eq_true_iff]at hv';have lt:∀{e:Ul} {l:List Ul},e∈l->e.V=true->e.a∈Xp l:=λhe hl=>WG.2 ⟨_,W6.2 ⟨he,hl⟩,rfl⟩;have tl:∀{q:Int} {l:List Ul},q∈Xp l->∃e∈l,e.V=true/\e.a=q:=λhq=>by obtain⟨e,he,rfl⟩:=WG.1 hq;exact⟨e,(W6.1 he).1,(W6.1 he).2,rfl⟩
 cases e:Xcw t.e with
 |none=>
  rw[e]at h;dsimp only at h⊢;by_cases h64:t.e.length=64
  .rw[Wj h64]at h;exact absurd h ae
  rw[Wg h64];refine⟨?_,λq hq=>?_⟩
  .unfold X8;rw[Wr,WP,decide_eq_true_iff];refine⟨λz hz=>?_,ah⟩;rcases Ws.1 hz with hz|hz
   .exact hv'.1 z hz
   rw[WM.1 hz];rfl
  obtain⟨z,hz,hl,rfl⟩:=tl hq;rcases Ws.1 hz with hz|hz
  .exact .inl (lt hz hl)
  rw[WM.1 hz];exact .inr rfl
 |some k=>
  have hk:=e;unfold Xcw at hk;rw[U0]at hk;obtain⟨hlt,hp,_⟩:=hk;rw[Wr,decide_eq_true_iff]at hp;have hgd:t.e.getD k ⟨0,0,false⟩=t.e[k]:=by rw[We,Wb hlt];rfl
  dsimp only;rw[hgd];have hg:=hv'.1 _ (Wt hlt);unfold Jz at hg;simp only[Wr,UE,UR]at hg;refine⟨?_,λq hq=>?_⟩
  .unfold X8;rw[Wr,WP,decide_eq_true_iff];refine⟨λz hz=>?_,by rw[Ww];exact hv'.2⟩;rcases W7 hz with hz|hz
   .exact hv'.1 z hz
   rw[hz];unfold Jz;simp;omega
  obtain⟨z,hz,hl,rfl⟩:=tl hq;rcases W7 hz with hz|hz
  .exact .inl (lt hz hl)
  rw[hz];exact .inr rfl
def XhI(h:(Zh t i g).2=0):X8 (Zh t i g).1.e=true/\∀r∈Xp (Zh t i g).1.e,r∈Xp t.e:=by
 unfold Zh at h⊢;by_cases hg:(Yw t.e i g).2=0;rotate_left
 .rw[Wj hg]at h;exact absurd h hg
 rw[Wg (by simp[hg])];have ok:=Vd hg;obtain⟨hv,_,p,hp,ep,_,_⟩:=ok;have hv':=hv;unfold X8 at hv';rw[Wr,WP,decide_eq_true_iff]at hv';have hgn:=hv'.1 p (WW hp);unfold Jz at hgn;simp only[Wr,UE,UR]at hgn;refine⟨?_,λq hq=>?_⟩
 .unfold X8;rw[Wr,WP,decide_eq_true_iff];refine⟨λz hz=>?_,by show(t.e.set _ _).length<=64;rw[Ww];exact hv'.2⟩;rcases W7 hz with hz|hz
  .exact hv'.1 z hz
  rw[hz];unfold Jz;simp;omega
 obtain⟨z,hz,rfl⟩:=WG.1 hq;have hz2:=W6.1 hz;rcases W7 hz2.1 with h1|h1
 .exact WG.2 ⟨z,W6.2 ⟨h1,hz2.2⟩,rfl⟩
 rw[h1]at hz2;cases hz2.2
def Xk9(l m:List UW):XC (l++m)=XC l++XC m:=by unfold XC;rw[Oe,UV]
def Xla{l:List UW}{k:Nat}{s:UW}(hs:s.V=false):∀q∈XC (l.set k s),q∈XC l:=λq hq=>by
 obtain⟨z,hz,rfl⟩:=WG.1 hq;have hz2:=W6.1 hz;rcases W7 hz2.1 with h1|h1
 .exact WG.2 ⟨z,W6.2 ⟨h1,hz2.2⟩,rfl⟩
 rw[h1,hs]at hz2;cases hz2.2
def XiI{l:List UW}{k:Nat}:∀q∈XC (l.take k),q∈XC l:=λq hq=>by obtain⟨z,hz,rfl⟩:=WG.1 hq;have hz2:=W6.1 hz;exact WG.2 ⟨z,W6.2 ⟨Uc hz2.1,hz2.2⟩,rfl⟩
end
def rr(B:Int->Int->Prop)(a b:Int):Prop:=(a=0/\b=0)\/B a b
structure Ir(N:Nat)(x:Uw)(w:WE)(B:Int->Int->Prop):Prop where
 et:ET x
 vx:VX N x
 cf:w.c=x.h.c
 ro:R2 (rr B) x.R w.R
 lo:ON (rr B) x.l w.l
 gl:R2 (eR (rr B)) x.g.e w.g.e
 we:R2 (eR (rr B)) x.v.e w.v.e
 mkk:R2 (λ(p:UQ) (m:U5)=>m.M=p.M/\B p.a m.I/\m.B0=p.a+1) x.P w.m
 i1:∀a b c,B a b->B a c->b=c
 i2:∀a b c,B a c->B b c->a=b
 bo:∀a b,B a b->Obb x.h a/\1<=b/\b<=(w.T.length:Int)
 bh:∀a b,B a b->(thg w b).H=hdA x.h.w a
 b1:∀a b,B a b->∀j:Nat,j<(thg w b).D.length->(j:Int)∉XN (hdA x.h.w a)->wd x.h.w (a+1+j)=(thg w b).D.getD j 0
 b2:∀a b,B a b->∀j:Nat,(j:Int)∈XN (hdA x.h.w a)->rr B (wd x.h.w (a+1+j)) ((thg w b).D.getD j 0)
 th:∀t∈w.T,Zs w.T.length t=true
def YG(x:Uw)(v:Int):Int×Int:=
 if v=0 then(0,0)else if(X6 v).2≠0 then(0,(X6 v).2)else
 if(X6 v).1.Tag=1 then Yx x.l (X6 v).1.Index (X6 v).1.J else
 if(X6 v).1.Tag=2 then Yw x.g.e (X6 v).1.Index (X6 v).1.J else Yw x.v.e (X6 v).1.Index (X6 v).1.J
def thE(x:Uw)(v:Int):Int×Int:=if(YG x v).2=0/\(YG x v).1=0 then(0,5)else YG x v
section
variable {N:Nat}{x:Uw}{w:WE}{B:Int->Int->Prop}
def XcY(hN:NB N)(ht:ET x)(vx:VX N x){v:Int}(tv:tU v):QaF N x v=some (YG x v):=by
 have hN':1000000<N:=by unfold NB at hN;omega
 have hx:=ht.eb;rw[QaF,(Vk hN ht).2 vx,Xa,Wl,Wa,VA tv,YG];by_cases hz:v=0
 .rw[Xl hz,Wj hz];rfl
 rw[Xh hz,Wa,Xa,Wg hz];by_cases hd:(X6 v).2=0;rotate_left
 .rw[Xn hd,Wj hd];rfl
 rw[show((X6 v).2 != 0)=false by simp[hd],Wa,Wg (by simp[hd]),XcQ hx.loc hN',Vx hx.glo hN',Vx hx.wea hN',Xa,Xa,Xa];by_cases h1:(X6 v).1.Tag=1
 .rw[Xl h1,Wj h1];rfl
 rw[Xh h1,Wg h1,Wa];by_cases h2:(X6 v).1.Tag=2
 .rw[Xl h2,Wj h2];rfl
 rw[Xh h2,Wg h2];rfl
def XrH(hN:NB N)(ht:ET x)(vx:VX N x){v:Int}(tv:tU v):QbQ N x v=some (thE x v):=by
 rw[QbQ,XcY hN ht vx tv,Xa,thE];by_cases h1:(YG x v).2=0
 .by_cases h2:(YG x v).1=0
  .rw[Xl h1,Xl h2,Wj ⟨h1,h2⟩];rfl
  rw[Xl h1,Xh h2,Wg (λh=>h2 h.2)];rfl
 rw[Xh h1,Wg (λh=>h1 h.1)];rfl
def Ir.hp(s:Ir N x w B)(hN:NB N):UP x.h:=XL hN s.et.eb.heap s.vx.mx.gx.ep
def Ir.rng(s:Ir N x w B)(hN:NB N){a b:Int}(h:B a b):4096<=a/\a<=8192/\1<=b:=by have q:=s.bo a b h;have hp:=s.hp hN;have hr:=(q.1.1.at_ hp).rng;have hv:=Xi.1 hp.conf;have hm:=XV hp.conf (i:=0) aa aa;exact⟨hr.1,aa,q.2.1⟩
def Ir.zr(s:Ir N x w B)(hN:NB N):Zr (rr B):=λa b h=>by
 rcases h with h|h
 .exact⟨λ_=>h.1,λ_=>h.2⟩
 have:=s.rng hN h;exact⟨λe=>aa,λe=>aa⟩
def rr.fn(s:Ir N x w B)(hN:NB N){a b c:Int}(h1:rr B a b)(h2:rr B a c):b=c:=by
 rcases h1 with h1|h1<;>rcases h2 with h2|h2
 .omega
 .have:=s.rng hN h2;omega
 .have:=s.rng hN h1;omega
 exact s.i1 a b c h1 h2
def rr.inj(s:Ir N x w B)(hN:NB N){a b c:Int}(h1:rr B a c)(h2:rr B b c):a=b:=by
 rcases h1 with h1|h1<;>rcases h2 with h2|h2
 .omega
 .have:=s.rng hN h2;omega
 .have:=s.rng hN h1;omega
 exact s.i2 a b c h1 h2
def Ir.le(s:Ir N x w B){a b:Int}(h:rr B a b):b<=(w.T.length:Int):=by
 rcases h with h|h
 .omega
 exact(s.bo a b h).2.2
def OM{l m:List Int}(s:Ir N x w B)(h:R2 (rr B) l m):XU w.T.length m=true:=by rw[YS];intro r hr;obtain⟨a,_,h⟩:=h.memr hr;exact s.le h
def Ir.wv(s:Ir N x w B)(hN:NB N):XZ w=true:=by
 have hp:=s.hp hN;have z:=s.zr hN;have h64:=s.vx.mx.len;have e1:Yn w.l=true:=(Ky z s.lo.sc s.lo.is_ s.lo.sl).trans s.vx.loc;have e2:X8 w.g.e=true:=(KP s.gl).trans s.vx.glo;have e3:X8 w.v.e=true:=(KP s.we).trans s.vx.wea;have e4:(w.T.all (Zs w.T.length))=true:=WP.2 s.th;have e5:((Xp w.g.e).all λp=>!(p==0))=true:=by rw[WP];intro r hr;obtain⟨a,ha,h⟩:=(OF s.gl).memr hr;have:=s.vx.gz a ha;have h1:=z a r h;simp only[UE,IG];intro e;exact this (h1.1 e)
 have e6:JB w.T.length w.m=true:=by
  unfold JB;rw[YK];intro i m hm;have hi:=Xq hm;have hl:=s.mkk.1;have hi2:i<x.P.length:=aa;obtain⟨p,hp',h⟩:∃p,x.P[i]? = some p/\(m.M=p.M/\B p.a m.I/\m.B0=p.a+1):=⟨x.P[i],Wb hi2,s.mkk.2 i _ _ (Wb hi2) hm⟩
  have ob:=s.vx.mx.ob p (WW hp');have bo:=s.bo _ _ h.2.1;have hmi:Ze w.m m.I=i:=by
   unfold Ze;have hf:w.m.findIdx? (λq=>q.I==m.I)=some i:=by
    rw[U0];obtain⟨hi,em⟩:=Iq.1 hm;refine⟨hi,by rw[em];simp,λj hj=>?_⟩;have hj2:j<x.P.length:=aa;have hj':B x.P[j].a w.m[j].I:=(s.mkk.2 j _ _ (Wb hj2) (Wb (show j<w.m.length by omega))).2.1;intro he;have he:w.m[j].I=m.I:=by simpa using he
    have hn:=s.vx.mx.nd;rw[List.Nodup,Iv,Uf]at hn;obtain⟨hi',ep⟩:=Iq.1 hp';have:=hn j i aa hi' hj;apply this;rw[ep];rw[he]at hj';exact s.i2 _ _ _ hj' h.2.1
   rw[hf]
  unfold Xcy;rw[Ue,hmi];simp;omega
 have ec:X5 w.c=true:=by rw[s.cf];exact hp.conf
 unfold XZ;rw[ec,e1,e2,e3,Wh (by have:=s.mkk.1;omega),e4,e5,e6,OM s s.ro,OM s (OS s.lo.sl),OM s (OF s.gl),OM s (OF s.we)];rfl
def Jf(s:Ir N x w B)(hN:NB N)(v:Int):(Y0 w v).2=(YG x v).2/\((YG x v).2=0->rr B (YG x v).1 (Y0 w v).1):=by
 have z:=s.zr hN;unfold YG Y0;split
 .exact⟨rfl,λ_=>.inl ⟨rfl,rfl⟩⟩
 split
 .rename_i h;exact⟨rfl,λe=>absurd e h⟩
 split
 .exact Xe8 z s.lo
 split
 .exact Xci s.gl
 exact Xci s.we
def Xah(s:Ir N x w B)(hN:NB N)(v:Int):(Xx w v).2=(thE x v).2/\((thE x v).2=0->B (thE x v).1 (Xx w v).1/\(Y0 w v).1=(Xx w v).1/\(YG x v).2=0):=by
 have h:=Jf s hN v;unfold thE Xx;by_cases h1:(YG x v).2=0
 .have h2:=h.2 h1;have hz:=s.zr hN _ _ h2;by_cases h3:(YG x v).1=0
  .rw[Wj ⟨h.1.trans h1,hz.2 h3⟩,Wj ⟨h1,h3⟩];exact⟨rfl,λe=>absurd e ab⟩
  rw[Wg (λq=>h3 (hz.1 q.2)),Wg (λq=>h3 q.2)];refine⟨h.1,λ_=>⟨?_,rfl,h1⟩⟩;rcases h2 with h2|h2
  .exact absurd h2.1 h3
  exact h2
 rw[Wg (λq=>h1 (h.1.symm.trans q.1)),Wg (λq=>h1 q.1)];exact⟨h.1,λe=>absurd e h1⟩
def Xf9(vx:VX N x){v:Int}(h:(YG x v).2=0):(YG x v).1=0\/Obb x.h (YG x v).1:=by
 unfold YG at h⊢;by_cases h0:v=0
 .rw[Wj h0];exact .inl rfl
 rw[Wg h0]at h⊢;by_cases h1:(X6 v).2≠0
 .rw[Wj h1]at h;exact absurd h h1
 rw[Wg h1]at h⊢;by_cases h2:(X6 v).1.Tag=1
 .rw[Wj h2]at h⊢;obtain⟨_,_,p,hp,_,hl,e⟩:=Xay h;rw[e];exact vx.rl _ (WG.2 ⟨p,W6.2 ⟨WW hp,hl⟩,rfl⟩)
 rw[Wg h2]at h⊢;by_cases h3:(X6 v).1.Tag=2
 .rw[Wj h3]at h⊢;obtain⟨_,_,p,hp,_,hl,e⟩:=Vd h;rw[e];exact vx.rg _ (WG.2 ⟨p,W6.2 ⟨WW hp,hl⟩,rfl⟩)
 rw[Wg h3]at h⊢;obtain⟨_,_,p,hp,_,hl,e⟩:=Vd h;rw[e];exact vx.rw_ _ (WG.2 ⟨p,W6.2 ⟨WW hp,hl⟩,rfl⟩)
def Ir.tlen(s:Ir N x w B)(hN:NB N){a b:Int}(h:B a b):((thg w b).D.length:Int)=(hdA x.h.w a).n/\thg w b∈w.T:=by
 have q:=s.bo a b h;have hm:thg w b∈w.T:=by unfold thg;rw[We,Wb aa];exact Wt _
 have t:=s.th _ hm;unfold Zs at t;simp only[Wr,UE,bne_eq_false_iff_eq]at t;have t3:((thg w b).D.length:Int)=(thg w b).H.n:=t.2.2.1;rw[s.bh a b h]at t3;exact⟨t3,hm⟩
end
def YV(N:Nat)(x:Uw)(w:WE)(op a b c:Int)(y:Uw×Int×Int):Prop:=
 (y.2.2≠0->YA w op a b c (y.2.2==3||(y.2.2==18&&op==19))≠0) /\
 (y.2.2=0->∀ft:OD,ft.Failed=false->ft.Collected=(x.h.s != y.1.h.s)->(op=19->ft.B0=y.2.1)->∃w' v,Qar N w op a b c ft=some (w',v,0)/\∃B',Ir N y.1 w' B')
structure CX(N k:Nat)(x:Uw)(w:WE)(B:Int->Int->Prop)(a b c:Int):Prop where
 s:Ir N x w B
 hN:NB N
 hw:WB k w
 kk:k<=800
 tw:XE w
 ta:tU a
 tb:tU b
 tc:tU c
section
variable {N k:Nat}{x:Uw}{w:WE}{B:Int->Int->Prop}{a b c:Int}{ft:OD}
def CX.n6(h:CX N k x w B a b c):1000000<N:=by have:=h.hN;unfold NB at this;omega
def CX.ev(h:CX N k x w B a b c):Qcd N x=some true:=(Vk h.hN h.s.et).2 h.s.vx
def CX.wv(h:CX N k x w B a b c):XZ w=true:=h.s.wv h.hN
def CX.ver(h:CX N k x w B a b c)(op:Int)(f:Bool):Qey N w op a b c f=some (YA w op a b c f):=XmR h.hw h.n6 h.tw op h.ta h.tb h.tc f
def CX.res(h:CX N k x w B a b c):QaF N x a=some (YG x a)/\Qaz N w a=some (Y0 w a):=⟨XcY h.hN h.s.et h.s.vx h.ta,KG h.hw h.n6 h.wv h.ta⟩
def CX.th(h:CX N k x w B a b c):QbQ N x a=some (thE x a):=XrH h.hN h.s.et h.s.vx h.ta
def Xee{l:WD}(h:Yn l=true):LBp l:=by have f:=Ys.1 h;have:=f.slots;have:=f.iss;have:=f.sc;exact⟨aa,aa,aa⟩
def Xfb{t:W4}(h:X8 t.e=true):TB t:=by have:=KS h;unfold TB;omega
def Ir.tabs(s:Ir N x w B){L L':WD}{G G' W W':W4}(lo:ON (rr B) L L')(gl:R2 (eR (rr B)) G.e G'.e)(we:R2 (eR (rr B)) W.e W'.e)(v1:Yn L=true)(v2:X8 G.e=true)(v3:X8 W.e=true)(m0:∀r∈Xp G.e,r≠0)(m1:∀r∈XC L.S,r=0\/Obb x.h r)(m2:∀r∈Xp G.e,r=0\/Obb x.h r)(m3:∀r∈Xp W.e,r=0\/Obb x.h r):Ir N ⟨x.h,L,G,W,x.P,x.R⟩ ⟨w.c,w.T,L',G',W',w.m,w.R⟩ B:=
 ⟨⟨⟨s.et.eb.heap,Xee v1,Xfb v2,Xfb v3,s.et.eb.pins,s.et.eb.roots⟩,s.et.tw⟩,⟨s.vx.mx,v1,v2,v3,m0,s.vx.rr,m1,m2,m3⟩,s.cf,s.ro,lo,gl,we,s.mkk,s.i1,s.i2,s.bo,s.bh,s.b1,s.b2,s.th⟩
def Ir.locs(s:Ir N x w B){L L':WD}(lo:ON (rr B) L L')(v1:Yn L=true)(m1:∀r∈XC L.S,r=0\/Obb x.h r):Ir N ⟨x.h,L,x.g,x.v,x.P,x.R⟩ ⟨w.c,w.T,L',w.g,w.v,w.m,w.R⟩ B:=
 s.tabs lo s.gl s.we v1 s.vx.glo s.vx.wea s.vx.gz m1 s.vx.rg s.vx.rw_
def XiJ(l:WD)(r:Int):Int:=if r=0 then 0 else(Yh l r).2.2.2
def XcZ(hN:NB N)(s:Ir N x w B){r id:Int}(h:rr B r id)(hr:r=0\/Obb x.h r):YT w.l id=XiJ x.l r/\∃y,Qct N x r=some y/\y.2.2=XiJ x.l r/\(XiJ x.l r=0->y.1.h=x.h/\∃w' v,QbF N w id=some (w',v)/\Ir N y.1 w' B):=by
 have hN':1000000<N:=by unfold NB at hN;omega
 have z:=s.zr hN;have z0:=z r id h;have hl:=s.et.eb.loc;have hl':LBp w.l:=Xee ((Ky z s.lo.sc s.lo.is_ s.lo.sl).trans s.vx.loc);unfold YT XiJ;rw[Qct,QbF,Vy hl hN',Vy hl' hN',Xa,Xa];by_cases h0:r=0
 .rw[Wj h0,Wj (z0.2 h0),Xl h0,Xl (z0.2 h0)];exact⟨rfl,_,rfl,rfl,λ_=>⟨rfl,_,_,rfl,s⟩⟩
 have h1:id≠0:=λe=>h0 (z0.1 e);have q:=Xk6 z s.lo h;rw[Wg h0,Wg h1,Xh h0,Xh h1,Wa,Wa,q.1];refine⟨rfl,?_⟩;by_cases he:(Yh x.l r).2.2.2=0;rotate_left
 .rw[Xn he,Wc,Qaa,Xa];exact⟨_,rfl,rfl,λe=>absurd e he⟩
 obtain⟨e,ee,_⟩:=Y3 (N:=N) (IZ.mk 1 (Yh x.l r).2.1 (Yh x.l r).2.2.1);rw[show((Yh x.l r).2.2.2 != 0)=false by simp[he],Wa,ee,Xa,Xa];refine⟨_,rfl,he.symm,λ_=>⟨rfl,_,_,rfl,?_⟩⟩;have nv:=Xnx he;refine s.locs (q.2 he) nv.1 λt ht=>?_;rw[nv.2.2.1]at ht;dsimp only at ht;rw[Xk9]at ht;rcases Ws.1 ht with ht|ht
 .exact s.vx.rl t ht
 have:t=r:=by unfold XC at ht;simpa using ht
 rw[this];exact hr
def Yo{e f:Int}(h:e=f):(e != f)=false:=by simp[h]
def ZC(op:Int)(ho:op=6\/op=7\/op=8\/op=9)(h:XZ w=true)(f:Bool):YA w op a b c f=KM w op a b c:=by unfold YA;rw[h,Wg ab,Wg aa,Wj ho]
def XbO(op:Int)(ho:op=4\/op=5\/op=10\/op=11)(h:XZ w=true)(f:Bool):YA w op a b c f=JP w op a b:=by unfold YA;rw[h,Wg ab,Wg aa,Wg aa,Wg aa,Wg aa,Wg aa,Wg aa,Wj ho]
def XhJ(op:Int)(ho:op=13\/op=15)(h:XZ w=true)(f:Bool):YA w op a b c f=Xca w op a:=by unfold YA;rw[h,Wg ab,Wg aa,Wg aa,Wg aa,Wj ho]
def Xbf(op:Int)(ho:op=12\/op=14\/op=16)(h:XZ w=true)(f:Bool):YA w op a b c f=JD w op a:=by unfold YA;rw[h,Wg ab,Wg aa,Wg aa,Wj ho]
def Xfc(op:Int)(ho:op=17\/op=18)(h:XZ w=true)(f:Bool):YA w op a b c f=XaD w op a:=by unfold YA;rw[h,Wg ab,Wg aa,Wg aa,Wg aa,Wg aa,Wj ho]
def Xc0(op:Int)(ho:op=19\/op=20)(h:XZ w=true)(f:Bool):YA w op a b c f=XbC w op a f:=by unfold YA;rw[h,Wg ab,Wg aa,Wg aa,Wg aa,Wg aa,Wg aa,Wj ho]
def CX.obj(h:CX N k x w B a b c)(e:(thE x a).2=0):B (thE x a).1 (Xx w a).1/\(Y0 w a).1=(Xx w a).1/\Xd w.T (wU ((Xx w a).1-1))=some (thg w (Xx w a).1)/\Qb0 N x.h (thE x a).1=some (hdA x.h.w (thE x a).1,0)/\(Xx w a).2=0:=by obtain⟨h1,h2,h3⟩:=(Xah h.s h.hN a).2 e;have q:=h.s.bo _ _ h1;have hp:=h.s.hp h.hN;have hat:=q.1.1.at_ hp;have hb:=h.s.et.eb.heap;have ep:=h.s.vx.mx.gx.ep;exact⟨h1,h2,(Ks h.hw q.2.1 q.2.2).1,Xcf h.hN hb ep hat (XcU h.hN hb ep hat) q.1.2,(Xah h.s h.hN a).1.trans e⟩
def XsP(h:CX N k x w B a b c){op:Int}(ho:op=4\/op=5):Ok (Qad N x op a b c) (YV N x w op a b c):=by
 have hth:=Xah h.s h.hN a;have main:Ok (Qcv N x op a b) (YV N x w op a b c):=by
  have e1:Qcv N x op a b=bnd (QbQ N x a) λy2=>
   bif (y2.2 != 0)then(bnd (Qaa N y2.2) λy3=>some (y3.1,y3.2.1,y3.2.2))
   else bnd (Qb0 N x.h y2.1) λy4=>
   bif (op==4)then some (x,(wU y4.1.n),0)else some (x,(wU y4.1.k),0):=by
   rw[Qcv]
   rcases ho with rfl|rfl<;>simp only[Xr,Int.reduceBEq,Wc,Wa]
  rw[e1,h.th,Xa];by_cases he:(thE x a).2=0;rotate_left
  .rw[Xn he,Wc,Qaa,Xa];refine Wd ⟨λ_=>?_,λe=>absurd e he⟩;rw[XbO op aa h.wv,JP,Wj ho,hth.1];exact he
  obtain⟨o1,o2,o3,o4,o5⟩:=h.obj he;have hv:∀f,YA w op a b c f=0:=λf=>by rw[XbO op aa h.wv,JP,Wj ho,o5]
  have fin:∀v,YV N x w op a b c (x,v,0):=λv=>⟨λe=>absurd rfl e,λ_ ft hf _ _=>by
   rw[Qar,h.ver,Xa,Yo (hv _),Wa,h.res.2]
   rcases ho with rfl|rfl
   .simp only[Xr,gt_iff_lt,Int.reduceLT,decide_true,decide_false,Wc,Wa,Int.reduceBEq,Int.reduceBNe,Xa]
    rw[o2,o3,Xa]
    exact⟨_,_,rfl,_,h.s⟩
   .simp only[Xr,gt_iff_lt,Int.reduceLT,decide_true,decide_false,Wc,Wa,Int.reduceBEq,Int.reduceBNe,Xa]
    rw[o2,o3,Xa]
    exact⟨_,_,rfl,_,h.s⟩⟩
  rw[Yo he,Wa,o4,Xa];exact Wo (λ_=>Wd (fin _)) λ_=>Wd (fin _)
 obtain⟨y,ey,hy⟩:=main;refine⟨y,?_,hy⟩;rw[Qad,h.ev,Xa];rcases ho with rfl|rfl<;>simp only[Xr,Int.reduceBEq,Wc,Wa,Wl,ey,Xa]
def XtR(h:CX N k x w B a b c):Ok (Qad N x 10 a b c) (YV N x w 10 a b c):=by
 have ra:=Jf h.s h.hN a;have rb:=Jf h.s h.hN b;have eb:QaF N x b=some (YG x b):=XcY h.hN h.s.et h.s.vx h.tb;have ew:Qaz N w b=some (Y0 w b):=KG h.hw h.n6 h.wv h.tb;have hv:∀f,YA w 10 a b c f=if(YG x a).2≠0 then(YG x a).2 else(YG x b).2:=λf=>by rw[XbO 10 aa h.wv,JP,Wg aa,Wj rfl,ra.1,rb.1]
 have fin:∀v,(YG x a).2=0->(YG x b).2=0->YV N x w 10 a b c (x,v,0):=λv e1 e2=>⟨λe=>absurd rfl e,λ_ ft hf _ _=>by
  have hz:YA w 10 a b c ft.Failed=0:=by rw[hv,Wg (by simp[e1]),e2]
  rw[Qar,h.ver,Xa,Yo hz,Wa,h.res.2]
  simp only[Xr,gt_iff_lt,Int.reduceLT,decide_true,decide_false,Wc,Wa,Int.reduceBEq,Int.reduceBNe,Xa,ew]
  cases ((Y0 w a).1==(Y0 w b).1)<;>exact⟨_,_,rfl,_,h.s⟩⟩
 rw[Qad,h.ev,Xa];simp only[Xr,Int.reduceBEq,Wc,Wa,Wl,Qcv,h.res.1,eb,Xa];by_cases e1:(YG x a).2=0;rotate_left
 .rw[Xn e1,Wc,Qaa,Xa,Xa];exact Wd ⟨λ_=>by rw[hv,Wj e1];exact e1,λe=>absurd e e1⟩
 rw[Yo e1,Wa];by_cases e2:(YG x b).2=0;rotate_left
 .rw[Xn e2,Wc,Qaa,Xa,Xa];exact Wd ⟨λ_=>by rw[hv,Wg (by simp[e1])];exact e2,λe=>absurd e e2⟩
 rw[Yo e2,Wa];cases ((YG x a).1==(YG x b).1)<;>simp only[Wc,Wa,Xa]<;>exact Wd (fin _ e1 e2)
def XtS(h:CX N k x w B a b c):Ok (Qad N x 11 a b c) (YV N x w 11 a b c):=by
 have ra:=Jf h.s h.hN a;have hv:∀f,YA w 11 a b c f=if(YG x a).2≠0 then(YG x a).2 else YT w.l (Y0 w a).1:=λf=>by rw[XbO 11 aa h.wv,JP,Wg aa,Wg (show¬(11:Int)=10 by omega),ra.1]
 rw[Qad,h.ev,Xa];simp only[Xr,Int.reduceBEq,Wc,Wa,Wl,Qcv,h.res.1,Xa];by_cases e1:(YG x a).2=0;rotate_left
 .rw[Xn e1,Wc,Qaa,Xa,Xa];exact Wd ⟨λ_=>by rw[hv,Wj e1];exact e1,λe=>absurd e e1⟩
 obtain⟨l1,y,l2,l3,l4⟩:=XcZ h.hN h.s (ra.2 e1) (Xf9 h.s.vx e1);rw[Yo e1,Wa,l2,Xa,Xa];refine Wd ⟨λe=>?_,λe ft hf hc _=>?_⟩
 .rw[hv,Wg (by simp[e1]),l1,←l3];exact e
 have e:y.2.2=0:=e;rw[l3]at e;have hz:YA w 11 a b c ft.Failed=0:=by rw[hv,Wg (by simp[e1]),l1];exact e
 obtain⟨_,w',v,g1,g2⟩:=l4 e;rw[Qar,h.ver,Xa,Yo hz,Wa,h.res.2];simp only[Xr,gt_iff_lt,Int.reduceLT,decide_true,decide_false,Wc,Wa,Int.reduceBEq,Int.reduceBNe,Xa,g1];exact⟨_,_,rfl,_,g2⟩
end
section
variable {N k:Nat}{x:Uw}{w:WE}{B:Int->Int->Prop}{a b c:Int}{ft:OD}
def XtT(h:CX N k x w B a b c):Ok (Qad N x 13 a b c) (YV N x w 13 a b c):=by
 have hth:=Xah h.s h.hN a;have hv:∀f,YA w 13 a b c f=if(thE x a).2≠0 then(thE x a).2 else(YF w.g (Xx w a).1).2.2.2:=λf=>by rw[XhJ 13 aa h.wv,Xca,hth.1,Wg (show¬(13:Int)=15 by omega)]
 rw[Qad,h.ev,Xa];simp only[Xr,Int.reduceBEq,Wc,Wa,Wl,Qde,h.th,Xa];by_cases e1:(thE x a).2=0;rotate_left
 .rw[Xn e1,Wc,Qaa,Xa,Xa];exact Wd ⟨λ_=>by rw[hv,Wj e1];exact e1,λe=>absurd e e1⟩
 obtain⟨o1,o2,o3,o4,o5⟩:=h.obj e1;have q:=Xe9 h.s.gl (x:=(thE x a).1) (y:=(Xx w a).1) (.inr o1);rw[Yo e1,Wa,show(W4.mk x.g.e)=x.g from rfl,KL h.s.et.eb.glo h.n6,Xa];by_cases e2:(YF x.g (thE x a).1).2.2.2=0;rotate_left
 .rw[Xn e2,Wc,Qaa,Xa,Xa];exact Wd ⟨λ_=>by rw[hv,Wg (by simp[e1]),q.1];exact e2,λe=>absurd e e2⟩
 have hz:∀f,YA w 13 a b c f=0:=λf=>by rw[hv,Wg (by simp[e1]),q.1];exact e2
 obtain⟨e,ee,_⟩:=Y3 (N:=N) (IZ.mk 2 (YF x.g (thE x a).1).2.1 (YF x.g (thE x a).1).2.2.1);rw[Yo e2,Wa,ee,Xa,Xa];refine Wd ⟨λe=>absurd rfl e,λ_ ft hf _ _=>?_⟩;have hl':TB w.g:=Xfb ((KP h.s.gl).trans h.s.vx.glo);have nv:=XhH e2;rw[Qar,h.ver,Xa,Yo (hz _),Wa,h.res.2];simp only[Xr,gt_iff_lt,Int.reduceLT,decide_true,decide_false,Wc,Wa,Int.reduceBEq,Int.reduceBNe,Xa,Qdh];rw[o2,KL hl' h.n6,Xa,q.1,ee,Xa,Xa];have o:=(h.s.bo _ _ o1).1;have hp:=h.s.hp h.hN;have hr:=(o.1.at_ hp).rng;refine⟨_,_,rfl,B,h.s.tabs h.s.lo (q.2 e2) h.s.we h.s.vx.loc nv.1 h.s.vx.wea (λr hr'=>?_) h.s.vx.rl (λr hr'=>?_) h.s.vx.rw_⟩
 .rcases nv.2 r hr' with h'|h'
  .exact h.s.vx.gz r h'
  omega
 rcases nv.2 r hr' with h'|h'
 .exact h.s.vx.rg r h'
 exact .inr (h'▸o)
def XtU(h:CX N k x w B a b c):Ok (Qad N x 15 a b c) (YV N x w 15 a b c):=by
 have hth:=Xah h.s h.hN a;have hv:∀f,YA w 15 a b c f=if(thE x a).2≠0 then(thE x a).2 else(YF w.v (Xx w a).1).2.2.2:=λf=>by rw[XhJ 15 aa h.wv,Xca,hth.1,Wj (show(15:Int)=15 from rfl)]
 rw[Qad,h.ev,Xa];simp only[Xr,Int.reduceBEq,Wc,Wa,Wl,Qde,h.th,Xa];by_cases e1:(thE x a).2=0;rotate_left
 .rw[Xn e1,Wc,Qaa,Xa,Xa];exact Wd ⟨λ_=>by rw[hv,Wj e1];exact e1,λe=>absurd e e1⟩
 obtain⟨o1,o2,o3,o4,o5⟩:=h.obj e1;have q:=Xe9 h.s.we (x:=(thE x a).1) (y:=(Xx w a).1) (.inr o1);rw[Yo e1,Wa,show(W4.mk x.v.e)=x.v from rfl,KL h.s.et.eb.wea h.n6,Xa];by_cases e2:(YF x.v (thE x a).1).2.2.2=0;rotate_left
 .rw[Xn e2,Wc,Qaa,Xa,Xa];exact Wd ⟨λ_=>by rw[hv,Wg (by simp[e1]),q.1];exact e2,λe=>absurd e e2⟩
 have hz:∀f,YA w 15 a b c f=0:=λf=>by rw[hv,Wg (by simp[e1]),q.1];exact e2
 obtain⟨e,ee,_⟩:=Y3 (N:=N) (IZ.mk 3 (YF x.v (thE x a).1).2.1 (YF x.v (thE x a).1).2.2.1);rw[Yo e2,Wa,ee,Xa,Xa];refine Wd ⟨λe=>absurd rfl e,λ_ ft hf _ _=>?_⟩;have hl':TB w.v:=Xfb ((KP h.s.we).trans h.s.vx.wea);have nv:=XhH e2;rw[Qar,h.ver,Xa,Yo (hz _),Wa,h.res.2];simp only[Xr,gt_iff_lt,Int.reduceLT,decide_true,decide_false,Wc,Wa,Int.reduceBEq,Int.reduceBNe,Xa,Qdh];rw[o2,KL hl' h.n6,Xa,q.1,ee,Xa,Xa];have o:=(h.s.bo _ _ o1).1;refine⟨_,_,rfl,B,h.s.tabs h.s.lo h.s.gl (q.2 e2) h.s.vx.loc h.s.vx.glo nv.1 h.s.vx.gz h.s.vx.rl h.s.vx.rg (λr hr'=>?_)⟩;rcases nv.2 r hr' with h'|h'
 .exact h.s.vx.rw_ r h'
 exact .inr (h'▸o)
def Xef{v:Int}(h0:v≠0)(h:(YG x v).2=0):(X6 v).2=0/\((X6 v).1.Tag=1->(Yx x.l (X6 v).1.Index (X6 v).1.J).2=0)/\((X6 v).1.Tag=2->(Yw x.g.e (X6 v).1.Index (X6 v).1.J).2=0)/\((X6 v).1.Tag=3->(Yw x.v.e (X6 v).1.Index (X6 v).1.J).2=0):=by
 unfold YG at h;rw[Wg h0]at h;by_cases h1:(X6 v).2≠0
 .rw[Wj h1]at h;exact absurd h h1
 rw[Wg h1]at h;refine⟨Classical.not_not.1 h1,λe=>by rw[Wj e]at h;exact h,λe=>by rw[Wg aa,Wj e]at h;exact h,λe=>by rw[Wg aa,Wg aa]at h;exact h⟩
def XtV(h:CX N k x w B a b c):Ok (Qad N x 12 a b c) (YV N x w 12 a b c):=by
 have ra:=Jf h.s h.hN a;have hv:∀f,YA w 12 a b c f=if a=0 then 5 else if(YG x a).2≠0 then(YG x a).2 else if(X6 a).1.Tag≠1 then 4 else 0:=λf=>by rw[Xbf 12 aa h.wv,JD,ra.1];simp
 rw[Qad,h.ev,Xa];simp only[Xr,Int.reduceBEq,Wc,Wa,Wl,Qc4,h.res.1,VA h.ta,Xa];by_cases e0:a=0
 .rw[Xl e0,Wc,Qaa,Xa,Xa];exact Wd ⟨λ_=>by rw[hv,Wj e0];decide,λe=>absurd e ae⟩
 rw[Xh e0,Wa];by_cases e1:(YG x a).2=0;rotate_left
 .rw[Xn e1,Wc,Qaa,Xa,Xa];exact Wd ⟨λ_=>by rw[hv,Wg e0,Wj e1];exact e1,λe=>absurd e e1⟩
 rw[Yo e1,Wa];by_cases e2:(X6 a).1.Tag=1;rotate_left
 .rw[Xn e2,Wc,Qaa,Xa,Xa];exact Wd ⟨λ_=>by rw[hv,Wg e0,Wg (by simp[e1]),Wj e2];decide,λe=>absurd e ae⟩
 have hz:∀f,YA w 12 a b c f=0:=λf=>by rw[hv,Wg e0,Wg (by simp[e1]),Wg (by simp[e2])]
 have tg:=Xef e0 e1;have hg:=tg.2.1 e2;have hd:(Z2 x.l (X6 a).1.Index (X6 a).1.J).2=0:=by unfold Z2;rw[Wg (by simp[hg])]
 have dv:=Xnz hd;have q:=Xk7 (i:=(X6 a).1.Index) (g:=(X6 a).1.J) (h.s.zr h.hN) h.s.lo;rw[Yo e2,Wa,XcR h.s.et.eb.loc h.n6,Xa,Xa];refine Wd ⟨λe=>absurd rfl e,λ_ ft hf _ _=>?_⟩;have hl':LBp w.l:=Xee ((Ky (h.s.zr h.hN) h.s.lo.sc h.s.lo.is_ h.s.lo.sl).trans h.s.vx.loc);rw[Qar,h.ver,Xa,Yo (hz _),Wa,h.res.2];simp only[Xr,gt_iff_lt,Int.reduceLT,decide_true,decide_false,Wc,Wa,Int.reduceBEq,Int.reduceBNe,Xa,Qc5,VA h.ta];rw[Xl e2,Wc,XcR hl' h.n6,Xa,Xa];refine⟨_,_,rfl,B,h.s.locs (q.2 hd) dv.1 λr hr=>?_⟩;rw[dv.2.1]at hr;exact h.s.vx.rl r (Xla rfl r hr)
def XtW(h:CX N k x w B a b c):Ok (Qad N x 14 a b c) (YV N x w 14 a b c):=by
 have ra:=Jf h.s h.hN a;have hv:∀f,YA w 14 a b c f=if a=0 then 5 else if(YG x a).2≠0 then(YG x a).2 else if(X6 a).1.Tag≠2 then 4 else 0:=λf=>by rw[Xbf 14 aa h.wv,JD,ra.1];simp
 rw[Qad,h.ev,Xa];simp only[Xr,Int.reduceBEq,Wc,Wa,Wl,Qc4,h.res.1,VA h.ta,Xa];by_cases e0:a=0
 .rw[Xl e0,Wc,Qaa,Xa,Xa];exact Wd ⟨λ_=>by rw[hv,Wj e0];decide,λe=>absurd e ae⟩
 rw[Xh e0,Wa];by_cases e1:(YG x a).2=0;rotate_left
 .rw[Xn e1,Wc,Qaa,Xa,Xa];exact Wd ⟨λ_=>by rw[hv,Wg e0,Wj e1];exact e1,λe=>absurd e e1⟩
 rw[Yo e1,Wa];by_cases e2:(X6 a).1.Tag=2;rotate_left
 .rw[Xn e2,Wc,Qaa,Xa,Xa];exact Wd ⟨λ_=>by rw[hv,Wg e0,Wg (by simp[e1]),Wj e2];decide,λe=>absurd e ae⟩
 have hz:∀f,YA w 14 a b c f=0:=λf=>by rw[hv,Wg e0,Wg (by simp[e1]),Wg (by simp[e2])]
 have tg:=Xef e0 e1;have hg:=tg.2.2.1 e2;have hd:(Zh x.g (X6 a).1.Index (X6 a).1.J).2=0:=by unfold Zh;rw[Wg (by simp[hg])]
 have dv:=XhI hd;have q:=Xfa (i:=(X6 a).1.Index) (g:=(X6 a).1.J) h.s.gl;rw[Yo e2,Wa,JL h.s.et.eb.glo h.n6,Xa,Xa];refine Wd ⟨λe=>absurd rfl e,λ_ ft hf _ _=>?_⟩;have hl':TB w.g:=Xfb ((KP h.s.gl).trans h.s.vx.glo);rw[Qar,h.ver,Xa,Yo (hz _),Wa,h.res.2];simp only[Xr,gt_iff_lt,Int.reduceLT,decide_true,decide_false,Wc,Wa,Int.reduceBEq,Int.reduceBNe,Xa,Qc5,VA h.ta];rw[Xh (show¬(X6 a).1.Tag=1 by omega),Wa,Xl e2,Wc,JL hl' h.n6,Xa,Xa];exact⟨_,_,rfl,B,h.s.tabs h.s.lo (q.2 hd) h.s.we h.s.vx.loc dv.1 h.s.vx.wea (λr hr=>h.s.vx.gz r (dv.2 r hr)) h.s.vx.rl (λr hr=>h.s.vx.rg r (dv.2 r hr)) h.s.vx.rw_⟩
def XtX(h:CX N k x w B a b c):Ok (Qad N x 16 a b c) (YV N x w 16 a b c):=by
 have ra:=Jf h.s h.hN a;have hv:∀f,YA w 16 a b c f=if a=0 then 5 else if(YG x a).2≠0 then(YG x a).2 else if(X6 a).1.Tag≠3 then 4 else 0:=λf=>by rw[Xbf 16 aa h.wv,JD,ra.1];simp
 rw[Qad,h.ev,Xa];simp only[Xr,Int.reduceBEq,Wc,Wa,Wl,Qc4,h.res.1,VA h.ta,Xa];by_cases e0:a=0
 .rw[Xl e0,Wc,Qaa,Xa,Xa];exact Wd ⟨λ_=>by rw[hv,Wj e0];decide,λe=>absurd e ae⟩
 rw[Xh e0,Wa];by_cases e1:(YG x a).2=0;rotate_left
 .rw[Xn e1,Wc,Qaa,Xa,Xa];exact Wd ⟨λ_=>by rw[hv,Wg e0,Wj e1];exact e1,λe=>absurd e e1⟩
 rw[Yo e1,Wa];by_cases e2:(X6 a).1.Tag=3;rotate_left
 .rw[Xn e2,Wc,Qaa,Xa,Xa];exact Wd ⟨λ_=>by rw[hv,Wg e0,Wg (by simp[e1]),Wj e2];decide,λe=>absurd e ae⟩
 have hz:∀f,YA w 16 a b c f=0:=λf=>by rw[hv,Wg e0,Wg (by simp[e1]),Wg (by simp[e2])]
 have tg:=Xef e0 e1;have hg:=tg.2.2.2 e2;have hd:(Zh x.v (X6 a).1.Index (X6 a).1.J).2=0:=by unfold Zh;rw[Wg (by simp[hg])]
 have dv:=XhI hd;have q:=Xfa (i:=(X6 a).1.Index) (g:=(X6 a).1.J) h.s.we;rw[Yo e2,Wa,JL h.s.et.eb.wea h.n6,Xa,Xa];refine Wd ⟨λe=>absurd rfl e,λ_ ft hf _ _=>?_⟩;have hl':TB w.v:=Xfb ((KP h.s.we).trans h.s.vx.wea);rw[Qar,h.ver,Xa,Yo (hz _),Wa,h.res.2];simp only[Xr,gt_iff_lt,Int.reduceLT,decide_true,decide_false,Wc,Wa,Int.reduceBEq,Int.reduceBNe,Xa,Qc5,VA h.ta];rw[Xh (show¬(X6 a).1.Tag=1 by omega),Wa,Xh (show¬(X6 a).1.Tag=2 by omega),Wa,JL hl' h.n6,Xa,Xa];exact⟨_,_,rfl,B,h.s.tabs h.s.lo h.s.gl (q.2 hd) h.s.vx.loc h.s.vx.glo dv.1 h.s.vx.gz h.s.vx.rl h.s.vx.rg (λr hr=>h.s.vx.rw_ r (dv.2 r hr))⟩
def XtY(h:CX N k x w B a b c):Ok (Qad N x 17 a b c) (YV N x w 17 a b c):=by
 have q:=XiH (i:=a) (h.s.zr h.hN) h.s.lo;have hv:∀f,YA w 17 a b c f=if a>64 then 1 else(Y6 x.l a).2:=λf=>by rw[Xfc 17 aa h.wv,XaD,Wj rfl,q.1]
 rw[Qad,h.ev,Xa];simp only[Xr,Int.reduceBEq,Wc,Wa,Wl,QdN,Xa];by_cases e0:a>64
 .rw[Wi e0,Wc,Qaa,Xa,Xa];exact Wd ⟨λ_=>by rw[hv,Wj e0];decide,λe=>absurd e ae⟩
 have ha:=h.ta.1;have hwa:wI a=a:=Xf aa aa;rw[Wh e0,Wa,hwa,V6 h.s.et.eb.loc h.n6,Xa];by_cases e1:(Y6 x.l a).2=0;rotate_left
 .rw[Xn e1,Wc,Qaa,Xa,Xa];exact Wd ⟨λ_=>by rw[hv,Wg e0];exact e1,λe=>absurd e e1⟩
 have hz:∀f,YA w 17 a b c f=0:=λf=>by rw[hv,Wg e0];exact e1
 have pv:=Xk5 e1;rw[Yo e1,Wa,Xa];refine Wd ⟨λe=>absurd rfl e,λ_ ft hf _ _=>?_⟩;have hl':LBp w.l:=Xee ((Ky (h.s.zr h.hN) h.s.lo.sc h.s.lo.is_ h.s.lo.sl).trans h.s.vx.loc);rw[Qar,h.ver,Xa,Yo (hz _),Wa];simp only[Xr,gt_iff_lt,Int.reduceLT,decide_true,decide_false,Wc,Wa,Int.reduceBEq,Int.reduceBNe,Xa];rw[hwa,V6 hl' h.n6,Xa];refine⟨_,_,rfl,B,h.s.locs (q.2 e1) pv.1 λr hr=>?_⟩;rw[pv.2]at hr;exact h.s.vx.rl r hr
def XtZ(h:CX N k x w B a b c):Ok (Qad N x 18 a b c) (YV N x w 18 a b c):=by
 have ra:=Jf h.s h.hN a;have q:=Xk8 (h.s.zr h.hN) h.s.lo;have hv:∀f,YA w 18 a b c f=if(YG x a).2≠0 then(YG x a).2 else if(Yt x.l).2≠0 then(Yt x.l).2 else YT (Yt w.l).1 (Y0 w a).1:=λf=>by rw[Xfc 18 aa h.wv,XaD,Wg aa,q.1,ra.1]
 rw[Qad,h.ev,Xa];simp only[Xr,Int.reduceBEq,Wc,Wa,Wl,QdN,h.res.1,Xa];by_cases e1:(YG x a).2=0;rotate_left
 .rw[Xn e1,Wc,Qaa,Xa,Xa];exact Wd ⟨λ_=>by rw[hv,Wj e1];exact e1,λe=>absurd e e1⟩
 rw[Yo e1,Wa,Xbw h.s.et.eb.loc h.n6,Xa];by_cases e2:(Yt x.l).2=0;rotate_left
 .rw[Xn e2,Wc,Qaa,Xa,Xa];exact Wd ⟨λ_=>by rw[hv,Wg (by simp[e1]),Wj e2];exact e2,λe=>absurd e e2⟩
 have pv:=XnA e2;have s2:Ir N ⟨x.h,(Yt x.l).1,x.g,x.v,x.P,x.R⟩ ⟨w.c,w.T,(Yt w.l).1,w.g,w.v,w.m,w.R⟩ B:=h.s.locs (q.2 e2) pv.1 λr hr=>by rw[pv.2]at hr;exact h.s.vx.rl r (XiI r hr)
 obtain⟨l1,y,l2,l3,l4⟩:=XcZ h.hN s2 (ra.2 e1) (Xf9 h.s.vx e1);have l1:YT (Yt w.l).1 (Y0 w a).1=XiJ (Yt x.l).1 (YG x a).1:=l1;rw[Yo e2,Wa,l2,Xa,Xa];have hz:∀f,YA w 18 a b c f=y.2.2:=λf=>by rw[hv,Wg (by simp[e1]),Wg (by simp[e2]),l1,←l3]
 refine Wd ⟨λe=>?_,λe ft hf hc _=>?_⟩
 .rw[hz];exact e
 have e:y.2.2=0:=e;have e':=e;rw[l3]at e';obtain⟨_,w',v,g1,g2⟩:=l4 e';have hl':LBp w.l:=Xee ((Ky (h.s.zr h.hN) h.s.lo.sc h.s.lo.is_ h.s.lo.sl).trans h.s.vx.loc);rw[Qar,h.ver,Xa,Yo ((hz _).trans e),Wa,h.res.2];simp only[Xr,gt_iff_lt,Int.reduceLT,decide_true,decide_false,Wc,Wa,Int.reduceBEq,Int.reduceBNe,Xa];rw[Xbw hl' h.n6,Xa,g1,Xa];exact⟨_,_,rfl,_,g2⟩
end
def Xfd{d:WH}{v:Int}:∀{l:List Int} {k i:Nat} {r:Int},r∈Zi d k (l.set i v)->r∈Zi d k l\/r=v/\ZP d ((k+i:Nat):Int)=true
 |[],k,i,r,h=>by simp[Zi]at h
 |f::l,k,0,r,h=>by
  rw[Od,Zi]at h;rw[Zi];split at h
  .rename_i hp;rw[Wj hp];rcases Us.1 h with h|h
   .exact .inr ⟨h,by simpa using hp⟩
   exact .inl (WC _ h)
  rename_i hp;rw[Wg hp];exact .inl h
 |f::l,k,i+1,r,h=>by
  rw[List.set_cons_succ,Zi]at h;rw[Zi];have ih:=λh=>Xfd (d:=d) (v:=v) (l:=l) (k:=k+1) (i:=i) (r:=r) h;rw[show k+1+i=k+(i+1) by omega]at ih;split at h
  .rename_i hp;rw[Wj hp];rcases Us.1 h with h|h
   .exact .inl (by rw[h];simp)
   exact(ih h).imp (WC _) id
  rename_i hp;rw[Wg hp];exact ih h
section
variable {N k:Nat}{x:Uw}{w:WE}{B:Int->Int->Prop}{a b c:Int}{ft:OD}
def Ir.put(s:Ir N x w B)(hN:NB N)(hlen:w.T.length<=1000000){o id i v v':Int}{h2:Wp}(hB:B o id)(q:Sd N x.h h2 o i v)(i0:0<=i)(i1:i<(hdA x.h.w o).n)(hp:i∈XN (hdA x.h.w o)->rr B v v')(hn:i∉XN (hdA x.h.w o)->v=v'):
 Ir N ⟨h2,x.l,x.g,x.v,x.P,x.R⟩ ⟨w.c,w.T.set (wU (id-1)).toNat (UO.mk (thg w id).H ((thg w id).D.set i.toNat v')),w.l,w.g,w.v,w.m,w.R⟩ B:=by
 have bo:=s.bo _ _ hB;have tl:=s.tlen hN hB;have hb:=s.et.eb.heap;have g:=s.vx.mx.gx;have hpp:=s.hp hN;have ei:(wU (id-1)).toNat=(id-1).toNat:=by rw[Xz aa aa]
 have tg:∀b,1<=b->thg ⟨w.c,w.T.set (wU (id-1)).toNat (UO.mk (thg w id).H ((thg w id).D.set i.toNat v')),w.l,w.g,w.v,w.m,w.R⟩ b=if b=id then UO.mk (thg w id).H ((thg w id).D.set i.toNat v')else thg w b:=λb hb1=>by
  unfold thg;dsimp only;rw[ei,We,UJ];by_cases he:b=id
  .rw[Wj (by rw[he]),Wj aa,Wj he];rfl
  rw[Wg aa,Wg he,←We]
 have ob2:∀r,r=0\/Obb x.h r->r=0\/Obb h2 r:=λr h=>h.imp (λz=>z) (q.ob r).2;have neq:∀a' b',B a' b'->∀j:Nat,(j:Int)<(hdA x.h.w a').n->(a'+1+(j:Int)=o+1+i↔b'=id/\(j:Int)=i):=λa' b' h j hj=>by
  have ha':=(s.bo _ _ h).1;constructor
  .intro e;by_cases hab:a'=o
   .rw[hab]at h;exact⟨s.i1 _ _ _ h hB,aa⟩
   have:=Xec hN hb g ha'.1 bo.1.1 hab;have e1:szA x.h.w a'=(hdA x.h.w a').n+1:=rfl;have e2:szA x.h.w o=(hdA x.h.w o).n+1:=rfl;omega
  rintro⟨e1,e2⟩;rw[e1]at h;rw[s.i2 _ _ _ h hB,e2]
 have fl:∀b',(thg w b').D.length=(if b'=id then(UO.mk (thg w id).H ((thg w id).D.set i.toNat v'))else thg w b').D.length:=λb'=>by
  split
  .rename_i e;rw[e];simp
  rfl
 refine⟨⟨⟨q.ht.hb,s.et.eb.loc,s.et.eb.glo,s.et.eb.wea,s.et.eb.pins,s.et.eb.roots⟩,q.ht.tw⟩,⟨⟨q.gx,s.vx.mx.len,λp hp=>⟨(q.ob _).2 (s.vx.mx.ob p hp).1,(s.vx.mx.ob p hp).2⟩,s.vx.mx.nd,λj j0 j1=>?_⟩,s.vx.loc,s.vx.glo,s.vx.wea,s.vx.gz,λr hr=>ob2 r (s.vx.rr r hr),λr hr=>ob2 r (s.vx.rl r hr),λr hr=>ob2 r (s.vx.rg r hr),λr hr=>ob2 r (s.vx.rw_ r hr)⟩,s.cf.trans q.cf.symm,s.ro,s.lo,s.gl,s.we,s.mkk,s.i1,s.i2,λa' b' h=>?_,λa' b' h=>?_,λa' b' h j hj hjn=>?_,λa' b' h j hj=>?_,λt ht=>?_⟩
 .dsimp only at j1⊢;rw[q.pl]at j1⊢;rw[q.cf];exact s.vx.mx.sm j j0 j1
 .have:=s.bo _ _ h;exact⟨(q.ob _).2 this.1,this.2.1,by dsimp only;rw[Ww];exact this.2.2⟩
 .have:=s.bo _ _ h;dsimp only;rw[tg b' this.2.1,q.hd a' this.1,←s.bh _ _ h];split
  .rename_i e;rw[e]
  rfl
 .have hbo:=s.bo _ _ h;have hl:=s.tlen hN h;dsimp only at hjn⊢;rw[tg b' hbo.2.1,←fl b']at hj;rw[q.hd a' hbo.1]at hjn;have hr:=(hbo.1.1.at_ hpp).rng;rw[tg b' hbo.2.1,q.w _ aa];by_cases he:a'+1+(j:Int)=o+1+i
  .have hx:=(neq a' b' h j aa).1 he;rw[Wj he,Wj hx.1];have hao:a'=o:=s.i2 _ _ _ (hx.1▸h) hB;rw[hao,hx.2]at hjn;rw[hn hjn];dsimp only;rw[hx.1]at hj;rw[show i.toNat=j by omega,We,Ip hj];rfl
  rw[Wg he];rw[s.b1 a' b' h j hj hjn];by_cases hbi:b'=id
  .rw[Wj hbi];have:(j:Int)≠i:=λe=>he ((neq a' b' h j aa).2 ⟨hbi,e⟩);dsimp only;rw[We,We,UJ,Wg aa,hbi]
  rw[Wg hbi]
 .have hbo:=s.bo _ _ h;have hl:=s.tlen hN h;dsimp only at hj⊢;rw[q.hd a' hbo.1]at hj;have hrj:=YC hj;have hr:=(hbo.1.1.at_ hpp).rng;rw[tg b' hbo.2.1,q.w _ aa];by_cases he:a'+1+(j:Int)=o+1+i
  .have hx:=(neq a' b' h j aa).1 he;rw[Wj he,Wj hx.1];have hao:a'=o:=s.i2 _ _ _ (hx.1▸h) hB;rw[hao,hx.2]at hj;dsimp only;have hlt:j<(thg w id).D.length:=by rw[hao]at hl hrj;rw[←hx.1];omega
   rw[show i.toNat=j by omega,We,Ip hlt];exact hp hj
  rw[Wg he];by_cases hbi:b'=id
  .rw[Wj hbi];have:(j:Int)≠i:=λe=>he ((neq a' b' h j aa).2 ⟨hbi,e⟩);have:=s.b2 a' b' h j hj;rw[hbi]at this;dsimp only;rw[We,UJ,Wg aa,←We];exact this
  rw[Wg hbi];exact s.b2 a' b' h j hj
 dsimp only at ht⊢;rw[Ww];rcases W7 ht with ht|ht
 .exact s.th t ht
 have t0:=s.th _ tl.2;unfold Zs at t0⊢;rw[ht];simp only[Wr,UE,bne_eq_false_iff_eq,Ww]at t0⊢;refine⟨t0.1,t0.2.1,t0.2.2.1,?_⟩;rw[YS];intro r hr;have hw:=YS.1 t0.2.2.2;rcases Xfd (d:=(thg w id).H) (k:=0) hr with h|⟨h1,h2'⟩
 .exact hw r h
 rw[h1];rw[Ue,show(i.toNat:Int)=i by omega,s.bh _ _ hB]at h2';have:i∈XN (hdA x.h.w o):=(Y4 (Yy x.h o)).2 ⟨i0,i1,h2'⟩;exact s.le (hp this)
end
section
variable {N k:Nat}{x:Uw}{w:WE}{B:Int->Int->Prop}{a b c:Int}{ft:OD}
def CX.fld(h:CX N k x w B a b c)(op:Int):(∃e,e≠0/\QcS N x a b (Kk op)=some (0,0,e)/\KM w op a b c=e) \/
 ∃o id,QcS N x a b (Kk op)=some (o,b,0)/\B o id/\(Y0 w a).1=id/\Xd w.T (wU (id-1))=some (thg w id)/\wI b=b/\0<=b/\b<(hdA x.h.w o).n/\(b∈XN (hdA x.h.w o)↔Kk op=true)/\QcT N x.h o b=some (wd x.h.w (o+1+b),0) /\
  KM w op a b c=(if op=8 then YT w.l ((thg w id).D.getD b.toNat 0)else if op=9 then(Y0 w c).2 else 0):=by
 have hth:=Xah h.s h.hN a;rw[QcS,h.th,Xa,KM,hth.1];by_cases e1:(thE x a).2=0;rotate_left
 .rw[Xn e1,Wc,Wj e1];exact .inl ⟨_,e1,rfl,rfl⟩
 obtain⟨o1,o2,o3,o4,o5⟩:=h.obj e1;have hbo:=h.s.bo _ _ o1;have hh:=h.s.bh _ _ o1;have hl:=XcX x.h.w (thE x a).1;have b0:=h.tb.1;rw[Yo e1,Wa,Wg (by simp[e1]),o4,Xa,hh,Xz (n:=(hdA x.h.w (thE x a).1).n) aa aa];by_cases e2:b>=(hdA x.h.w (thE x a).1).n
 .rw[Wi e2,Wj e2];exact .inl ⟨2,ae,rfl,rfl⟩
 have hwb:wI b=b:=Xf aa aa;rw[Wh e2,Wa,Wg e2,hwb,JI,Xa];by_cases e3:ZP (hdA x.h.w (thE x a).1) b=Kk op;rotate_left
 .rw[Wj e3];refine .inl ⟨4,ae,?_,rfl⟩;have:(ZP (hdA x.h.w (thE x a).1) b==Kk op)=false:=by simp[e3]
  rw[this];rfl
 rw[Wg (by simp[e3]),e3];have hp:=h.s.hp h.hN;have hat:=hbo.1.1.at_ hp;have hb:=h.s.et.eb.heap;have ep:=h.s.vx.mx.gx.ep;have hf:=JK hp hat;have hr:=hat.rng;have hb1:=hb.1;refine .inr ⟨(thE x a).1,(Xx w a).1,ab,o1,o2,o3,rfl,b0,aa,?_,?_,rfl⟩
 .rw[Y4 (Yy x.h _),e3];exact⟨λq=>q.2.2,λq=>⟨b0,aa,q⟩⟩
 rw[QcT,o4,Xa];dsimp only;rw[show((0:Int) != 0)=false from rfl,Wa,Wh aa,Wa,Wh aa,Wa,Xz (n:=(thE x a).1+1) aa aa,Xz (n:=b) aa aa,Xz (n:=(thE x a).1+1+b) aa aa,YX (by unfold BIG;omega),Xa,Wj (by unfold inW;omega)];rfl
def CX.lens(h:CX N k x w B a b c):w.T.length<=1000/\∀t∈w.T,t.D.length<=1000:=by have:=h.hw.things;have:=h.kk;exact⟨aa,λt ht=>by have:=h.hw.fields t ht;omega⟩
def CX.fgd(h:CX N k x w B a b c){o id:Int}(hB:B o id)(b0:0<=b)(b1:b<(hdA x.h.w o).n):Xd (thg w id).D b=some ((thg w id).D.getD b.toNat 0)/\b.toNat<(thg w id).D.length/\(thg w id).D.length<=1000:=by have t:=h.s.tlen h.hN hB;refine⟨?_,aa,h.lens.2 _ t.2⟩;rw[X7 b0 aa,We,Wb aa];rfl
def st6(h:CX N k x w B a b c):Ok (Qad N x 6 a b c) (YV N x w 6 a b c):=by
 rw[Qad,h.ev,Xa];simp only[Xr,Int.reduceBEq,Wc,Wa,Wl,QcU];rcases h.fld 6 with⟨e,e0,e1,e2⟩|⟨o,id,e1,hB,e2,e3,hwb,b0,b1,hp,e4,e5⟩
 .rw[show(Kk 6)=false from rfl]at e1;rw[e1,Xa,Xn e0,Wc,Qaa,Xa,Xa];exact Wd ⟨λ_=>by rw[ZC 6 aa h.wv,e2];exact e0,λe=>absurd e e0⟩
 rw[show(Kk 6)=false from rfl]at e1;rw[e1,Xa];dsimp only;rw[show((0:Int) != 0)=false from rfl,Wa,e4,Xa,Xa];refine Wd ⟨λe=>absurd rfl e,λ_ ft hf _ _=>?_⟩;have hz:YA w 6 a b c ft.Failed=0:=by rw[ZC 6 aa h.wv,e5];rfl
 rw[Qar,h.ver,Xa,Yo hz,Wa,h.res.2];simp only[Xr,gt_iff_lt,Int.reduceLT,decide_true,decide_false,Wc,Wa,Int.reduceBEq,Int.reduceBNe,Xa];rw[e2,e3,Xa,(h.fgd hB b0 b1).1,Xa];exact⟨_,_,rfl,_,h.s⟩
def XqO(h:CX N k x w B a b c){o id v:Int}(hB:B o id)(b0:0<=b)(b1:b<(hdA x.h.w o).n)(e3:Xd w.T (wU (id-1))=some (thg w id)):Qei N w id b v=some (WE.mk w.c (w.T.set (wU (id-1)).toNat (UO.mk (thg w id).H ((thg w id).D.set b.toNat v))) w.l w.g w.v w.m w.R):=by have hl:=h.lens;have f:=h.fgd hB b0 b1;rw[Qei,Xe aa,e3,Xa,Xe aa,f.1,Xa,Xa]
def st7(h:CX N k x w B a b c):Ok (Qad N x 7 a b c) (YV N x w 7 a b c):=by
 rw[Qad,h.ev,Xa];simp only[Xr,Int.reduceBEq,Wc,Wa,Wl,QcU];rcases h.fld 7 with⟨e,e0,e1,e2⟩|⟨o,id,e1,hB,e2,e3,hwb,b0,b1,hp,e4,e5⟩
 .rw[show(Kk 7)=false from rfl]at e1;rw[e1,Xa,Xn e0,Wc,Qaa,Xa,Xa];exact Wd ⟨λ_=>by rw[ZC 7 aa h.wv,e2];exact e0,λe=>absurd e e0⟩
 rw[show(Kk 7)=false from rfl]at e1 hp;have hnp:b∉XN (hdA x.h.w o):=λq=>by have:=hp.1 q;cases this
 obtain⟨h2,es,q⟩:=Xed h.hN h.s.et.ht h.s.vx.mx.gx (h.s.bo _ _ hB).1 b0 b1 (v:=c) (λq=>absurd q hnp) h.tc;rw[e1,Xa];dsimp only;rw[show((0:Int) != 0)=false from rfl,Wa,e4,Xa,es,Xa,Xa];refine Wd ⟨λe=>absurd rfl e,λ_ ft hf _ _=>?_⟩;have hz:YA w 7 a b c ft.Failed=0:=by rw[ZC 7 aa h.wv,e5];rfl
 rw[Qar,h.ver,Xa,Yo hz,Wa,h.res.2];simp only[Xr,gt_iff_lt,Int.reduceLT,decide_true,decide_false,Wc,Wa,Int.reduceBEq,Int.reduceBNe,Xa];rw[e2,hwb,XqO h hB b0 b1 e3,Xa];exact⟨_,_,rfl,B,h.s.put h.hN (by have:=h.lens.1;omega) hB q b0 b1 (λq=>absurd q hnp) λ_=>rfl⟩
def st9(h:CX N k x w B a b c):Ok (Qad N x 9 a b c) (YV N x w 9 a b c):=by
 have rc:=Jf h.s h.hN c;have ec:QaF N x c=some (YG x c):=XcY h.hN h.s.et h.s.vx h.tc;have ew:Qaz N w c=some (Y0 w c):=KG h.hw h.n6 h.wv h.tc;rw[Qad,h.ev,Xa];simp only[Xr,Int.reduceBEq,Wc,Wa,Wl,QcU];rcases h.fld 9 with⟨e,e0,e1,e2⟩|⟨o,id,e1,hB,e2,e3,hwb,b0,b1,hp,e4,e5⟩
 .rw[show(Kk 9)=true from rfl]at e1;rw[e1,Xa,Xn e0,Wc,Qaa,Xa,Xa];exact Wd ⟨λ_=>by rw[ZC 9 aa h.wv,e2];exact e0,λe=>absurd e e0⟩
 rw[show(Kk 9)=true from rfl]at e1 hp;have e5:KM w 9 a b c=(Y0 w c).2:=e5;rw[e1,Xa];dsimp only;rw[show((0:Int) != 0)=false from rfl,Wa,e4,Xa,ec,Xa];by_cases er:(YG x c).2=0;rotate_left
 .rw[Xn er,Wc,Qaa,Xa,Xa];exact Wd ⟨λ_=>by rw[ZC 9 aa h.wv,e5,rc.1];exact er,λe=>absurd e er⟩
 have hob:=Xf9 h.s.vx er;have tv:tU (YG x c).1:=by
  rcases hob with q|q
  .rw[q];exact⟨aa,aa⟩
  have hp:=h.s.hp h.hN;have:=(q.1.at_ hp).rng;have hm:=XV hp.conf (i:=0) aa (by have:=Xi.1 hp.conf;omega);exact⟨aa,aa⟩
 obtain⟨h2,es,q⟩:=Xed h.hN h.s.et.ht h.s.vx.mx.gx (h.s.bo _ _ hB).1 b0 b1 (v:=(YG x c).1) (λ_=>hob) tv;rw[Yo er,Wa,es,Xa,Xa];refine Wd ⟨λe=>absurd rfl e,λ_ ft hf _ _=>?_⟩;have hz:YA w 9 a b c ft.Failed=0:=by rw[ZC 9 aa h.wv,e5,rc.1];exact er
 rw[Qar,h.ver,Xa,Yo hz,Wa,h.res.2];simp only[Xr,gt_iff_lt,Int.reduceLT,decide_true,decide_false,Wc,Wa,Int.reduceBEq,Int.reduceBNe,Xa,ew];rw[e2,hwb,XqO h hB b0 b1 e3,Xa];exact⟨_,_,rfl,B,h.s.put h.hN (by have:=h.lens.1;omega) hB q b0 b1 (λ_=>rc.2 er) λhn=>absurd (hp.2 rfl) hn⟩
def st8(h:CX N k x w B a b c):Ok (Qad N x 8 a b c) (YV N x w 8 a b c):=by
 rw[Qad,h.ev,Xa];simp only[Xr,Int.reduceBEq,Wc,Wa,Wl,QcU];rcases h.fld 8 with⟨e,e0,e1,e2⟩|⟨o,id,e1,hB,e2,e3,hwb,b0,b1,hp,e4,e5⟩
 .rw[show(Kk 8)=true from rfl]at e1;rw[e1,Xa,Xn e0,Wc,Qaa,Xa,Xa];exact Wd ⟨λ_=>by rw[ZC 8 aa h.wv,e2];exact e0,λe=>absurd e e0⟩
 rw[show(Kk 8)=true from rfl]at e1 hp;have e5:KM w 8 a b c=YT w.l ((thg w id).D.getD b.toNat 0):=e5;have hbp:=hp.2 rfl;have hrel:=h.s.b2 _ _ hB b.toNat (by rw[show(b.toNat:Int)=b by omega];exact hbp);rw[show(b.toNat:Int)=b by omega]at hrel;have hob:=h.s.vx.mx.gx.pt o (h.s.bo _ _ hB).1 b hbp;obtain⟨l1,y,l2,l3,l4⟩:=XcZ h.hN h.s hrel hob;rw[e1,Xa];dsimp only;rw[show((0:Int) != 0)=false from rfl,Wa,e4,Xa,l2,Xa,Xa];refine Wd ⟨λe=>?_,λe ft hf hc _=>?_⟩
 .rw[ZC 8 aa h.wv,e5,l1,←l3];exact e
 have e:y.2.2=0:=e;rw[l3]at e;have hz:YA w 8 a b c ft.Failed=0:=by rw[ZC 8 aa h.wv,e5,l1];exact e
 obtain⟨_,w',v,g1,g2⟩:=l4 e;rw[Qar,h.ver,Xa,Yo hz,Wa,h.res.2];simp only[Xr,gt_iff_lt,Int.reduceLT,decide_true,decide_false,Wc,Wa,Int.reduceBEq,Int.reduceBNe,Xa];rw[e2,e3,Xa,(h.fgd hB b0 b1).1,Xa,g1,Xa];exact⟨_,_,rfl,_,g2⟩
end
section
variable {N k:Nat}{x:Uw}{w:WE}{B:Int->Int->Prop}{a b c:Int}{ft:OD}
def mR(B:Int->Int->Prop)(p:UQ)(m:U5):Prop:=m.M=p.M/\B p.a m.I/\m.B0=p.a+1
def Ir.pins(s:Ir N x w B){h2:Wp}{pins:List UQ}{marks:List U5}(q:OZ N x.h h2)(mx:MX N h2 pins)(mk:R2 (mR B) pins marks):Ir N ⟨h2,x.l,x.g,x.v,pins,x.R⟩ ⟨w.c,w.T,w.l,w.g,w.v,marks,w.R⟩ B:=by have ob2:∀r,r=0\/Obb x.h r->r=0\/Obb h2 r:=λr h=>h.imp (λz=>z) (q.ob r).2;have hl:=mx.len;exact⟨⟨⟨q.ht.hb,s.et.eb.loc,s.et.eb.glo,s.et.eb.wea,by dsimp only;omega,s.et.eb.roots⟩,q.ht.tw⟩,⟨mx,s.vx.loc,s.vx.glo,s.vx.wea,s.vx.gz,λr hr=>ob2 r (s.vx.rr r hr),λr hr=>ob2 r (s.vx.rl r hr),λr hr=>ob2 r (s.vx.rg r hr),λr hr=>ob2 r (s.vx.rw_ r hr)⟩,s.cf.trans q.cf.symm,s.ro,s.lo,s.gl,s.we,mk,s.i1,s.i2,λa b h=>⟨(q.ob _).2 (s.bo a b h).1,(s.bo a b h).2⟩,λa b h=>by rw[q.wd];exact s.bh a b h,λa b h j hj hn=>by rw[q.wd]at hn⊢;exact s.b1 a b h j hj hn,λa b h j hj=>by rw[q.wd]at hj⊢;exact s.b2 a b h j hj,s.th⟩
def XjR(s:Ir N x w B){o id:Int}(h:B o id):Ze w.m id=fiP x.P o:=by
 have e:w.m.findIdx? (λm=>m.I==id)=x.P.findIdx? (λp=>p.a==o):=Xbe (s.mkk.mono λp m q=>by
  by_cases hp:p.a=o
  .have:m.I=id:=s.i1 _ _ _ (hp▸q.2.1) h
   show(m.I==id)=(p.a==o)
   rw[Xl this,Xl hp]
  .have:m.I≠id:=λe=>hp (s.i2 _ _ _ (e▸q.2.1) h)
   show(m.I==id)=(p.a==o)
   rw[Xh this,Xh hp])
 unfold Ze fiP Zj;rw[e];all_goals cases x.P.findIdx? (λp=>p.a==o)<;>rfl
def Xt0(h:CX N k x w B a b c):Ok (Qad N x 19 a b c) (YV N x w 19 a b c):=by
 have hth:=Xah h.s h.hN a;rw[Qad,h.ev,Xa];simp only[Xr,Int.reduceBEq,Wc,Wa,Wl,QeM,h.th,Xa];by_cases e1:(thE x a).2=0;rotate_left
 .rw[Xn e1,Wc,Qaa,Xa,Xa];exact Wd ⟨λ_=>by rw[Xc0 19 aa h.wv,XbC,hth.1,Wj e1];exact e1,λe=>absurd e e1⟩
 obtain⟨o1,o2,o3,o4,o5⟩:=h.obj e1;have hbo:=h.s.bo _ _ o1;have hmi:=XjR h.s o1;have hln:=h.s.mkk.1;have h64:=h.s.vx.mx.len;have hv:∀f,YA w 19 a b c f=if 0<=fiP x.P (thE x a).1/\(Vf w.m (fiP x.P (thE x a).1)).M=1000 then 18 else if fiP x.P (thE x a).1<0/\w.m.length=64 then 18 else if f=true then 18 else 0:=λf=>by rw[Xc0 19 aa h.wv,XbC,hth.1,Wg (by simp[e1]),Wg aa,hmi]
 rw[Yo e1,Wa];obtain⟨y,ey,hy⟩:=Xnv h.hN h.s.et.ht h.s.vx.mx hbo.1;rw[ey,Xa];rcases hy with h18|⟨h0,pq,mx,ep,ea,c1,c2⟩
 .rw[h18,show((18:Int) != 0)=true from rfl,Wc,Qaa,Xa,Xa];refine Wd ⟨λ_=>?_,λe=>absurd e ae⟩;rw[hv];split
  .decide
  split
  .decide
  split
  .decide
  rename_i hn;exact absurd rfl hn
 rw[h0,show((0:Int) != 0)=false from rfl,Wa,Xa];refine Wd ⟨λe=>absurd rfl e,λ_ ft hf _ hba=>?_⟩;have hba:ft.B0=y.2.2.1:=hba rfl;rw[ea]at hba;have mg:0<=fiP x.P (thE x a).1->(fiP x.P (thE x a).1).toNat<x.P.length/\mR B (x.P.getD (fiP x.P (thE x a).1).toNat ⟨0,0⟩) (Vf w.m (fiP x.P (thE x a).1))/\Xd w.m (fiP x.P (thE x a).1)=some (Vf w.m (fiP x.P (thE x a).1)):=λhge=>by
  obtain⟨j,hj,ej,_⟩:=VE (p:=λp:UQ=>p.a==(thE x a).1) (l:=x.P) hge;have ej:fiP x.P (thE x a).1=j:=ej;rw[ej];have g1:x.P.getD ((j:Int)).toNat ⟨0,0⟩=x.P[j]:=by rw[show((j:Int)).toNat=j from rfl,We,Wb hj];rfl
  have g2:Vf w.m (j:Int)=w.m[j]:=by unfold Vf;rw[show((j:Int)).toNat=j from rfl,We,Wb aa];rfl
  rw[g1,g2];exact⟨hj,h.s.mkk.2 j _ _ (Wb hj) (Wb aa),by rw[Xc,Wb aa]⟩
 have hz:YA w 19 a b c ft.Failed=0:=by
  rw[hv,hf,Wg,Wg,Wg ab]
  .rintro⟨q1,q2⟩;exact c2 q1 aa
  rintro⟨q1,q2⟩;have:=(mg q1).2.1.1;exact c1 q1 aa
 rw[Qar,h.ver,Xa,Yo hz,Wa,h.res.2];simp only[Xr,gt_iff_lt,Int.reduceLT,decide_true,decide_false,Wc,Wa,Int.reduceBEq,Int.reduceBNe,Xa,Qd8];rw[o2,Qe8,Xby aa h.n6,Xa,Xa,hmi,Xe aa];rw[ep];by_cases hge:0<=fiP x.P (thE x a).1
 .obtain⟨g1,g2,g3⟩:=mg hge;have hcnt:=(h.s.vx.mx.ob _ (Wt g1)).2;have gd:x.P.getD (fiP x.P (thE x a).1).toNat ⟨0,0⟩=x.P[(fiP x.P (thE x a).1).toNat]:=by rw[We,Wb g1];rfl
  have gc:wI ((Vf w.m (fiP x.P (thE x a).1)).M+1)=(Vf w.m (fiP x.P (thE x a).1)).M+1:=by have:=g2.1;rw[gd]at this;exact Xf aa aa
  rw[Wi aa,Wc,g3,Xa,Xa,gc,X7 aa (by rw[Ww];omega),Xa,Xa];refine⟨_,_,rfl,B,h.s.pins pq (by rw[←ep];exact mx) ?_⟩;unfold Xnt;rw[Wj hge];exact h.s.mkk.set _ ⟨by show(Vf w.m (fiP x.P (thE x a).1)).M+1=_;rw[g2.1],g2.2.1,g2.2.2⟩
 rw[Wh aa,Wa,Xe aa,Xa];refine⟨_,_,rfl,B,h.s.pins pq (by rw[←ep];exact mx) ?_⟩;unfold Xnt;rw[Wg hge];exact h.s.mkk.snoc ⟨rfl,o1,hba⟩
def Xt1(h:CX N k x w B a b c):Ok (Qad N x 20 a b c) (YV N x w 20 a b c):=by
 have hth:=Xah h.s h.hN a;rw[Qad,h.ev,Xa];simp only[Xr,Int.reduceBEq,Wc,Wa,Wl,QeM,h.th,Xa];by_cases e1:(thE x a).2=0;rotate_left
 .rw[Xn e1,Wc,Qaa,Xa,Xa];exact Wd ⟨λ_=>by rw[Xc0 20 aa h.wv,XbC,hth.1,Wj e1];exact e1,λe=>absurd e e1⟩
 obtain⟨o1,o2,o3,o4,o5⟩:=h.obj e1;have hbo:=h.s.bo _ _ o1;have hmi:=XjR h.s o1;have hln:=h.s.mkk.1;have h64:=h.s.vx.mx.len;have hv:∀f,YA w 20 a b c f=if fiP x.P (thE x a).1<0 then 12 else 0:=λf=>by rw[Xc0 20 aa h.wv,XbC,hth.1,Wg (by simp[e1]),Wj rfl,hmi]
 rw[Yo e1,Wa];obtain⟨y,ey,hy⟩:=Xnw h.hN h.s.et.ht h.s.vx.mx hbo.1;rw[ey,Xa];rcases hy with⟨h12,hlt⟩|⟨h0,hge,pq,mx,ep⟩
 .rw[h12,show((12:Int) != 0)=true from rfl,Wc,Qaa,Xa,Xa];refine Wd ⟨λ_=>?_,λe=>absurd e ae⟩;rw[hv,Wj hlt];decide
 rw[h0,show((0:Int) != 0)=false from rfl,Wa,Xa];refine Wd ⟨λe=>absurd rfl e,λ_ ft hf _ _=>?_⟩;obtain⟨j,hj,ej,_⟩:=VE (p:=λp:UQ=>p.a==(thE x a).1) (l:=x.P) hge;have ej:fiP x.P (thE x a).1=j:=ej;have hjm:j<w.m.length:=aa;have hr:=h.s.mkk.2 j _ _ (Wb hj) (Wb hjm);have hcnt:=(h.s.vx.mx.ob _ (Wt hj)).2;have hz:YA w 20 a b c ft.Failed=0:=by rw[hv,Wg aa]
 have gp:x.P.getD j ⟨0,0⟩=x.P[j]:=by rw[We,Wb hj];rfl
 have gc:wI (w.m[j].M-1)=w.m[j].M-1:=by have:=hr.1;exact Xf aa aa
 rw[Qar,h.ver,Xa,Yo hz,Wa,h.res.2];simp only[Xr,gt_iff_lt,Int.reduceLT,decide_true,decide_false,Wc,Wa,Int.reduceBEq,Int.reduceBNe,Xa,Qd8];rw[o2,Qe8,Xby aa h.n6,Xa,Xa,hmi,Xe aa,ej,Xc,Wb hjm,Xa,Xa,gc,Xc,show(j:Int).toNat=j from rfl,Ip hjm,Xa];rw[ep];have hmk:∀{ml:List U5},R2 (mR B) (Xnu x.P (thE x a).1) ml->Ir N ⟨y.1,x.l,x.g,x.v,Xnu x.P (thE x a).1,x.R⟩ ⟨w.c,w.T,w.l,w.g,w.v,ml,w.R⟩ B:=λhm=>h.s.pins pq (by rw[←ep];exact mx) hm;unfold Xnu at hmk⊢;rw[ej,show(j:Int).toNat=j from rfl,gp]at hmk⊢;by_cases h1:x.P[j].M=1
 .have h1':w.m[j].M-1=0:=by have:=hr.1;omega
  rw[Wj h1]at hmk⊢;rw[Xl h1',Wc,Xe aa,Xg aa,Xe aa,show((j+1:Nat):Int).toNat=j+1 from rfl,Xe aa,Xa];have er:(((((w.m.set j (U5.mk w.m[j].I (w.m[j].M-1) w.m[j].B0)).take j)++(((w.m.set j (U5.mk w.m[j].I (w.m[j].M-1) w.m[j].B0)).drop (j+1)).take (w.m.length-(j+1))))++((w.m.set j (U5.mk w.m[j].I (w.m[j].M-1) w.m[j].B0)).drop (j+(w.m.length-(j+1))))).take (j+(w.m.length-(j+1))))=w.m.eraseIdx j:=by
   have hl1:((w.m.set j (U5.mk w.m[j].I (w.m[j].M-1) w.m[j].B0)).take j++((w.m.set j (U5.mk w.m[j].I (w.m[j].M-1) w.m[j].B0)).drop (j+1)).take (w.m.length-(j+1))).length=j+(w.m.length-(j+1)):=by rw[Wu,Wx,Wx,WR,Ww];omega
   rw[IN aa,Ur aa,Ur (l:=List.drop _ _) (by rw[WR,Ww];omega),IH (Uu _),UZ aa,Ik]
  rw[er];refine⟨_,_,rfl,B,hmk ?_⟩;rw[Ik,Ik];exact(R2.take h.s.mkk j).app (R2.drop h.s.mkk (j+1))
 have h1':¬w.m[j].M-1=0:=by have:=hr.1;omega
 rw[Wg h1]at hmk⊢;rw[Xh h1',Wa,Xa];refine⟨_,_,rfl,B,hmk ?_⟩;exact h.s.mkk.set j ⟨by show w.m[j].M-1=x.P[j].M-1;rw[hr.1],hr.2.1,hr.2.2⟩
end
def XiK(w:WE):List Int:=w.R++XC w.l.S++Xp w.g.e++w.m.map (·.I)
def Rch(w:WE)(b:Int):Prop:=∀Q:Int->Prop,(∀r∈XiK w,r≠0->Q r)->(∀t,1<=t->t<=(w.T.length:Int)->Q t->∀r∈K5 (thg w t),r≠0->Q r)->Q b
def sn(v:List Bool)(b:Int):Bool:=v.getD (b-1).toNat false
def phW(v:List Bool)(r:Int):Int:=if(r != 0&&!sn v r)=true then 0 else r
section
variable {N k:Nat}{w:WE}
def Xfe(hm:w.m.length<=1000):∀(n j:Nat) (v:List Int),j<=w.m.length->w.m.length-j<n->v.length<=100000+j->Qc2 N w n (j:Int) v=some (v++(w.m.drop j).map (·.I))
 |0,j,_,_,hn,_=>by omega
 |n+1,j,v,hj,hn,hv=>by
  rw[Qc2];by_cases h:j<w.m.length
  .rw[Xm h,Wc,Xc,Wb h,Xa,Xe aa,Xg aa,Xfe hm n (j+1) _ aa aa (by rw[Wu];simp;omega),Wm h,UA,W0];rfl
  obtain rfl:j=w.m.length:=aa;rw[Xv,Wa,WN (Uu _)];simp
def XnB(hw:WB k w)(hN:1000000<N)(hf:WF w):Qe7 N w=some (XiK w):=by have h1:=hw.roots;have h2:=Xbz hf.loc;have h3:=KT hf.glo;have h4:=Xfe (N:=N) hw.marks N 0 (w.R++XC w.l.S++Xp w.g.e) aa (by have:=hw.marks;omega) (by rw[Wu,Wu];omega);rw[show((0:Nat):Int)=0 from rfl,WL]at h4;rw[Qe7,Xe aa,Zw hw.loc hN,Xa,hf.loc,Wc,Xe aa,Yk hw.glo hN,Xa,hf.glo,Wc,Xe aa,h4,Xa];rfl
def XrI{α:Type}{p:Prop}[Decidable p]{o:Option α}{r:α}(h:grd p o=some r):o=some r:=by
 unfold grd at h;split at h
 .exact h
 cases h
def Xc1(hw:WB k w)(hN:1000000<N)(hk:k<=800)(tw:XE w)(hf:WF w):∀(n i:Nat) (v:List Bool) (q:List Int) (r:List Bool),Qa7 N w n (i:Int) v q=some r->i<=140737488355328->v.length=w.T.length->(∀x∈q,0<=x/\x<=(w.T.length:Int))->(∀b,1<=b->sn v b=true->Rch w b)->(∀x∈q,x≠0->Rch w x)->(∀b,1<=b->b<=(w.T.length:Int)->sn v b=true->∀r∈K5 (thg w b),r∈q)->(∀(j:Nat) (y:Int),j<i->q[j]? = some y->y≠0->sn v y=true) ->
 r.length=w.T.length/\(∀b,1<=b->sn r b=true->Rch w b)/\(∀b,1<=b->b<=(w.T.length:Int)->sn r b=true->∀y∈K5 (thg w b),y≠0->sn r y=true)/\∀x∈q,x≠0->sn r x=true
 |0,i,v,q,r,e,_,_,_,_,_,_,_=>by rw[Qa7]at e;cases e
 |n+1,i,v,q,r,e,hi,hv,hq,s1,s2,c1,c2=>by
  have ht:=hw.things;rw[Qa7]at e;have hql:q.length<=140737488355328:=by
   unfold grd at e;split at e
   .assumption
   cases e
  rw[Xe hql]at e;by_cases hlt:i<q.length;rotate_left
  .rw[Wh aa,Wa]at e;obtain rfl:=WT e;have all:∀x∈q,x≠0->sn v x=true:=λx hx h0=>by obtain⟨j,hj,rfl⟩:=Wv hx;exact c2 j _ aa (Wb hj) h0
   exact⟨hv,s1,λb b0 b1 hb y hy h0=>all y (c1 b b0 b1 hb y hy) h0,all⟩
  have hp:=hq _ (Wt hlt);have hpi:q[i]? = some q[i]:=Wb hlt;rw[Xm hlt,Wc,Xc,hpi,Xa,Xg aa]at e;have hmem:=Wt hlt;generalize hx:q[i]=p at e hp hpi hmem;have c2':∀{v':List Bool} {q':List Int},(∀j:Nat,j<=i->q'[j]? = q[j]?)->(∀y,sn v y=true->sn v' y=true)->(p≠0->sn v' p=true)->∀(j:Nat) (y:Int),j<i+1->q'[j]? = some y->y≠0->sn v' y=true:=λhq' hv' hp' j y hj hy h0=>by
   rw[hq' j aa]at hy;by_cases hji:j=i
   .subst hji;rw[hpi]at hy;cases hy;exact hp' h0
   exact hv' y (c2 j y aa hy h0)
  by_cases h0:p=0
  .rw[Xl h0,Wc]at e;exact Xc1 hw hN hk tw hf n (i+1) v q r e aa hv hq s1 s2 c1 (c2' (λ_ _=>rfl) (λ_ h=>h) λh=>absurd h0 h)
  have hlp:(p-1).toNat<v.length:=aa;have hgv:Xd v (wU (p-1))=some (sn v p):=by rw[Xz aa aa,X7 aa aa];unfold sn;rw[We,Wb hlp];rfl
  rw[Xh h0,Wa,Xa,hgv,Xa]at e;cases hs:sn v p with
  |true=>rw[hs,Wc]at e;exact Xc1 hw hN hk tw hf n (i+1) v q r e aa hv hq s1 s2 c1 (c2' (λ_ _=>rfl) (λ_ h=>h) λ_=>hs)
  |false=>
   obtain⟨g1,g2⟩:=Ks hw (id:=p) aa aa;have hfl:=hw.fields _ g2;rw[hs,Wa,Xa,hgv,Xa,Xa,g1,Xa,XdM aa hN,Xa]at e;have e:=XrI e;rw[Xz (n:=p-1) aa aa]at e;have hset:∀y,1<=y->sn (v.set (p-1).toNat true) y=if y=p then true else sn v y:=λy hy=>by
    unfold sn;rw[We,UJ];by_cases he:y=p
    .rw[Wj (by rw[he]),Wj hlp,Wj he];rfl
    rw[Wg aa,Wg he,←We]
   have rp:=s2 p hmem h0;have rf:∀y∈K5 (thg w p),y≠0->Rch w y:=λy hy hy0 Q q1 q2=>q2 p aa hp.2 (rp Q q1 q2) y hy hy0;have wth:=hf.thing _ g2;have ih:=Xc1 hw hN hk tw hf n (i+1) (v.set (p-1).toNat true) (q++K5 (thg w p)) r e aa (by rw[Ww];exact hv) (λx hx=>by
    rcases Ws.1 hx with hx|hx
    .exact hq x hx
    .exact⟨((tw.1 _ g2).2 x (Vg _ _ _ x hx)).1,wth.2.2.2 x hx⟩)
    (λb b0 hb=>by
     rw[hset b b0]at hb
     split at hb
     .rename_i hbp;rw[hbp];exact rp
     .exact s1 b b0 hb)
    (λx hx hx0=>by
     rcases Ws.1 hx with hx|hx
     .exact s2 x hx hx0
     .exact rf x hx hx0)
    (λb b0 b1 hb y hy=>by
     rw[hset b b0]at hb
     split at hb
     .rename_i hbp;rw[hbp]at hy;exact Uy _ hy
     .exact WX _ (c1 b b0 b1 hb y hy))
    (λj y hj hy hy0=>by
     have hyq:q[j]? = some y:=by
      rw[WU aa]at hy;exact hy
     have hym:=hq y (WW hyq)
     rw[hset y aa]
     split
     .rfl
     .rename_i hyp
      by_cases hji:j=i
      .subst hji;rw[hpi]at hyq;cases hyq;exact absurd rfl hyp
      .exact c2 j y aa hyq hy0)
   exact⟨ih.1,ih.2.1,ih.2.2.1,λx hx=>ih.2.2.2 x (WX _ hx)⟩
def XnC(hw:WB k w)(tw:XE w)(hf:WF w):∀x∈XiK w,0<=x/\x<=(w.T.length:Int):=λx hx=>by
 have⟨t1,t2,t3,t4,t5,t6⟩:=tw;unfold XiK at hx;simp only[Ws]at hx;rcases hx with((hx|hx)|hx)|hx
 .exact⟨(t6 x hx).1,hf.roots x hx⟩
 .refine⟨?_,hf.rloc x hx⟩;obtain⟨p,hp,rfl⟩:=WG.1 hx;exact(t2 p (W6.1 hp).1).1
 .refine⟨?_,hf.rglo x hx⟩;obtain⟨p,hp,rfl⟩:=WG.1 hx;exact(t3 p (W6.1 hp).1).1
 obtain⟨m,hm,rfl⟩:=WG.1 hx;obtain⟨i,hi,e⟩:=Wv hm;have:=hf.mk_ (k:=i) (m:=m) (by rw[Wb hi,e]);omega
def Xlb(hw:WB k w)(hN:NB N)(hk:k<=800)(tw:XE w)(hv:XZ w=true):∃r,QdY N w=some r/\r.length=w.T.length/\∀b,1<=b->b<=(w.T.length:Int)->(sn r b=true↔Rch w b):=by
 have hN':1000000<N:=by unfold NB at hN;omega
 have hf:=Kj hv;have ht:=hw.things;obtain⟨r,er,hl⟩:=XdP hN hw hv tw;have e:=er;rw[QdY,XaC hw hN',Xa,hv,Wl,Wa,Xe aa,XnB hw hN' hf,Xa]at e;cases e1:Qa7 N w N 0 (List.replicate (w.T.length:Int).toNat false) (XiK w)with
 |none=>rw[e1,V4]at e;cases e
 |some y=>
  rw[e1,Xa]at e;obtain rfl:=WT e;have hrep:∀b,sn (List.replicate (w.T.length:Int).toNat false) b=false:=λb=>by unfold sn;rw[We,UG];split<;>rfl
  have p:=Xc1 hw hN' hk tw hf N 0 _ (XiK w) y e1 aa ab (XnC hw tw hf) (λb _ h=>by rw[hrep]at h;cases h) (λx hx h0 Q q1 q2=>q1 x hx h0) (λb _ _ h=>by rw[hrep]at h;cases h) (λj y hj=>aa);refine⟨y,er,p.1,λb b0 b1=>⟨p.2.1 b b0,λh=>?_⟩⟩;have:=h (λt=>sn y t=true) p.2.2.2 λt t0 t1 ht r hr h0=>p.2.2.1 t t0 t1 ht r hr h0;exact this
def Xc2{seen:List Bool}(hl:seen.length<=1000000):∀(n j:Nat) (l:List Int),j<=l.length->l.length-j<n->l.length<=1000000->(∀r∈l.drop j,0<=r/\r<=seen.length)->QaH N w seen n (j:Int) l=some (l.take j++(l.drop j).map (phW seen))
 |0,j,l,_,hn,_,_=>by omega
 |n+1,j,l,hj,hn,hll,hr=>by
  rw[QaH,Xe aa];by_cases h:j<l.length;rotate_left
  .obtain rfl:j=l.length:=aa;rw[Xv,Wa];simp
  have hd:=Wm h;have htk:l.take (j+1)=l.take j++[l[j]]:=by rw[UT,Wb h];rfl
  rw[hd]at hr⊢;have hre:=hr _ (IM);have hr':=λr h=>hr r (WC _ h);rw[Xm h,Wc,Xc,Wb h];simp only[Xa,IS,Xg (show j<=140737488355328 by omega)];have same:phW seen l[j]=l[j]->some (l.take (j+1)++(l.drop (j+1)).map (phW seen))=some (l.take j++(l[j]::l.drop (j+1)).map (phW seen)):=λe=>by rw[htk,UA,e,W0];rfl
  by_cases h0:l[j]=0
  .rw[Yo h0,Wa,Xc2 hl n (j+1) l aa aa hll hr'];exact same (by unfold phW;rw[Wg (by simp[h0])])
  have hlt:(l[j]-1).toNat<seen.length:=aa;have hg:Xd seen (wU (l[j]-1))=some (sn seen l[j]):=by rw[Xz aa aa,X7 aa aa];unfold sn;rw[We,Wb hlt];rfl
  rw[Xn h0,Wc,hg,Xa];cases hb:sn seen l[j]with
  |true=>rw[Wl,Wa,Xc2 hl n (j+1) l aa aa hll hr'];exact same (by unfold phW;rw[Wg (by rw[hb];simp)])
  |false=>
   rw[WY,Wc,Xc2 hl n (j+1) (l.set j 0) (by rw[Ww];omega) (by rw[Ww];omega) (by rw[Ww];exact hll) (by rw[UZ aa];exact hr')];have hp:phW seen l[j]=0:=by unfold phW;rw[Wj (by rw[hb];simp[h0])]
   rw[UA,hp,UZ aa,UT,UJ,Wj rfl,Wj h,IH (Uu _),W0];rfl
def XiL(hw:WB k w)(hN:NB N)(hk:k<=800)(tw:XE w)(hv:XZ w=true):∃W,QbB N w=some (⟨w.c,w.T,w.l,w.g,W,w.m,w.R⟩,0)/\R2 (eR (λr r'=>(r=0/\r'=0)\/(r≠0/\Rch w r/\r'=r)\/(r≠0/\¬Rch w r/\r'=0))) w.v.e W.e:=by
 have hN':1000000<N:=by unfold NB at hN;omega
 have hf:=Kj hv;have ht:=hw.things;have l3:=KT hf.wea;obtain⟨seen,es,hl,hs⟩:=Xlb hw hN hk tw hv;have hr:∀r∈Xp w.v.e,0<=r/\r<=(w.T.length:Int):=λr hr=>by refine⟨?_,hf.rwea r hr⟩;obtain⟨p,hp,rfl⟩:=WG.1 hr;exact(tw.2.2.2.1 p (W6.1 hp).1).1
 have e1:=Xc2 (N:=N) (w:=w) (seen:=seen) aa N 0 (Xp w.v.e) aa aa aa (by rw[WL,hl];exact hr);rw[show((0:Nat):Int)=0 from rfl,Ot,Um,WL]at e1;have hR:R2 (λr r'=>(r=0/\r'=0)\/(r≠0/\Rch w r/\r'=r)\/(r≠0/\¬Rch w r/\r'=0)) (Xp w.v.e) ((Xp w.v.e).map (phW seen)):=by
  refine⟨ab,λi r r' h1 h2=>?_⟩;rw[IQ,h1]at h2;cases h2;have hm:=hr r (WW h1);unfold phW;by_cases h0:r=0
  .rw[Wg (by simp[h0])];exact .inl ⟨h0,h0⟩
  right;cases hb:sn seen r with
  |true=>rw[Wg ab];exact .inl ⟨h0,(hs r aa hm.2).1 hb,rfl⟩
  |false=>rw[Wj (by simp[h0])];exact .inr ⟨h0,(λh=>by rw[(hs r aa hm.2).2 h]at hb;cases hb),rfl⟩
 obtain⟨W,e2,hW⟩:=Xf5 hN (t:=w.v) hw.wea hf.wea hR;refine⟨W,?_,hW⟩;rw[QbB,XaC hw hN',Xa,hv,Wl,Wa,es,Xa,Yk hw.wea hN',hf.wea,Wc,Xa,e1,Xa,e2,Xa]
end
def R2.comp{α β γ:Type}{r:α->β->Prop}{s:α->γ->Prop}{l:List α}{m:List β}{n:List γ}(h:R2 r l m)(g:R2 s l n):R2 (λb c=>∃a,r a b/\s a c) m n:=by refine⟨g.1.trans h.1.symm,λk b c hb hc=>?_⟩;have hk:=(Iq.1 hb).1;have h1:=h.1;have ha:=Wb (show k<l.length by omega);exact⟨_,h.2 k _ _ ha hb,g.2 k _ _ ha hc⟩
def R2.trans{α β γ:Type}{r:α->β->Prop}{s:β->γ->Prop}{l:List α}{m:List β}{n:List γ}(h:R2 r l m)(g:R2 s m n):R2 (λa c=>∃b,r a b/\s b c) l n:=by refine⟨g.1.trans h.1,λk a c ha hc=>?_⟩;obtain⟨b,hb,hr⟩:=h.get ha;exact⟨b,hr,g.2 k _ _ hb hc⟩
def XhK{d:WH}:∀{l:List Int} {k:Nat} {r:Int},r∈Zi d k l->∃j:Nat,j<l.length/\ZP d ((k+j:Nat):Int)=true/\l.getD j 0=r
 |[],k,r,h=>by simp[Zi]at h
 |f::l,k,r,h=>by
  have ih:=λh=>XhK (d:=d) (l:=l) (k:=k+1) (r:=r) h;rw[Zi]at h;split at h
  .rename_i hp;rcases Us.1 h with h|h
   .exact⟨0,ab,hp,by rw[h];rfl⟩
   obtain⟨j,j1,j2,j3⟩:=ih h;exact⟨j+1,ah,by rw[show k+(j+1)=k+1+j by omega];exact j2,by simpa using j3⟩
  obtain⟨j,j1,j2,j3⟩:=ih h;exact⟨j+1,ah,by rw[show k+(j+1)=k+1+j by omega];exact j2,by simpa using j3⟩
def XhL{d:WH}:∀{l:List Int} {k j:Nat},j<l.length->ZP d ((k+j:Nat):Int)=true->l.getD j 0∈Zi d k l
 |[],k,j,h,_=>by simp at h
 |f::l,k,0,h,hp=>by rw[Zi,Wj (by simpa using hp)];simp
 |f::l,k,j+1,h,hp=>by
  have ih:=XhL (d:=d) (l:=l) (k:=k+1) (j:=j) (by simpa using h) (by rw[show k+1+j=k+(j+1) by omega];exact hp);rw[Zi];split
  .exact WC _ (by simpa using ih)
  simpa using ih
section
variable {N k:Nat}{x:Uw}{w:WE}{B:Int->Int->Prop}
def Ir.refs(s:Ir N x w B)(hN:NB N){a b r:Int}(h:B a b):r∈K5 (thg w b)↔∃j:Nat,(j:Int)∈XN (hdA x.h.w a)/\(thg w b).D.getD j 0=r:=by
 have tl:=s.tlen hN h;have hh:=s.bh _ _ h;unfold K5;constructor
 .intro hr;obtain⟨j,j1,j2,j3⟩:=XhK hr;rw[hh,Ue]at j2;exact⟨j,(Y4 (Yy x.h a)).2 ⟨aa,aa,j2⟩,j3⟩
 rintro⟨j,j1,rfl⟩;have q:=(Y4 (Yy x.h a)).1 j1;exact XhL (k:=0) aa (by rw[hh,Ue];exact q.2.2)
def Ir.strong(s:Ir N x w B):R2 (rr B) (JF x) (XiK w):=by
 have hl:JF x=((x.R++XC x.l.S)++Xp x.g.e)++x.P.map (·.a):=by unfold JF;rw[s.vx.loc,s.vx.glo];rfl
 rw[hl];exact((s.ro.app (OS s.lo.sl)).app (OF s.gl)).app (R2.map s.mkk λ_ _ q=>.inr q.2.1)
def XrJ(B:Int->Int->Prop)(M:List (Int×Int))(a' b:Int):Prop:=∃a,B a b/\(a,a')∈M
def XrK{M:List (Int×Int)}{a a' b:Int}(hz:∀a a',rel M a a'->(a'=0↔a=0))(z:Zr (rr B))(h1:rel M a a')(h2:rr B a b):rr (XrJ B M) a' b:=by
 rcases h1 with h1|h1
 .exact .inl ⟨h1.2,(z a b h2).2 h1.1⟩
 rcases h2 with h2|h2
 .exact .inl ⟨(hz a a' (.inr h1)).2 h2.1,h2.2⟩
 exact .inr ⟨a,h2,h1⟩
def XjS(s:Ir N x w B)(hN:NB N)(hw:WB k w)(hk:k<=800)(tw:XE w):Ok (Qcf N x) λr=>r.2.2=3\/(r.2.2=0/\r.1.h.s=1-x.h.s/\∃W,QbB N w=some (⟨w.c,w.T,w.l,w.g,W,w.m,w.R⟩,0)/\∃B',Ir N r.1 ⟨w.c,w.T,w.l,w.g,W,w.m,w.R⟩ B'):=by
 have hp:=s.hp hN;have z:=s.zr hN;have hst:=s.strong;have hwv:=s.wv hN;obtain⟨W,eW,hW⟩:=XiL hw hN hk tw hwv;have fld:∀a b,B a b->∀j∈XN (hdA x.h.w a),∃v',v'∈K5 (thg w b)/\rr B (wd x.h.w (a+1+j)) v':=λa b h j hj=>by have r:=YC hj;have e:(j.toNat:Int)=j:=aa;have:=s.b2 a b h j.toNat (by rw[e];exact hj);rw[e]at this;exact⟨_,(s.refs hN h).2 ⟨j.toNat,by rw[e];exact hj,rfl⟩,this⟩
 refine Ok.mono (XrG hN s.et s.vx (P:=λa=>∃b,B a b/\Rch w b) (λa ha ⟨b,hb,hr⟩ j hj=>?_) λr hr=>?_) λr hr=>?_
 .obtain⟨v',h1,h2⟩:=fld a b hb j hj;rcases h2 with h2|h2
  .exact .inl h2.1
  right;have bo:=s.bo _ _ hb;have:=s.rng hN h2;exact⟨v',h2,λQ q1 q2=>q2 b bo.2.1 bo.2.2 (hr Q q1 q2) v' h1 aa⟩
 .obtain⟨b,hb,h⟩:=hst.meml hr;rcases h with h|h
  .exact .inl h.1
  have:=s.rng hN h;exact .inr ⟨b,h,λQ q1 _=>q1 b hb aa⟩
 rcases hr with h3|⟨h0,M,c⟩
 .exact .inl h3
 refine .inr ⟨h0,c.ch.sp,W,eW,XrJ B M,?_⟩;have hpy:=XL hN c.et.eb.heap c.vx.mx.gx.ep;have hz:∀a a',rel M a a'->(a'=0↔a=0):=λa a' h=>by
  rcases h with h|h
  .exact⟨λ_=>h.1,λ_=>h.2⟩
  have h1:=((c.ch.l _ h).1.1.at_ hp).rng;have h2:=(((c.ch.ob a').2 (WG.2 ⟨_,h,rfl⟩)).1.at_ hpy).rng;dsimp only at h1;exact⟨λe=>aa,λe=>aa⟩
 have mfn:∀a b c',(a,b)∈M->(a,c')∈M->b=c':=λa b c' h1 h2=>by
  have hn:=c.ch.n1;rw[List.Nodup,Iv,Uf]at hn;obtain⟨i,hi,ei⟩:=Wv h1;obtain⟨j,hj,ej⟩:=Wv h2;rcases IR i j with g|g|g
  .exact absurd (by rw[ei,ej]) (hn i j hi hj g)
  .subst g;rw[ei]at ej;exact congrArg Prod.snd ej
  exact absurd (by rw[ei,ej]) (hn j i hj hi g)
 have minj:∀a b c',(a,c')∈M->(b,c')∈M->a=b:=λa b c' h1 h2=>by
  have hn:=c.ch.n2;rw[List.Nodup,Iv,Uf]at hn;obtain⟨i,hi,ei⟩:=Wv h1;obtain⟨j,hj,ej⟩:=Wv h2;rcases IR i j with g|g|g
  .exact absurd (by rw[ei,ej]) (hn i j hi hj g)
  .subst g;rw[ei]at ej;exact congrArg Prod.fst ej
  exact absurd (by rw[ei,ej]) (hn j i hj hi g)
 have seen:∀a b,B a b->(a∈M.map (·.1)↔Rch w b):=λa b hab=>by
  constructor
  .intro h;obtain⟨a',ha'⟩:=KO h;obtain⟨_,b',hb',hr⟩:=c.ch.l _ ha';rw[s.i1 a b b' hab hb'];exact hr
  intro h;obtain⟨a2,h1,h2⟩:=h (λt=>∃a,B a t/\a∈M.map (·.1)) (λr hr h0=>by
   obtain⟨a,ha,h⟩:=hst.memr hr
   rcases h with h|h
   .exact absurd h.2 h0
   .rcases c.st a ha with h'|h'
    .have:=s.rng hN h;omega
    .exact⟨a,h,h'⟩) λt _ _ ⟨a,hat,ham⟩ r hr h0=>by
   obtain⟨j,hj,ej⟩:=(s.refs hN hat).1 hr
   have hv:=s.b2 a t hat j hj
   rw[ej]at hv
   rcases hv with hv|hv
   .exact absurd hv.2 h0
   .obtain⟨a',ha'⟩:=KO ham
    have:=c.ch.f2 _ ha' j hj
    rcases this with q|q
    .have:=s.rng hN hv;dsimp only at q;omega
    .exact⟨_,hv,XcW q⟩
  rw[s.i2 a a2 b hab h1];exact h2
 have nw:∀{a' b},(∃a,rel M a a'/\rr B a b)->rr (XrJ B M) a' b:=λ⟨a,h1,h2⟩=>XrK hz z h1 h2;refine⟨c.et,c.vx,s.cf.trans c.ch.cf.symm,(c.rt.comp s.ro).mono λ_ _=>nw,⟨s.lo.sc.trans c.lc.1.symm,s.lo.is_.trans c.lc.2.symm,(c.ls.comp s.lo.sl).mono λa' b ⟨a,h1,h2⟩=>⟨h2.1.trans h1.1.symm,h2.2.1.trans h1.2.1.symm,λhl=>?_,λhl=>?_⟩⟩,(c.gl.comp s.gl).mono λa' b ⟨a,h1,h2⟩=>⟨h2.1.trans h1.1.symm,h2.2.1.trans h1.2.1.symm,λhl=>?_,λhl=>?_⟩,?_,?_,λa b d ⟨a1,h1,m1⟩ ⟨a2,h2,m2⟩=>?_,λa b d ⟨a1,h1,m1⟩ ⟨a2,h2,m2⟩=>?_,λa' b ⟨a,h1,m1⟩=>?_,λa' b ⟨a,h1,m1⟩=>?_,λa' b ⟨a,h1,m1⟩ j hj hjn=>?_,λa' b ⟨a,h1,m1⟩ j hj=>?_,s.th⟩
 .rw[h1.2.1]at hl;exact nw ⟨_,h1.2.2.1 hl,h2.2.2.1 hl⟩
 .rw[h1.2.1]at hl;rw[h1.2.2.2 hl,h2.2.2.2 hl]
 .rw[h1.2.1]at hl;exact nw ⟨_,h1.2.2.1 hl,h2.2.2.1 hl⟩
 .rw[h1.2.1]at hl;rw[h1.2.2.2 hl,h2.2.2.2 hl]
 .refine(c.we.comp (s.we.trans hW)).mono λy g ⟨a,h1,b,h2,h3⟩=>⟨h3.1.trans (h2.1.trans h1.1.symm),h3.2.1.trans (h2.2.1.trans h1.2.1.symm),λhl=>?_,λhl=>?_⟩
  .rw[h1.2.1]at hl;have q1:=h1.2.2.1 hl;have q2:=h2.2.2.1 hl;have q3:=h3.2.2.1 (by rw[h2.2.1];exact hl);have m0:∀v,(0,v)∉M:=λv hv=>by have:=((c.ch.l _ hv).1.1.at_ hp).rng;dsimp only at this;omega
   rcases q2 with q2|q2
   .rw[q2.1]at q1;rw[q2.2]at q3;have e1:y.a=0:=by
     rcases q1 with q|q|q
     .exact q.2
     .exact absurd q (m0 _)
     exact q.2
    have e2:g.a=0:=by
     rcases q3 with q|q|q
     .exact q.2
     .exact absurd rfl q.1
     exact q.2.2
    exact .inl ⟨e1,e2⟩
   have rg:=s.rng hN q2;have sa:=seen _ _ q2;rcases q3 with q|q|q
   .omega
   .rw[q.2.2];rcases q1 with p|p|p
    .omega
    .exact .inr ⟨_,q2,p⟩
    exact absurd (sa.2 q.2.1) p.1
   rcases q1 with p|p|p
   .omega
   .exact absurd (sa.1 (XcW p)) q.2.1
   exact .inl ⟨p.2,q.2.2⟩
  rw[h1.2.1]at hl;rw[h3.2.2.2 (by rw[h2.2.1];exact hl),h2.2.2.2 hl,h1.2.2.2 hl]
 .rw[c.pi];exact s.mkk.mono_mem λp hp' m _ q=>⟨q.1,⟨p.a,q.2.1,c.ps p hp'⟩,q.2.2⟩
 .have:=minj _ _ _ m1 m2;subst this;exact s.i1 _ _ _ h1 h2
 .have:=s.i2 _ _ _ h1 h2;subst this;exact mfn _ _ _ m1 m2
 .have bo:=s.bo _ _ h1;exact⟨(c.ch.ob a').2 (WG.2 ⟨_,m1,rfl⟩),bo.2⟩
 .have:=c.ch.hd _ m1;dsimp only at this;rw[this];exact s.bh _ _ h1
 .have hd:=c.ch.hd _ m1;dsimp only at hd;rw[hd]at hjn;have tl:=s.tlen hN h1;have hj:j<(thg w b).D.length:=hj;have:=c.ch.f1 _ m1 j aa (by dsimp only;omega) hjn;dsimp only at this;rw[this];exact s.b1 _ _ h1 j hj hjn
 have hd:=c.ch.hd _ m1;dsimp only at hd;rw[hd]at hj;have:=c.ch.f2 _ m1 j hj;exact nw ⟨_,this,s.b2 _ _ h1 j hj⟩
end
section
variable {N k:Nat}{x:Uw}{w:WE}{B:Int->Int->Prop}{a b c:Int}{d:WH}
def XiM{r:Int->Int->Prop}{l m:WD}{y z:Int}(hz:Zr r)(h:ON r l m)(hy:y≠0)(hz':z≠0):(Yh m z).2.2.2=(Yh l y).2.2.2:=by
 unfold Yh;rw[Ky hz h.sc h.is_ h.sl,h.sc,Xf8 h,h.sl.1,h.is_,XhG h.sl,Wg hy,Wg hz'];split
 .rfl
 split
 .rfl
 split
 .rfl
 split<;>rfl
def XrL(B:Int->Int->Prop)(at_ id a b:Int):Prop:=B a b\/(a=at_/\b=id)
def Ir.add(s:Ir N x w B)(hN:NB N){h2:Wp}{at_:Int}(ht:HT h2)(q:O8 N x.h h2 at_ d)(hv:XM d=true)(hk:d.k≠0)(hw1:w.T.length<=1000000):Ir N ⟨h2,x.l,x.g,x.v,x.P,x.R⟩ ⟨w.c,w.T++[UO.mk d (List.replicate d.n.toNat (0:Int))],w.l,w.g,w.v,w.m,w.R⟩ (XrL B at_ ((w.T.length:Int)+1)):=by
 have hp:=s.hp hN;have vl:=XO hv;have up:∀{u v},rr B u v->rr (XrL B at_ ((w.T.length:Int)+1)) u v:=λh=>h.imp (λz=>z) .inl;have upE:∀{l m},R2 (eR (rr B)) l m->R2 (eR (rr (XrL B at_ ((w.T.length:Int)+1)))) l m:=λh=>h.mono λu v e=>⟨e.1,e.2.1,λz=>up (e.2.2.1 z),e.2.2.2⟩
 have ob2:∀r,r=0\/Obb x.h r->r=0\/Obb h2 r:=λr h=>h.imp (λz=>z) λh=>(q.ob r).2 (.inl h);have hdo:∀u,Obb x.h u->hdA h2.w u=hdA x.h.w u:=λu hu=>by have:=(XJ x.h.w u).2.1;unfold hdA;rw[q.w u hu u (Uo _) aa]
 have to_:∀v,1<=v->v<=(w.T.length:Int)->thg ⟨w.c,w.T++[UO.mk d (List.replicate d.n.toNat (0:Int))],w.l,w.g,w.v,w.m,w.R⟩ v=thg w v:=λv v0 v1=>by unfold thg;dsimp only;rw[We,WU aa,←We]
 have tn:thg ⟨w.c,w.T++[UO.mk d (List.replicate d.n.toNat (0:Int))],w.l,w.g,w.v,w.m,w.R⟩ ((w.T.length:Int)+1)=UO.mk d (List.replicate d.n.toNat (0:Int)):=by unfold thg;dsimp only;rw[show((w.T.length:Int)+1-1).toNat=w.T.length by omega,We,Ug aa,IE];rfl
 refine⟨⟨⟨ht.hb,s.et.eb.loc,s.et.eb.glo,s.et.eb.wea,s.et.eb.pins,s.et.eb.roots⟩,ht.tw⟩,⟨⟨q.gx,s.vx.mx.len,λp hp=>⟨(q.ob _).2 (.inl (s.vx.mx.ob p hp).1),(s.vx.mx.ob p hp).2⟩,s.vx.mx.nd,λj j0 j1=>?_⟩,s.vx.loc,s.vx.glo,s.vx.wea,s.vx.gz,λr hr=>ob2 r (s.vx.rr r hr),λr hr=>ob2 r (s.vx.rl r hr),λr hr=>ob2 r (s.vx.rg r hr),λr hr=>ob2 r (s.vx.rw_ r hr)⟩,s.cf.trans q.cf.symm,s.ro.mono λ_ _=>up,⟨s.lo.sc,s.lo.is_,s.lo.sl.mono λu v e=>⟨e.1,e.2.1,λz=>up (e.2.2.1 z),e.2.2.2⟩⟩,upE s.gl,upE s.we,s.mkk.mono λu v e=>⟨e.1,.inl e.2.1,e.2.2⟩,?_,?_,?_,?_,?_,?_,λt ht=>?_⟩
 .dsimp only at j1⊢;rw[q.pl]at j1;rw[q.pn j j0 j1,q.cf];exact s.vx.mx.sm j j0 j1
 .rintro u v v' (h1|h1) (h2'|h2')
  .exact s.i1 _ _ _ h1 h2'
  .exact absurd (h2'.1▸(s.bo _ _ h1).1) q.fr
  .exact absurd (h1.1▸(s.bo _ _ h2').1) q.fr
  rw[h1.2,h2'.2]
 .rintro u v v' (h1|h1) (h2'|h2')
  .exact s.i2 _ _ _ h1 h2'
  .have:=(s.bo _ _ h1).2.2;omega
  .have:=(s.bo _ _ h2').2.2;omega
  rw[h1.1,h2'.1]
 .rintro u v (h1|h1)
  .have:=s.bo _ _ h1;exact⟨(q.ob _).2 (.inl this.1),this.2.1,by dsimp only;rw[Wu];simp;omega⟩
  rw[h1.1,h1.2];exact⟨(q.ob _).2 (.inr rfl),aa,by dsimp only;rw[Wu];simp⟩
 .rintro u v (h1|h1)
  .have bo:=s.bo _ _ h1;rw[to_ v bo.2.1 bo.2.2,s.bh _ _ h1];exact(hdo u bo.1).symm
  rw[h1.1,h1.2,tn];exact q.hd.symm
 .rintro u v (h1|h1) j hj hn
  .have bo:=s.bo _ _ h1;have tl:=s.tlen hN h1;rw[to_ v bo.2.1 bo.2.2]at hj⊢;dsimp only at hn⊢;rw[hdo u bo.1]at hn;have ez:szA x.h.w u=(hdA x.h.w u).n+1:=rfl;rw[q.w u bo.1 _ aa aa];exact s.b1 _ _ h1 j hj hn
  rw[h1.2,tn]at hj⊢;dsimp only at hj⊢;rw[WO]at hj;rw[h1.1,q.zf j aa aa,We,UG,Wj hj];rfl
 .rintro u v (h1|h1) j hj
  .have bo:=s.bo _ _ h1;dsimp only at hj⊢;rw[hdo u bo.1]at hj;have hr:=YC hj;have ez:szA x.h.w u=(hdA x.h.w u).n+1:=rfl;rw[to_ v bo.2.1 bo.2.2,q.w u bo.1 _ aa aa];exact up (s.b2 _ _ h1 j hj)
  dsimp only at hj⊢;rw[h1.1,q.hd]at hj;have hr:=YC hj;rw[h1.1,h1.2,tn,q.zf j aa hr.2];refine .inl ⟨rfl,?_⟩;dsimp only;rw[We,UG];split<;>rfl
 dsimp only at ht⊢;rw[Wu];rcases Ws.1 ht with ht|ht
 .have t0:=s.th t ht;unfold Zs at t0⊢;simp only[Wr,UE,bne_eq_false_iff_eq]at t0⊢;refine⟨t0.1,t0.2.1,t0.2.2.1,?_⟩;rw[YS];intro r hr;have:=YS.1 t0.2.2.2 r hr;simp;omega
 rw[WM.1 ht];unfold Zs;simp only[Wr,UE,bne_eq_false_iff_eq,IG];refine⟨hv,hk,by rw[WO];omega,?_⟩;rw[YS];intro r hr;have:=Vg _ _ _ r hr;rw[(IW.1 this).2];omega
def Qoa(s:Ir N x w B)(hN:NB N)(hw:WB k w)(hkk:k<=800)(tw:XE w)(hv:XM d=true)(tm:tW d.Map)(hkd:d.k≠0)(hnd:XI x.h.c (Xy d)≠-1):Ok (Qeg N x d) λy=>y.2.2=3\/(y.2.2=0/\∃(x1:Uw) (W:W4) (B1:Int->Int->Prop),(x1=x/\W=w.v\/QbB N w=some (⟨w.c,w.T,w.l,w.g,W,w.m,w.R⟩,0)/\x1.h.s≠x.h.s)/\Ir N x1 ⟨w.c,w.T,w.l,w.g,W,w.m,w.R⟩ B1/\HT y.1.h/\O8 N x1.h y.1.h y.2.1 d/\y.1=⟨y.1.h,x1.l,x1.g,x1.v,x1.P,x1.R⟩):=by
 rw[Qeg,(Vk hN s.et).2 s.vx,Xa,Wl,Wa];have gx:=s.vx.mx.gx;obtain⟨y,ey,hy⟩:=XqN hN s.et.ht gx hv tm hkd hnd;rw[ey,Xa,Xr];rcases hy with h3|⟨h0,ht,q⟩
 ·
  rw[h3,show((3:Int)==3)=true from rfl,Wc];refine WQ (XjS s hN hw hkk tw) λy3 _ hy3=>?_;rcases hy3 with e3|⟨e0,esp,W,eW,B',s'⟩
  .rw[e3];exact Wd (.inl rfl)
  rw[e0,show((0:Int) != 0)=false from rfl,Wa];have hcf:y3.1.h.c=x.h.c:=s'.cf.symm.trans s.cf;obtain⟨y4,ey4,hy4⟩:=XqN hN s'.et.ht s'.vx.mx.gx hv tm hkd (by rw[hcf];exact hnd);rw[ey4,Xa];rcases hy4 with e4|⟨e4,ht4,q4⟩
  .rw[e4];exact Wd (.inl rfl)
  rw[e4];dsimp only;rw[show((0:Int) != 0)=false from rfl,Wa];have hsp:=(s.hp hN).space;exact Wd (.inr ⟨rfl,y3.1,W,B',.inr ⟨eW,aa⟩,s',ht4,q4.new s'.vx.mx.gx hN s'.et.eb.heap,rfl⟩)
 rw[h0,show((0:Int)==3)=false from rfl,Wa];dsimp only;rw[show((0:Int) != 0)=false from rfl,Wa];exact Wd (.inr ⟨rfl,x,w.v,B,.inl ⟨rfl,rfl⟩,s,ht,q.new gx hN s.et.eb.heap,rfl⟩)
def XiN(op:Int)(ho:op=1\/op=2\/op=3)(h:XZ w=true)(f:Bool):YA w op a b c f=JC w op a b f:=by unfold YA;rw[h,Wg ab,Wj ho]
def XnD(h:CX N k x w B a b c){op:Int}(ho:op=1\/op=2\/op=3):Ok (Qad N x op a b c) (YV N x w op a b c):=by
 have h10:10<=N:=by have:=h.n6;omega
 have hv:=XiN (w:=w) (a:=a) (b:=b) (c:=c) op ho h.wv;have hln:=h.s.mkk.1;obtain⟨dd,ed,hdd⟩:=XdN (N:=N) op h.ta h.tb;have hn19:¬op=19:=aa;have z:=h.s.zr h.hN;have le1:∀y,y≠0->(Yh w.l y).2.2.2=(Yh x.l 1).2.2.2:=λy hy=>XiM z h.s.lo aa hy;have main:Ok (QdK N x op a b) (YV N x w op a b c):=by
  rw[QdK];by_cases hpn:x.P.length>0
  .rw[Wi aa,Wc,Qaa,Xa];exact Wd ⟨λ_=>by rw[hv];unfold JC;rw[Wj aa];decide,λe=>absurd e ae⟩
  have hv1:∀f,YA w op a b c f=if¬okW op a b then 1 else if XbB w.c (hdW op a b)=false then 1 else if YT w.l 1≠0 then YT w.l 1 else if f=true then 3 else 0:=λf=>by rw[hv];unfold JC;rw[Wg aa]
  rw[Wh aa,Wa,ed,Xa,Xr];by_cases hok:okW op a b;rotate_left
  .rw[Wh hok,WY,Wc,Qaa,Xa];exact Wd ⟨λ_=>by rw[hv1,Wj hok];decide,λe=>absurd e ae⟩
  have hd:=hdd hok;rw[Wi hok,Wl,Wa,Xjy h10,Xa,hd];cases hA:XbB x.h.c (hdW op a b)with
  |false=>rw[WY,Wc,Qaa,Xa];exact Wd ⟨λ_=>by rw[hv1,Wg (by simpa using hok),h.s.cf,Wj hA];decide,λe=>absurd e ae⟩
  |true=>
  have hl1:YT w.l 1=(Yh x.l 1).2.2.2:=by unfold YT;rw[Wg aa];exact le1 1 aa
  have hv2:∀f,YA w op a b c f=if(Yh x.l 1).2.2.2≠0 then(Yh x.l 1).2.2.2 else if f=true then 3 else 0:=λf=>by rw[hv1,Wg (by simpa using hok),h.s.cf,Wg (by rw[hA];simp),hl1]
  rw[Wl,Wa,Vy h.s.et.eb.loc h.n6,Xa];by_cases hl:(Yh x.l 1).2.2.2=0;rotate_left
  .rw[Xn hl,Wc,Qaa,Xa];exact Wd ⟨λ_=>by rw[hv2,Wj hl];exact hl,λe=>absurd e hl⟩
  rw[Yo hl,Wa];have hA':=hA;unfold XbB at hA';rw[Wr,Wr,bne_iff_ne,bne_iff_ne]at hA';obtain⟨a1,a2,a3⟩:=hA';have tm:tW (hdW op a b).Map:=by
   unfold hdW;dsimp only;split
   .rename_i h1;have:=hok.2 h1;have:=h.tb.1;exact⟨aa,aa⟩
   exact⟨aa,aa⟩
  have vl:=XO a1;obtain⟨y,ey,hy⟩:=Qoa h.s h.hN h.hw h.kk h.tw a1 tm a2 a3;rw[ey,Xa];rcases hy with h3|⟨h0,x1,W,B1,hcase,s1,ht,q,ex⟩
  .rw[h3,show((3:Int) != 0)=true from rfl,Wc,Qaa,Xa];refine Wd ⟨λ_=>?_,λe=>absurd e ae⟩;rw[hv2,Wg (by simp[hl])];show(if(_||_:Bool)=true then(3:Int)else 0)≠0;rw[Wj (by rfl)];decide
  have hlen:=h.lens.1;have s2:=s1.add h.hN ht q a1 a2 (by dsimp only;omega);rw[←ex]at s2;have hne:y.2.1≠0:=by have:=q.ge;omega
  obtain⟨l1,r,l2,l3,l4⟩:=XcZ h.hN s2 (r:=y.2.1) (id:=(w.T.length:Int)+1) (.inr (.inr ⟨rfl,rfl⟩)) (.inr ((q.ob _).2 (.inr rfl)));have l1':YT w.l ((w.T.length:Int)+1)=XiJ y.1.l y.2.1:=l1;have herr:XiJ y.1.l y.2.1=0:=by rw[←l1'];unfold YT;rw[Wg aa,le1 _ aa];exact hl
  rw[h0,show((0:Int) != 0)=false from rfl,Wa,l2,Xa];obtain⟨hh,w',v,g1,g2⟩:=l4 herr;refine Wd ⟨λe=>absurd (l3.trans herr) e,λ_ ft hf hc _=>?_⟩;have hz:YA w op a b c ft.Failed=0:=by rw[hv2,Wg (by simp[hl]),hf];rfl
  have hsp:y.1.h.s=x1.h.s:=q.sp;have hcol:ft.Collected=(x.h.s != x1.h.s):=by rw[hc];dsimp only;rw[hh,hsp]
  have hwu:wU (((w.T.length+1:Nat)):Int)=(w.T.length:Int)+1:=by rw[Xz aa aa];omega
  have fin:∀(J:Int->Int->List UO->List UW->List U2->List Int->List Ul->List Ul->List U5->List Int->Option (WE×Int×Int)),(∀x7 x8 x9 x10 x11 x12 x13 x14 x15 x16,J x7 x8 x9 x10 x11 x12 x13 x14 x15 x16=bnd (Qcg N op a b) λy17=>
   grd (x9.length*48<=140737488355328) <|
   grd (0<=y17.1.n/\y17.1.n.toNat*8<=140737488355328) <|
   grd ((x9.length+1)*48<=140737488355328) <|
   grd ((x9.length+1)<=140737488355328) <|
   bnd (QbF N (WE.mk (Uj.mk x7 x8) (x9++[(UO.mk y17.1 (List.replicate y17.1.n.toNat (0:Int)))]) (WD.mk x10 x11 x12) (W4.mk x13) (W4.mk x14) x15 x16) (wU (((x9.length+1):Nat):Int))) λy18=>
   some (y18.1,y18.2,0))->J w.c.W w.c.p w.T w.l.S w.l.x w.l.i w.g.e W.e w.m w.R=some (w',v,0):=λJ hJ=>by
   rw[hJ,ed,Xa,hd,Xe aa,Xe (by dsimp only;omega),Xe aa,Xe aa,hwu]
   have g1':QbF N (WE.mk (Uj.mk w.c.W w.c.p) (w.T++[(UO.mk (hdW op a b) (List.replicate (hdW op a b).n.toNat (0:Int)))]) (WD.mk w.l.S w.l.x w.l.i) (W4.mk w.g.e) (W4.mk W.e) w.m w.R) ((w.T.length:Int)+1)=some (w',v):=g1
   rw[g1',Xa]
  refine⟨w',v,?_,_,g2⟩;rw[Qar,h.ver,Xa,Yo hz,Wa];have e3:decide (op>3)=false:=Wh aa;rw[Xr,e3,Wa];have fin':=fin _ (λ_ _ _ _ _ _ _ _ _ _=>rfl);rcases hcase with⟨c1,c2⟩|⟨c1,c2⟩
  .have hcf:ft.Collected=false:=by rw[hcol,c1];simp
   rw[c2]at fin';rcases ho with rfl|rfl|rfl<;>simp only[Xr,Int.reduceBEq,Wc,Wa,hcf]<;>exact fin'
  have hct:ft.Collected=true:=by rw[hcol];exact Xn λe=>c2 e.symm
  rcases ho with rfl|rfl|rfl<;>simp only[Xr,Int.reduceBEq,Wc,Wa,hct,c1,Xa]<;>exact fin'
 obtain⟨y,ey,hy⟩:=main;refine⟨y,?_,hy⟩;rw[Qad,h.ev,Xa];rcases ho with rfl|rfl|rfl<;>simp only[Xr,Int.reduceBEq,Wc,Wa,Wl,ey,Xa]
end
section
variable {N k:Nat}{x:Uw}{w:WE}{B:Int->Int->Prop}{a b c:Int}
def XnE(h:CX N k x w B a b c){op:Int}(ho:op<1\/20<op):Ok (Qad N x op a b c) (YV N x w op a b c):=by
 have f:∀n:Int,1<=n->n<=20->(op==n)=false:=λn h1 h2=>Xh aa;refine⟨(⟨zHp,⟨[],[],[]⟩,⟨[]⟩,⟨[]⟩,[],[]⟩,0,1),?_,λ_=>?_,λe=>absurd e ae⟩
 .rw[Qad,h.ev,Xa];simp only[Wl,Wa,Xr,f 1 aa aa,f 2 aa aa,f 3 aa aa,f 4 aa aa,f 5 aa aa,f 6 aa aa,f 7 aa aa,f 8 aa aa,f 9 aa aa,f 10 aa aa,f 11 aa aa,f 12 aa aa,f 13 aa aa,f 14 aa aa,f 15 aa aa,f 16 aa aa,f 17 aa aa,f 18 aa aa,f 19 aa aa,f 20 aa aa,Qaa,Xa]
 unfold YA;rw[h.wv,Wg ab,Wg aa,Wg aa,Wg aa,Wg aa,Wg aa,Wg aa,Wg aa];decide
def XnF(h:CX N k x w B a b c)(op:Int):Ok (Qad N x op a b c) (YV N x w op a b c):=by
 by_cases ho:op<1\/20<op
 .exact XnE h ho
 have:op=1\/op=2\/op=3\/op=4\/op=5\/op=6\/op=7\/op=8\/op=9\/op=10\/op=11\/op=12\/op=13\/op=14\/op=15\/op=16\/op=17\/op=18\/op=19\/op=20:=aa;rcases this with e|e|e|e|e|rfl|rfl|rfl|rfl|rfl|rfl|rfl|rfl|rfl|rfl|rfl|rfl|rfl|rfl|rfl
 .exact XnD h (.inl e)
 .exact XnD h (.inr (.inl e))
 .exact XnD h (.inr (.inr e))
 .exact XsP h (.inl e)
 .exact XsP h (.inr e)
 .exact st6 h
 .exact st7 h
 .exact st8 h
 .exact st9 h
 .exact XtR h
 .exact XtS h
 .exact XtV h
 .exact XtT h
 .exact XtW h
 .exact XtU h
 .exact XtX h
 .exact XtY h
 .exact XtZ h
 .exact Xt0 h
 exact Xt1 h
def XrM(x y:Uw)(op v e:Int):Qdg N x y op v e=some ⟨e==3||(e==18&&op==19),e==0&&(x.h.s != y.h.s),if op=19/\e=0 then v else 0⟩:=by
 rw[Qdg];by_cases h3:e=3
 .subst h3;simp[Xr]
 by_cases h18:e=18
 .subst h18;simp[Xr]
 by_cases h0:e=0
 .subst h0;by_cases h19:op=19
  .subst h19;simp[Xr]
  simp[Xr,Xh h19,h19]
 simp[Xr,Xh h3,Xh h18,Xh h0,h0]
def XrN{p:IV}(hN:NB N)(hp:PB k p)(hk:k<=200){d:OG}(td:Xdt d)(s:Ir N p.N p.z B):Ok (QbN N p d) λr=>PB (k+1) r.1/\∃B',Ir N r.1.N r.1.z B':=by
 have hd:=XsM hN hp aa td;have w2:=hp.w2;suffices main:Ok (QbN N p d) λr=>∃B',Ir N r.1.N r.1.z B' by obtain⟨r,e,h1⟩:=main;obtain⟨r',e',h2⟩:=hd;rw[e]at e';cases e';exact⟨r,e,h2,h1⟩
 rw[QbN];refine Wo (λh0=>?_) λh0=>?_
 .refine WQ (XjS s hN hp.wor aa hp.ty.2.1) λy _ hy=>?_;rcases hy with e3|⟨e0,_,W,eW,B',s'⟩
  .rw[e3,Xr];dsimp only[Xa,Int.reduceBEq,Wa];exact Wd ⟨B,s⟩
  rw[e0,eW,Xr,show((0:Int)==0)=true from rfl,Wc,Xa];refine Wd ?_;exact⟨B',s'⟩
 have cx:CX N k p.N p.z B d.A d.B d.C:=⟨s,hN,hp.wor,aa,hp.ty.2.1,td.1,td.2.1,td.2.2⟩
 refine WQ (XnF cx d.Op) λy ey hy=>?_;rw[XrM,Xa];by_cases he:y.2.2=0
 .obtain⟨w',v,e1,B',s'⟩:=hy.2 he ⟨y.2.2==3||(y.2.2==18&&d.Op==19),y.2.2==0&&(p.N.h.s != y.1.h.s),if d.Op=19/\y.2.2=0 then y.2.1 else 0⟩ (by simp[he]) (by simp[he]) (λe=>by simp[he,e]);rw[e1,Xa,Xr,Xl he];dsimp only[Wc,Int.reduceBEq];refine Uz (Uk aa (Uk aa (Wd ⟨B',s'⟩))) (Wd ⟨B',s'⟩)
 have hv:=hy.1 he;have e1:∀ft:OD,YA p.z d.Op d.A d.B d.C ft.Failed≠0->Qar N p.z d.Op d.A d.B d.C ft=some (zWd,0,YA p.z d.Op d.A d.B d.C ft.Failed):=λft hf=>by rw[Qar,cx.ver,Xa,Xn hf,Wc]
 rw[e1 _ hv,Xa,Xr,Xh he,Xh hv];exact⟨_,rfl,B,s⟩
end
def XaQ(c:Uj):Wp:=⟨c,List.replicate (c.p*c.W).toNat 0,List.replicate c.p.toNat ⟨0,0,0,0⟩,0,-1⟩
section
variable {N:Nat}{c:Uj}
def VL{α:Type}(n k:Nat)(a:α):(List.replicate n a).getD k a=a:=by rw[We,UG];split<;>rfl
def XpR(a:Int):wd (XaQ c).w a=0:=VL _ _ _
def VH(i:Int):pg (XaQ c).p i=Z8:=VL _ _ _
def XjT(hv:X5 c=true):HB (XaQ c):=by
 have hvc:=Xi.1 hv;have hm:=XV hv (i:=0) aa aa;refine⟨?_,?_⟩
 .unfold XaQ;rw[WO];omega
 unfold XaQ;rw[WO];omega
def XnG(hv:X5 c=true):((XaQ c).p.length:Int)=c.p:=by have hvc:=Xi.1 hv;unfold XaQ;rw[WO];omega
def XpS(hN:NB N)(hv:X5 c=true):GX N (XaQ c):=by
 have hvc:=Xi.1 hv;have hm:=XV hv (i:=0) aa aa;have hl:=XnG hv;have pars:∀i,OE (XaQ c) i []:=λi=>⟨λ_=>rfl,λh=>by rw[VH]at h;exact absurd h ae,λh=>by rw[VH]at h;exact absurd h ae⟩
 have pu:∀i l,OE (XaQ c) i l->l=[]:=λi l p=>p.none (.inl (by rw[VH];rfl));have nst:∀a,¬Stt (XaQ c) a:=λa ⟨i,l,_,_,p,h⟩=>by rw[pu i l p]at h;simp at h
 refine⟨JR hN (XjT hv) ⟨hv,?_,?_,by unfold XaQ;simp,.inl rfl⟩ ⟨λi _ _ _=>?_,λi _ _ h=>?_⟩,λi _ _=>⟨[],pars i⟩,λi _ _ h=>?_,λi l _ _ p a ha=>?_,λx _ h=>?_,λa h=>absurd h.1 (nst a),?_⟩
 .unfold XaQ;dsimp only;rw[WO];omega
 .exact hl
 .constructor<;>simp[VH,Z8]
 .rw[VH]at h;exact absurd h ae
 .rw[VH]at h;exact absurd rfl h
 .rw[pu i l p]at ha;simp at ha
 .exact absurd (XpR x) h
 have:(XaQ c).p.countP K1=0:=by rw[List.countP_eq_zero];intro p hp;rw[(IW.1 hp).2];decide
 rw[this];show(0:Int)<=c.p / 4;omega
def Xlc(hN:NB N)(hv:X5 c=true){n:Int}(n0:0<=n)(n1:n<=60):Ir N ⟨XaQ c,⟨[],[⟨0,n,true⟩],[]⟩,⟨[]⟩,⟨[]⟩,[],[]⟩ ⟨c,[],⟨[],[⟨0,n,true⟩],[]⟩,⟨[]⟩,⟨[]⟩,[],[]⟩ (λ_ _=>False):=by
 have hvc:=Xi.1 hv;have gx:=XpS hN hv;have lv:Yn (⟨[],[⟨0,n,true⟩],[]⟩:WD)=true:=by unfold Yn XmK stB neB Xb5;simp[YY,neQ,Xg3,YL];omega
 refine⟨⟨⟨XjT hv,⟨ab,ab,ab⟩,Xbx,Xbx,ab,ab⟩,?_⟩,⟨⟨gx,ab,ab,ab,λi _ _=>?_⟩,lv,rfl,rfl,by simp[Xp],ab,by simp[XC],by simp[Xp],by simp[Xp]⟩,rfl,R2.nil _,⟨rfl,rfl,R2.nil _⟩,R2.nil _,R2.nil _,R2.nil _,λ_ _ _ h=>h.elim,λ_ _ _ h=>h.elim,λ_ _ h=>h.elim,λ_ _ h=>h.elim,λ_ _ h=>h.elim,λ_ _ h=>h.elim,ab⟩
 .intro x hx;rw[(IW.1 hx).2];exact⟨aa,aa⟩
 rw[VH];rfl
def XrO{t:IT}{m:Int}(h:TA m t)(hm:m+5<=1000000):Ok (Qe4 N t) λr=>TA (m+2) r.2/\X5 r.1=true:=by refine UB (nxp h aa aa aa) λy hy=>Ok.get hy.1 hy.2.1 λp hp=>UB (nxp hy.2.2 aa aa aa) λz hz=>Ok.get hz.1 hz.2.1 λq hq=>Wd ⟨hz.2.2.le aa,?_⟩;have hp':=YI hp;have hq':=YI hq;simp only[Us,List.not_mem_nil,or_false]at hp' hq';rw[Xi];dsimp only;omega
def XpT(hN:NB N){t:IT}{m:Int}(h:TA m t)(hm:m+5<=1000000):Ok (Qbl N t) λr=>PB 0 r.1/\TA (m+3) r.2/\∃B,Ir N r.1.N r.1.z B:=by
 have hs:=Xnm (N:=N) h hm;suffices main:Ok (Qbl N t) λr=>∃B,Ir N r.1.N r.1.z B by obtain⟨r,e,h1⟩:=main;obtain⟨r',e',h2⟩:=hs;rw[e]at e';cases e';exact⟨r,e,h2.1,h2.2,h1⟩
 rw[Qbl];refine UB (XrO h hm) λy1 h1=>?_;have hv:=h1.2;have hvc:=Xi.1 hv;have hm:=XV hv (i:=0) aa aa;have e:=Xf (n:=y1.1.p*y1.1.W) aa aa;have e1:QeD N y1.1=some (⟨XaQ y1.1,⟨[],[],[]⟩,⟨[]⟩,⟨[]⟩,[],[]⟩,0):=by rw[QeD,QfS,YQ,Xa,hv,Wl,Wa,e,Xe aa,Xe aa,Xa];rfl
 have e2:QeE N y1.1=some (⟨y1.1,[],⟨[],[],[]⟩,⟨[]⟩,⟨[]⟩,[],[]⟩,0):=by rw[QeE,YQ,Xa,hv,Wl,Wa]
 rw[e1,Xa,e2,Xa];refine UB (nxp h1.1 aa aa aa) λy4 h4=>Wd ?_;have h40:=h4.1;have h41:=h4.2.1;rw[Xf (n:=4+y4.1) aa aa];exact⟨_,Xlc hN hv aa aa⟩
end
def plT(p:IV):Int×Int×List Int×List WJ×Int×Int×List UW×List U2×List Int×List Ul×List Ul×List UQ×List Int×Int×Int×List UO×List UW×List U2×List Int×List Ul×List Ul×List U5×List Int×List Int:=(p.N.h.c.W,p.N.h.c.p,p.N.h.w,p.N.h.p,p.N.h.s,p.N.h.b,p.N.l.S,p.N.l.x,p.N.l.i,p.N.g.e,p.N.v.e,p.N.P,p.N.R,p.z.c.W,p.z.c.p,p.z.T,p.z.l.S,p.z.l.x,p.z.l.i,p.z.g.e,p.z.v.e,p.z.m,p.z.R,p.w)
section
variable {N:Nat}{M:Int}
def XjU(hN:NB N)(hM:M<=200):∀(n:Nat) (i:Int) (t:IT) (p:IV) (k:Nat),0<=i->i<=M->(M-i).toNat<n->(k:Int)=i->PB k p->TA (10+20*i) t->(∃B,Ir N p.N p.z B) ->
 Ok (QfX N M n i t.L t.at_ p.N.h.c.W p.N.h.c.p p.N.h.w p.N.h.p p.N.h.s p.N.h.b p.N.l.S p.N.l.x p.N.l.i p.N.g.e p.N.v.e p.N.P p.N.R p.z.c.W p.z.c.p p.z.T p.z.l.S p.z.l.x p.z.l.i p.z.g.e p.z.v.e p.z.m p.z.R p.w) λr=>∃(p':IV) (k':Nat),(k':Int)<=M/\PB k' p'/\(∃B,Ir N p'.N p'.z B)/\r=plT p'
 |0,i,t,p,k,_,_,hn,_,_,_,_=>by omega
 |n+1,i,t,p,k,h0,hi,hn,hk,hp,ht,hs=>by
  have stop:Ok (some (plT p)) λr=>∃(p':IV) (k':Nat),(k':Int)<=M/\PB k' p'/\(∃B,Ir N p'.N p'.z B)/\r=plT p':=
   Wd ⟨p,k,aa,hp,hs,rfl⟩
  refine Wo (λhc=>?_) λ_=>stop
  have hc:i<M:=WA hc;rw[Qf5,Xa];refine Wo (λ_=>?_) λ_=>stop
  have w1:=hp.w1;have w2:=hp.w2;have dty:=λr (e:Qdt N p t=some r)=>QiK (N:=N) hp.ty r e;rw[Xf (n:=i+1) aa aa];refine WQ (XpL (p:=p) (t:=t) w1 aa ht aa) λy e hy=>?_;obtain⟨B,s⟩:=hs;refine UB (XrN hN hp aa (dty y e) s) λz hz=>?_;exact XjU hN hM n (i+1) y.2 z.1 (k+1) aa aa aa aa hz.1 (hy.le aa) hz.2
def XrP(hN:NB N)(h0:0<=M)(hM:M<=200)(l:List Int):Ok (Qg2 N l M) λp=>∃k:Nat,(k:Int)<=M/\PB k p/\∃B,Ir N p.N p.z B:=by have hN':=hN;unfold NB at hN';refine UB (XpT (m:=0) hN ⟨ab,ab⟩ aa) λy hy=>UB (XjU hN hM N 0 y.2 y.1 0 aa aa aa rfl hy.1 (hy.2.1.le aa) hy.2.2) λz hz=>Wd ?_;obtain⟨p',k',h1,h2,h3,rfl⟩:=hz;exact⟨k',h1,h2,h3⟩
end
def K6(a b:Int)(p:WS):Bool:=(p.Addr==a) != (p.I==b)
def stp(out:List WS)(a b:Int):Option (List WS):=
 if(a==0) != (b==0)then none else if out.any (K6 a b)then none else if a==0||out.any (λp=>p.Addr==a)then some out else some (out++[⟨a,b⟩])
def sts:List WS->List (Int×Int)->Option (List WS)
 |out,[]=>some out
 |out,x::l=>(stp out x.1 x.2).bind λo=>sts o l
structure OU where
 ok:Bool
 live:Bool
 a:Int
 b:Int
def itS:List WS->List OU->Option (List WS)
 |out,[]=>some out
 |out,x::l=>if x.ok then(if x.live then(stp out x.a x.b).bind λo=>itS o l else itS out l)else none
def itL:List OU->List (Int×Int)
 |[]=>[]
 |x::l=>if x.live then(x.a,x.b)::itL l else itL l
def Xga:∀(l:List OU) (out:List WS),itS out l=if l.all (·.ok)then sts out (itL l)else none
 |[],out=>rfl
 |x::l,out=>by
  rw[itS,U7];cases hx:x.ok with
  |false=>simp
  |true=>
   rw[Wj rfl,WI];cases hl:x.live with
   |false=>rw[itL,hl];simp only[UU,if_false];exact Xga l out
   |true=>
    rw[Wj rfl,itL,hl,Wj rfl,sts];cases stp out x.a x.b with
    |none=>simp
    |some o=>rw[Iy,Iy];exact Xga l o
def Xgb:∀(l l':List OU) (out:List WS),itS out (l++l')=(itS out l).bind λo=>itS o l'
 |[],l',out=>rfl
 |x::l,l',out=>by
  rw[IA,itS,itS];cases x.ok with
  |false=>rfl
  |true=>
   rw[Wj rfl,Wj rfl];cases x.live with
   |false=>exact Xgb l l' out
   |true=>
    rw[Wj rfl,Wj rfl];cases stp out x.a x.b with
    |none=>rfl
    |some o=>exact Xgb l l' o
structure PI(out:List WS):Prop where
 nz:∀p∈out,p.Addr≠0/\p.I≠0
 one:∀p∈out,∀q∈out,p.Addr=q.Addr↔p.I=q.I
 nd:(out.map (·.I)).Nodup
def PI.nil:PI []:=⟨ab,ab,ab⟩
def XhM{out o:List WS}{a b:Int}(h:PI out)(e:stp out a b=some o):PI o/\(o=out\/(o=out++[⟨a,b⟩]/\a≠0/\b≠0/\(∀p∈out,p.Addr≠a)/\∀p∈out,p.I≠b)):=by
 unfold stp at e;split at e
 .cases e
 rename_i h1;split at e
 .cases e
 rename_i h2;split at e
 .cases e;exact⟨h,.inl rfl⟩
 rename_i h3;cases e;simp only[Il,not_or,In,IG,ne_eq,Iu,beq_iff_eq]at h3;obtain⟨ha,hn⟩:=h3;have hb:b≠0:=by intro hb;subst hb;exact h1 (by simp[ha])
 have hi:∀p∈out,p.I≠b:=by
  intro p hp hb2;have:=Iu.1 (by simpa using h2) p hp;unfold K6 at this;rw[hb2]at this;have hne:(p.Addr==a)=false:=by simpa using hn p hp
  rw[hne]at this;simp at this
 refine⟨⟨λp hp=>?_,λp hp q hq=>?_,?_⟩,.inr ⟨rfl,ha,hb,hn,hi⟩⟩
 .rcases Ws.1 hp with h'|h'
  .exact h.nz p h'
  obtain rfl:p=⟨a,b⟩:=by simpa using h'
  exact⟨ha,hb⟩
 .rcases Ws.1 hp with h'|h'<;>rcases Ws.1 hq with k'|k'
  .exact h.one p h' q k'
  .obtain rfl:q=⟨a,b⟩:=by simpa using k'
   exact⟨λe=>absurd e (hn p h'),λe=>absurd e (hi p h')⟩
  .obtain rfl:p=⟨a,b⟩:=by simpa using h'
   exact⟨λe=>absurd e.symm (hn q k'),λe=>absurd e.symm (hi q k')⟩
  obtain rfl:p=⟨a,b⟩:=by simpa using h'
  obtain rfl:q=⟨a,b⟩:=by simpa using k'
  exact⟨λ_=>rfl,λ_=>rfl⟩
 rw[UV,U6];refine⟨h.nd,ab,λx hx y hy e=>?_⟩;obtain⟨p,hp,rfl⟩:=WG.1 hx;obtain rfl:y=b:=by simpa using hy
 exact hi p hp e
def XaM:∀(n:Nat) {l:List Nat},l.Nodup->(∀x∈l,x<n)->l.length<=n
 |0,l,_,h=>by
  cases l with
  |nil=>simp
  |cons x l=>exact absurd (h x ab) aa
 |n+1,l,hd,h=>by
  by_cases hm:n∈l
  .have h1:=List.length_erase_of_mem hm;have h2:=XaM n (l:=l.erase n) (hd.erase n) λx hx=>by have h3:=(List.Nodup.mem_erase_iff hd).1 hx;have:=h x h3.2;omega
   omega
  have:=XaM n hd λx hx=>by have h3:=h x hx;have h4:x≠n:=λe=>hm (e▸hx);omega
  omega
def PR(O:Int->Prop)(n:Nat)(out:List WS):Prop:=∀p∈out,O p.Addr/\1<=p.I/\p.I<=n
def PI.len{out:List WS}{O:Int->Prop}{n:Nat}(h:PI out)(k:PR O n out):out.length<=n:=by
 have h1:(out.map λp=>(p.I-1).toNat).Nodup:=by have:=h.nd;rw[IX,Iv]at this⊢;refine List.Pairwise.imp_of_mem (λ{p q} hp hq hne=>?_) this;have a:=k p hp;have b:=k q hq;omega
 have:=XaM n h1 λx hx=>by obtain⟨p,hp,rfl⟩:=WG.1 hx;have a:=k p hp;omega
 simpa using this
def XnH{O:Int->Prop}{n:Nat}{out o:List WS}{a b:Int}(h:PI out)(k:PR O n out)(ha:a=0\/O a)(hb:0<=b/\b<=n)(e:stp out a b=some o):PI o/\PR O n o/\∃x,o=out++x:=by
 obtain⟨h1,h2⟩:=XhM h e;rcases h2 with rfl|⟨rfl,a0,b0,_,_⟩
 .exact⟨h1,k,[],ab⟩
 refine⟨h1,λp hp=>?_,_,rfl⟩;rcases Ws.1 hp with h'|h'
 .exact k p h'
 obtain rfl:p=⟨a,b⟩:=by simpa using h'
 rcases ha with ha|ha
 .exact absurd ha a0
 exact⟨ha,by show 1<=b;omega,hb.2⟩
def XiO{O:Int->Prop}{n:Nat}:∀{l:List (Int×Int)} {out o:List WS},PI out->PR O n out->(∀x∈l,(x.1=0\/O x.1)/\0<=x.2/\x.2<=n)->sts out l=some o->PI o/\PR O n o/\∃x,o=out++x
 |[],out,o,h,k,_,e=>by cases e;exact⟨h,k,[],ab⟩
 |x::l,out,o,h,k,hl,e=>by
  rw[sts]at e;cases e1:stp out x.1 x.2 with
  |none=>rw[e1]at e;cases e
  |some o1=>rw[e1,Iy]at e;obtain⟨h1,k1,y,rfl⟩:=XnH h k (hl x ab).1 (hl x ab).2 e1;obtain⟨h2,k2,z,rfl⟩:=XiO h1 k1 (λy hy=>hl y (WC _ hy)) e;exact⟨h2,k2,y++z,ab⟩
def mI(out:List WS):List (Int×Int):=out.map λp=>(p.Addr,p.I)
def mA(out:List WS):List (Int×Int):=out.map λp=>(p.I,p.Addr)
def XnI:∀(out:List WS) (a:Int),mG (mI out) a=(out.find? λp=>p.Addr==a).map (·.I)
 |[],a=>rfl
 |p::out,a=>by
  show(if a=p.Addr then _ else mG (mI out) a)=_;rw[List.find?_cons];by_cases h:p.Addr=a
  .rw[Wj h.symm,h];simp
  rw[Wg (λe=>h e.symm),XnI out a];have:(p.Addr==a)=false:=by simpa using h
  rw[this]
def XnJ:∀(out:List WS) (b:Int),mG (mA out) b=(out.find? λp=>p.I==b).map (·.Addr)
 |[],b=>rfl
 |p::out,b=>by
  show(if b=p.I then _ else mG (mA out) b)=_;rw[List.find?_cons];by_cases h:p.I=b
  .rw[Wj h.symm,h];simp
  rw[Wg (λe=>h e.symm),XnJ out b];have:(p.I==b)=false:=by simpa using h
  rw[this]
def XrQ(out:List WS)(a b:Int):Option (List WS):=
 if a==0||b==0 then(if a==b then some out else none)
 else if(mG (mI out) a).isSome||(mG (mA out) b).isSome then
  (if(mG (mI out) a).isSome&&((mG (mA out) b).isSome&&((mG (mI out) a).getD 0==b&&(mG (mA out) b).getD 0==a))then some out else none)
 else some (out++[⟨a,b⟩])
def bF{a b:Int}(h:a≠b):(a==b)=false:=by simpa using h
def XpU{out:List WS}(h:PI out)(a b:Int):XrQ out a b=stp out a b:=by
 unfold XrQ stp;by_cases ha:a=0
 .subst ha;by_cases hb:b=0
  .subst hb;have:out.any (K6 0 0)=false:=Iu.2 λp hp=>by obtain⟨h1,h2⟩:=h.nz p hp;unfold K6;rw[bF h1,bF h2];simp
   simp[this]
  simp[hb,λe:(0:Int)=b=>hb e.symm,bF hb,bF (λe:(0:Int)=b=>hb e.symm)]
 by_cases hb:b=0
 .subst hb;simp[ha]
 have ha':(a==0)=false:=by simpa using ha
 have hb':(b==0)=false:=by simpa using hb
 simp only[ha',hb',Bool.or_self,UU,if_false,bne_self_eq_false,U1];rw[XnI,XnJ];cases e1:out.find? (λp=>p.Addr==a)with
 |some p=>
  have hp:=IJ e1;have hpa:p.Addr=a:=by simpa using List.find?_some e1
  have hany:out.any (λp=>p.Addr==a)=true:=Io.2 ⟨p,hp,by simpa using hpa⟩;cases e2:out.find? (λp=>p.I==b)with
  |some q=>
   have hq:=IJ e2;have hqb:q.I=b:=by simpa using List.find?_some e2
   by_cases hid:p.I=b
   .have hqa:q.Addr=a:=by rw[←hpa];exact((h.one q hq p hp).2 (hqb.trans hid.symm))
    have hno:out.any (K6 a b)=false:=Iu.2 λr hr=>by
     unfold K6;have:=h.one r hr p hp;rw[hpa,hid]at this;by_cases hra:r.Addr=a
     .simp[hra,this.1 hra]
     have:r.I≠b:=λe=>hra (this.2 e);rw[bF hra,bF this];simp
    simp[hid,hqa,hno,hany]
   have hbad:out.any (K6 a b)=true:=Io.2 ⟨p,hp,by unfold K6;simp[hpa,hid]⟩;simp[hid,hbad]
  |none=>
   have hid:p.I≠b:=λe=>by have:=List.find?_eq_none.1 e2 p hp;simp[e]at this
   have hbad:out.any (K6 a b)=true:=Io.2 ⟨p,hp,by unfold K6;simp[hpa,hid]⟩;simp[hbad]
 |none=>
  have hn:∀p∈out,p.Addr≠a:=λp hp e=>by have:=List.find?_eq_none.1 e1 p hp;simp[e]at this
  have hany:out.any (λp=>p.Addr==a)=false:=Iu.2 λp hp=>by simpa using hn p hp
  cases e2:out.find? (λp=>p.I==b)with
  |some q=>
   have hq:=IJ e2;have hqb:q.I=b:=by simpa using List.find?_some e2
   have hbad:out.any (K6 a b)=true:=Io.2 ⟨q,hq,by unfold K6;simp[hqb,hn q hq]⟩;simp[hbad]
  |none=>
   have hno:out.any (K6 a b)=false:=Iu.2 λr hr=>by
    have:r.I≠b:=λe=>by have:=List.find?_eq_none.1 e2 r hr;simp[e]at this
    unfold K6;rw[bF (hn r hr),bF this];simp
   simp[hno,hany]
def XrR(out:List WS):(mI out).length=out.length:=by simp[mI]
def XrS(out:List WS):(mA out).length=out.length:=by simp[mA]
structure SR(O:Int->Prop)(n:Nat)(out:List WS):Prop where
 pi:PI out
 pr:PR O n out
 o:∀a,O a->0<=a/\a<=1000000
 n1:n<=1000000
section
variable {O:Int->Prop}{n:Nat}{out:List WS}
def SR.len(h:SR O n out):out.length<=n:=h.pi.len h.pr
def Xt2(h:SR O n out)(a:Int):0<=(mG (mI out) a).getD 0/\(mG (mI out) a).getD 0<=18446744073709551615:=by
 rw[XnI];cases e:out.find? (λp=>p.Addr==a)with
 |none=>exact⟨ab,ab⟩
 |some p=>have:=h.pr p (IJ e);have:=h.n1;exact⟨by show 0<=p.I;omega,by show p.I<=_;omega⟩
def Xt3(h:SR O n out)(b:Int):0<=(mG (mA out) b).getD 0/\(mG (mA out) b).getD 0<=18446744073709551615:=by
 rw[XnJ];cases e:out.find? (λp=>p.I==b)with
 |none=>exact⟨ab,ab⟩
 |some p=>have:=h.o _ (h.pr p (IJ e)).1;exact⟨by show 0<=p.Addr;omega,by show p.Addr<=_;omega⟩
def XrT(a b:Int):mI out++[(a,b)]=mI (out++[⟨a,b⟩]):=by simp[mI]
def XrU(a b:Int):mA out++[(b,a)]=mA (out++[⟨a,b⟩]):=by simp[mA]
def Xld{β:Type}{K:Bool->List (Int×Int)->List (Int×Int)->List WS->Option β}(h:SR O n out)(a b:Int):
 (jn K λj3=>
  bif (a==0)then j3 (a==b) (mI out) (mA out) out
  else bif (b==0)then j3 (a==b) (mI out) (mA out) out
  else grd (0<=((mG (mI out) a).getD 0)/\((mG (mI out) a).getD 0)<=18446744073709551615) <|
  grd (0<=((mG (mA out) b).getD 0)/\((mG (mA out) b).getD 0)<=18446744073709551615) <|
  jn (λ(_:Unit)=>
   jn (λ(x9:Bool)=>
    j3 x9 (mI out) (mA out) out) λj2=>
   bif (mG (mI out) a).isSome then (bif (mG (mA out) b).isSome then (bif (((mG (mI out) a).getD 0)==b) then j2 (((mG (mA out) b).getD 0)==a)
       else j2 false)
    else j2 false)
   else j2 false) λj1=>
  bif (mG (mI out) a).isSome then j1 ()
  else bif (mG (mA out) b).isSome then j1 ()
  else grd ((mG (mI out) a).isSome=false) <|
  grd ((mI out).length<140737488355328) <|
  grd ((mG (mA out) b).isSome=false) <|
  grd ((mA out).length<140737488355328) <|
  grd ((out.length+1)*16<=140737488355328) <|
  j3 true ((mI out)++[(a,b)]) ((mA out)++[(b,a)]) (out++[(WS.mk a b)])) =
 match stp out a b with
 |none=>K false (mI out) (mA out) out
 |some o=>K true (mI o) (mA o) o:=by
 have hl:=h.len;have hn:=h.n1;rw[←XpU h.pi,XrQ,Xr,Xe (Xt2 h a),Xe (Xt3 h b),Xr,Xr,XrT,XrU,XrR,XrS];cases h1:(a==0)with
 |true=>rw[Wc,I7,Wj rfl];cases h3:(a==b)<;>simp
 |false=>
  rw[Wa,U1];cases h2:(b==0)with
  |true=>rw[Wc,Wj rfl];cases h3:(a==b)<;>simp
  |false=>
   rw[Wa,Wg ab];cases h4:(mG (mI out) a).isSome with
   |true=>
    simp only[Wc,I7,if_true,WI];cases h5:(mG (mA out) b).isSome with
    |true=>
     simp only[Wc,WI];cases h6:((mG (mI out) a).getD 0==b)with
     |true=>simp only[Wc,WI];cases h7:((mG (mA out) b).getD 0==a)<;>simp
     |false=>simp
    |false=>simp
   |false=>
    simp only[Wa,U1];cases h5:(mG (mA out) b).isSome with
    |true=>simp
    |false=>simp only[Wa];rw[Xe trivial,Xe aa,Xe trivial,Xe aa,Xe aa,Wg ab]
def it1(out:List WS)(x:OU):Option (List WS):=if x.ok then(if x.live then stp out x.a x.b else some out)else none
def XnK(x:OU)(l:List OU)(out:List WS):itS out (x::l)=(it1 out x).bind λo=>itS o l:=by
 rw[itS,it1];cases x.ok with
 |false=>rfl
 |true=>cases x.live<;>rfl
def IO(O:Int->Prop)(n:Nat)(x:OU):Prop:=x.ok=true->x.live=true->(x.a=0\/O x.a)/\0<=x.b/\x.b<=n
def XrV(h:SR O n out){x:OU}(hx:IO O n x){o:List WS}(e:it1 out x=some o):SR O n o:=by
 unfold it1 at e;cases h1:x.ok with
 |false=>rw[h1]at e;cases e
 |true=>
  cases h2:x.live with
  |false=>rw[h1,h2]at e;cases e;exact h
  |true=>rw[h1,h2,Wj rfl,Wj rfl]at e;obtain⟨a,b,_⟩:=XnH h.pi h.pr (hx h1 h2).1 (hx h1 h2).2 e;exact⟨a,b,h.o,h.n1⟩
def VI{α:Type}{F:Nat->Int->List (Int×Int)->List (Int×Int)->List WS->Option (Ex α (List (Int×Int)×List (Int×Int)×List WS))}{l:List OU}{E:α->Prop}(hl:∀x∈l,IO O n x)(hstep:∀(m k:Nat) (hk:k<l.length) (out:List WS),SR O n out->(it1 out l[k]=none/\∃e,F (m+1) (k:Int) (mI out) (mA out) out=some (.ret e)/\E e)\/∃o,it1 out l[k]=some o/\F (m+1) (k:Int) (mI out) (mA out) out=F m ((k+1:Nat):Int) (mI o) (mA o) o)(hstop:∀(m:Nat) (out:List WS),SR O n out->F (m+1) (l.length:Int) (mI out) (mA out) out=some (.nxt (mI out,mA out,out))):
 ∀(m k:Nat) (out:List WS),SR O n out->k<=l.length->l.length-k<m ->
  (itS out (l.drop k)=none/\∃e,F m (k:Int) (mI out) (mA out) out=some (.ret e)/\E e)\/∃o,itS out (l.drop k)=some o/\SR O n o/\F m (k:Int) (mI out) (mA out) out=some (.nxt (mI o,mA o,o))
 |0,k,out,_,_,hm=>by omega
 |m+1,k,out,h,hk,hm=>by
  by_cases hkl:k<l.length
  .rw[Wm hkl,XnK];rcases hstep m k hkl out h with⟨h1,e,h2,h3⟩|⟨o,h1,h2⟩
   .rw[h1];exact .inl ⟨rfl,e,h2,h3⟩
   rw[h1,Iy,h2];exact VI hl hstep hstop m (k+1) o (XrV h (hl _ (Wt hkl)) h1) hkl aa
  obtain rfl:k=l.length:=aa;rw[List.drop_length,hstop m out h];exact .inr ⟨out,rfl,h,rfl⟩
end
section
variable {N:Nat}
structure VF(N:Nat)(x:Uw)(O:List Int):Prop where
 len:O.length<=4096
 pr:Qab N x.h=some true
 at_:∀a∈O,I5 x.h a
 ev:∀a∈O,Qax N x.h a=some (hdA x.h.w a,0)
 kd:∀a∈O,(hdA x.h.w a).k≠0
 bad:∀a∈O,¬Xac x.h O a
 refs:∀r∈((x.R++XC x.l.S)++Xp x.g.e)++Xp x.v.e,r=0\/r∈O
 pins:∀p∈x.P,p.a∈O
 p64:x.P.length<=64
 loc:Yn x.l=true
 glo:X8 x.g.e=true
 wea:X8 x.v.e=true
end
def Z3(a b:List Int):List OU:=List.zipWith (λr s=>⟨true,true,r,s⟩) a b
def Z4(a b:List UW):List OU:=List.zipWith (λs t=>⟨s.J==t.J&&s.V==t.V,s.V,s.a,t.a⟩) a b
def ZY(a b:List Ul):List OU:=List.zipWith (λs t=>⟨s.G==t.G&&s.V==t.V,s.V,s.a,t.a⟩) a b
def Kb(a:List UQ)(b:List U5):List OU:=List.zipWith (λp m=>⟨p.M==m.M&&wU (p.a+1)==m.B0,true,p.a,m.I⟩) a b
def JS(d:WH):Nat->List Int->List Int->List OU
 |k,a::l,b::m=>⟨ZP d k||a==b,ZP d k,a,b⟩::JS d (k+1) l m
 |_,_,_=>[]
def Xai(d:WH):∀(k:Nat) (l m:List Int),l.length=m.length->(JS d k l m).length=l.length
 |k,[],[],_=>rfl
 |k,a::l,b::m,h=>congrArg (·+1) (Xai d (k+1) l m (by simpa using h))
def Xaj(d:WH):∀(k:Nat) (l m:List Int) (j:Nat) (h1:j<l.length) (h2:j<m.length) (h3:j<(JS d k l m).length),(JS d k l m)[j]=⟨ZP d ((k+j:Nat):Int)||l[j]==m[j],ZP d ((k+j:Nat):Int),l[j],m[j]⟩
 |k,a::l,b::m,0,_,_,_=>by simp[JS]
 |k,a::l,b::m,j+1,h1,h2,h3=>by have:=Xaj d (k+1) l m j (by simpa using h1) (by simpa using h2) (by simpa [JS]using h3);have e:k+1+j=k+(j+1):=aa;rw[e]at this;simpa [JS]using this
def Xcj(out:List WS)(a b:Int):it1 out ⟨true,true,a,b⟩=stp out a b:=rfl
def XbP(out:List WS)(l:Bool)(a b:Int):it1 out ⟨false,l,a,b⟩=none:=rfl
def Xgc(out:List WS)(a b:Int):it1 out ⟨true,false,a,b⟩=some out:=rfl
section
variable {N:Nat}{O:Int->Prop}{n:Nat}{x:Uw}{w:WE}
abbrev SQ{α:Type}(O:Int->Prop)(n:Nat)(E:α->Prop)(out:List WS)(l:List OU)(r:Option (Ex α (List (Int×Int)×List (Int×Int)×List WS))):Prop:=
 (itS out l=none/\∃e,r=some (.ret e)/\E e)\/∃o,itS out l=some o/\SR O n o/\r=some (.nxt (mI o,mA o,o))
def gl1(hN:1000000<N)(hl:x.R.length<=1000000)(he:x.R.length=w.R.length)(hi:∀y∈Z3 x.R w.R,IO O n y){out:List WS}(h:SR O n out):
 SQ O n (λe=>e=([],false)) out (Z3 x.R w.R) (QaW N x w N 0 (mI out) (mA out) out):=by
 have hlen:(Z3 x.R w.R).length=x.R.length:=by unfold Z3;rw[I9];omega
 have:=VI (F:=QaW N x w) (l:=Z3 x.R w.R) (E:=λe=>e=([],false)) hi (λm k hk out h=>?_) (λm out h=>?_) N 0 out h (UY _) aa
 .rw[WL]at this;exact this
 .have h1:k<x.R.length:=aa;have h2:k<w.R.length:=aa;have e:(Z3 x.R w.R)[k]=⟨true,true,x.R[k],w.R[k]⟩:=by simp[Z3]
  rw[e,Xcj,QaW,Wi aa,Wc,Xc,Wb h1,Xa,Xc,Wb h2,Xa,Xld h,Xg aa];cases stp out x.R[k] w.R[k]with
  |none=>exact .inl ⟨rfl,_,rfl,rfl⟩
  |some o=>exact .inr ⟨o,rfl,rfl⟩
 rw[QaW,hlen,Wh aa,Wa]
def gl2(hN:1000000<N)(hl:x.l.S.length<=1000000)(he:x.l.S.length=w.l.S.length)(hi:∀y∈Z4 x.l.S w.l.S,IO O n y){out:List WS}(h:SR O n out):
 SQ O n (λ_=>True) out (Z4 x.l.S w.l.S) (Qbc N x w N 0 (mI out) (mA out) out):=by
 have hlen:(Z4 x.l.S w.l.S).length=x.l.S.length:=by unfold Z4;rw[I9];omega
 have:=VI (F:=Qbc N x w) (l:=Z4 x.l.S w.l.S) (E:=λ_=>True) hi (λm k hk out h=>?_) (λm out h=>?_) N 0 out h (UY _) aa
 .rw[WL]at this;exact this
 .have h1:k<x.l.S.length:=aa;have h2:k<w.l.S.length:=aa;have e:(Z4 x.l.S w.l.S)[k]=⟨x.l.S[k].J==w.l.S[k].J&&x.l.S[k].V==w.l.S[k].V,x.l.S[k].V,x.l.S[k].a,w.l.S[k].a⟩:=by simp[Z4]
  rw[e,Qbc,Wi aa,Wc,Xc,Wb h1,Xa,Xc,Wb h2,Xa,Xld h,Xg aa];generalize x.l.S[k]=s;generalize w.l.S[k]=t;unfold bne;cases h3:(s.J==t.J)with
  |false=>rw[Uh,XbP,WY,Wc];exact .inl ⟨rfl,_,rfl,trivial⟩
  |true=>
   rw[WI,Wl,Wa];cases h4:(s.V==t.V)with
   |false=>rw[XbP,WY,Wc];exact .inl ⟨rfl,_,rfl,trivial⟩
   |true=>
    rw[Wl,Wa];cases h5:s.V with
    |false=>rw[Xgc,Wa];exact .inr ⟨out,rfl,rfl⟩
    |true=>
     rw[Xcj,Wc];cases stp out s.a t.a with
     |none=>exact .inl ⟨rfl,_,rfl,trivial⟩
     |some o=>exact .inr ⟨o,rfl,rfl⟩
 rw[Qbc,hlen,Wh aa,Wa]
def gl3(hN:1000000<N)(hl:x.g.e.length<=1000000)(he:x.g.e.length=w.g.e.length)(hi:∀y∈ZY x.g.e w.g.e,IO O n y){out:List WS}(h:SR O n out):
 SQ O n (λ_=>True) out (ZY x.g.e w.g.e) (Qbd N x w N 0 (mI out) (mA out) out):=by
 have hlen:(ZY x.g.e w.g.e).length=x.g.e.length:=by unfold ZY;rw[I9];omega
 have:=VI (F:=Qbd N x w) (l:=ZY x.g.e w.g.e) (E:=λ_=>True) hi (λm k hk out h=>?_) (λm out h=>?_) N 0 out h (UY _) aa
 .rw[WL]at this;exact this
 .have h1:k<x.g.e.length:=aa;have h2:k<w.g.e.length:=aa;have e:(ZY x.g.e w.g.e)[k]=⟨x.g.e[k].G==w.g.e[k].G&&x.g.e[k].V==w.g.e[k].V,x.g.e[k].V,x.g.e[k].a,w.g.e[k].a⟩:=by simp[ZY]
  rw[e,Qbd,Wi aa,Wc,Xc,Wb h1,Xa,Xc,Wb h2,Xa,Xld h,Xg aa];generalize x.g.e[k]=s;generalize w.g.e[k]=t;unfold bne;cases h3:(s.G==t.G)with
  |false=>rw[Uh,XbP,WY,Wc];exact .inl ⟨rfl,_,rfl,trivial⟩
  |true=>
   rw[WI,Wl,Wa];cases h4:(s.V==t.V)with
   |false=>rw[XbP,WY,Wc];exact .inl ⟨rfl,_,rfl,trivial⟩
   |true=>
    rw[Wl,Wa];cases h5:s.V with
    |false=>rw[Xgc,Wa];exact .inr ⟨out,rfl,rfl⟩
    |true=>
     rw[Xcj,Wc];cases stp out s.a t.a with
     |none=>exact .inl ⟨rfl,_,rfl,trivial⟩
     |some o=>exact .inr ⟨o,rfl,rfl⟩
 rw[Qbd,hlen,Wh aa,Wa]
def gl4(hN:1000000<N)(hl:x.v.e.length<=1000000)(he:x.v.e.length=w.v.e.length)(hi:∀y∈ZY x.v.e w.v.e,IO O n y){out:List WS}(h:SR O n out):
 SQ O n (λ_=>True) out (ZY x.v.e w.v.e) (Qbe N x w N 0 (mI out) (mA out) out):=by
 have hlen:(ZY x.v.e w.v.e).length=x.v.e.length:=by unfold ZY;rw[I9];omega
 have:=VI (F:=Qbe N x w) (l:=ZY x.v.e w.v.e) (E:=λ_=>True) hi (λm k hk out h=>?_) (λm out h=>?_) N 0 out h (UY _) aa
 .rw[WL]at this;exact this
 .have h1:k<x.v.e.length:=aa;have h2:k<w.v.e.length:=aa;have e:(ZY x.v.e w.v.e)[k]=⟨x.v.e[k].G==w.v.e[k].G&&x.v.e[k].V==w.v.e[k].V,x.v.e[k].V,x.v.e[k].a,w.v.e[k].a⟩:=by simp[ZY]
  rw[e,Qbe,Wi aa,Wc,Xc,Wb h1,Xa,Xc,Wb h2,Xa,Xld h,Xg aa];generalize x.v.e[k]=s;generalize w.v.e[k]=t;unfold bne;cases h3:(s.G==t.G)with
  |false=>rw[Uh,XbP,WY,Wc];exact .inl ⟨rfl,_,rfl,trivial⟩
  |true=>
   rw[WI,Wl,Wa];cases h4:(s.V==t.V)with
   |false=>rw[XbP,WY,Wc];exact .inl ⟨rfl,_,rfl,trivial⟩
   |true=>
    rw[Wl,Wa];cases h5:s.V with
    |false=>rw[Xgc,Wa];exact .inr ⟨out,rfl,rfl⟩
    |true=>
     rw[Xcj,Wc];cases stp out s.a t.a with
     |none=>exact .inl ⟨rfl,_,rfl,trivial⟩
     |some o=>exact .inr ⟨o,rfl,rfl⟩
 rw[Qbe,hlen,Wh aa,Wa]
def Xeg(hN:NB N)(ht:ET x){L:List Int}(v:VF N x L){a:Int}(ha:a∈L):QeP N x.h a=some (hdA x.h.w a,0)/\tU a/\a<=8192/\4096<=a:=by
 have hN':1000000<N:=by unfold NB at hN;omega
 have hb:=ht.eb.heap;have hp:=XL hN hb v.pr;have hr:=(v.at_ a ha).rng;have hf:=JK hp (v.at_ a ha);have hv:=Xi.1 hp.conf;have:=XV hp.conf (i:=0) aa aa;have:=hp.words;have:=(XJ x.h.w a).2;have ta:tU a:=⟨aa,aa⟩
 refine⟨?_,ta,aa,aa⟩;rw[QeP,YU hb.2 hN',v.pr,Xa,Wl,Wa,show(a==0)=false by simp;omega,Wa,XdV hN ht.ht ta,v.ev a ha,Xa];have:=v.kd a ha;rw[show((0:Int) != 0)=false from rfl,Wa,show((hdA x.h.w a).k==0)=false by simpa using this,Wa]
def gl5(hN:NB N)(ht:ET x){L:List Int}(v:VF N x L)(he:x.P.length=w.m.length)(hi:∀y∈Kb x.P w.m,IO O n y){out:List WS}(h:SR O n out):
 SQ O n (λ_=>True) out (Kb x.P w.m) (Qbu N x w N 0 (mI out) (mA out) out):=by
 have hN':1000000<N:=by unfold NB at hN;omega
 have hl:=v.p64;have hlen:(Kb x.P w.m).length=x.P.length:=by unfold Kb;rw[I9];omega
 have:=VI (F:=Qbu N x w) (l:=Kb x.P w.m) (E:=λ_=>True) hi (λm k hk out h=>?_) (λm out h=>?_) N 0 out h (UY _) aa
 .rw[WL]at this;exact this
 .have h1:k<x.P.length:=aa;have h2:k<w.m.length:=aa;have e:(Kb x.P w.m)[k]=⟨x.P[k].M==w.m[k].M&&wU (x.P[k].a+1)==w.m[k].B0,true,x.P[k].a,w.m[k].I⟩:=by simp[Kb]
  obtain⟨eg,_⟩:=Xeg hN ht v (v.pins _ (Wt h1));rw[e,Qbu,Wi aa,Wc,Xc,Wb h1,Xa,Qgv,eg,Xa,show((0:Int) != 0)=false from rfl,Wa,Xa,Xc,Wb h2,Xa,show((0:Int) != 0)=false from rfl,Wa,Xld h,Xg aa];generalize x.P[k]=s;generalize w.m[k]=t;unfold bne;cases h3:(s.M==t.M)with
  |false=>rw[Uh,XbP,WY,Wc];exact .inl ⟨rfl,_,rfl,trivial⟩
  |true=>
   rw[WI,Wl,Wa];cases h4:(wU (s.a+1)==t.B0)with
   |false=>rw[XbP,WY,Wc];exact .inl ⟨rfl,_,rfl,trivial⟩
   |true=>
    rw[Wl,Wa,Xcj];cases stp out s.a t.I with
    |none=>exact .inl ⟨rfl,_,rfl,trivial⟩
    |some o=>exact .inr ⟨o,rfl,rfl⟩
 rw[Qbu,hlen,Wh aa,Wa]
def gl6(hN:1000000<N)(y1:WH×Int)(t:UO)(v6:Int)(y:List Int×Int)(hl:y.1.length<=1000000)(he:y.1.length=t.D.length)(hi:∀z∈JS y1.1 0 y.1 t.D,IO O n z){out:List WS}(h:SR O n out):
 SQ O n (λ_=>True) out (JS y1.1 0 y.1 t.D) (Qbf N x w y1 t v6 y N 0 (mI out) (mA out) out):=by
 have hlen:(JS y1.1 0 y.1 t.D).length=y.1.length:=Xai _ _ _ _ he;have:=VI (F:=Qbf N x w y1 t v6 y) (l:=JS y1.1 0 y.1 t.D) (E:=λ_=>True) hi (λm k hk out h=>?_) (λm out h=>?_) N 0 out h (UY _) aa
 .rw[WL]at this;exact this
 .have h1:k<y.1.length:=aa;have h2:k<t.D.length:=aa;have e:=Xaj y1.1 0 y.1 t.D k h1 h2 hk;rw[Ue]at e;rw[e,Qbf,Wi aa,Wc,Xc,Wb h1,Xa,Xhh aa,Xa,Xc,Wb h2,Xa,Xa,Xld h,Xg aa];generalize y.1[k]=s;generalize t.D[k]=u;unfold bne;cases h3:ZP y1.1 (k:Int)with
  |true=>
   rw[I7,Xcj,Wc];cases stp out s u with
   |none=>exact .inl ⟨rfl,_,rfl,trivial⟩
   |some o=>exact .inr ⟨o,rfl,rfl⟩
  |false=>
   rw[U1,Wa];cases h4:(s==u)with
   |false=>rw[XbP,WY,Wc];exact .inl ⟨rfl,_,rfl,trivial⟩
   |true=>rw[Xgc,Wl,Wa];exact .inr ⟨out,rfl,rfl⟩
 rw[Qbf,hlen,Wh aa,Wa]
end
section
variable {N:Nat}{O:Int->Prop}{n:Nat}
end
section
variable {N:Nat}
def Kl{α β γ:Type}(f:α->β->γ)(p:γ->Bool):∀(a:List α) (b:List β),(List.zipWith f a b).all p=(a.zip b).all λq=>p (f q.1 q.2)
 |[],b=>by simp
 |x::a,[]=>by simp
 |x::a,y::b=>by rw[List.zipWith_cons_cons,U7,Oh,U7,Kl f p a b]
def XsQ{α β:Type}{F:Nat->Int->Option (Ex Bool Unit)}(a:List α)(b:List β)(he:a.length=b.length)(f:α->β->Bool)(hstep:∀(n k:Nat) (h1:k<a.length) (h2:k<b.length),F (n+1) (k:Int)=bif f a[k] b[k]then F n ((k+1:Nat):Int)else some (.ret false))(hstop:∀n:Nat,F (n+1) (a.length:Int)=some (.nxt ())){n:Nat}(hn:a.length<n):F n 0=some (bif (a.zip b).all (λp=>f p.1 p.2)then .nxt ()else .ret false):=by
 have hz:(a.zip b).length=a.length:=by rw[List.length_zip];omega
 have:=Kr (l:=a.zip b) (F:=F) (q:=λ_ p=>f p.1 p.2) (λn k p e=>by
  have hk:k<(a.zip b).length:=Xq e
  rw[Wb hk,List.getElem_zip]at e
  cases e
  exact hstep n k aa aa) (λn=>by rw[hz];exact hstop n) (n:=n) aa
 rw[Zl]at this;exact this
def XsR{b:Bool}(o:Option (Ex Bool Unit))(h:o=some (bif b then .nxt ()else .ret false)){k:Unit->Option Bool}:(bnd o λe=>exK e (λr=>some r) k)=bif b then k ()else some false:=by
 rw[h,Xa];cases b
 .rw[Wa,Xs,Wa]
 rw[Wc,Xo,Wc]
def XhN(a b:Nat):((a:Int) != (b:Int)) = !(a==b):=by
 unfold bne;congr 1;by_cases h:a=b
 .subst h;simp
 rw[bF (show(a:Int)≠b by omega)];simp[h]
def scE(a b:List U2):Bool:=a.length==b.length&&(a.zip b).all λp=>p.1.O==p.2.O&&(p.1.C0==p.2.C0&&p.1.B0==p.2.B0)
def isE(a b:List Int):Bool:=a.length==b.length&&(a.zip b).all λp=>p.1==p.2
def XcF{α:Type}(b:Bool)(x y:α):(bif !b then x else y)=bif b then y else x:=by cases b<;>rfl
def XpV(hN:1000000<N){a b:List U2}(hl:a.length<=1000000):QaI N a b=some (scE a b):=by
 rw[QaI,XhN,XcF,scE];by_cases he:a.length=b.length
 .have:=XsQ (F:=Qat N a b) a b he (λs t=>s.O==t.O&&(s.C0==t.C0&&s.B0==t.B0)) (λn k h1 h2=>by
   rw[Qat,Wi aa,Wc,Xc,Wb h1,Xa,Xc,Wb h2,Xa,XcF,Xg aa]) (λn=>by rw[Qat,Wh aa,Wa]) (n:=N) aa
  rw[XsR _ this,show(a.length==b.length)=true by simpa using he,Wc,WI]
  cases (a.zip b).all _<;>rfl
 rw[show(a.length==b.length)=false by simpa using he];rfl
def XpW(hN:1000000<N){a b:List Int}(hl:a.length<=1000000):Qcm N a b=some (isE a b):=by
 rw[Qcm,XhN,XcF,isE];by_cases he:a.length=b.length
 .have:=XsQ (F:=Qbi N a b) a b he (λs t=>s==t) (λn k h1 h2=>by
   rw[Qbi,Wi aa,Wc,Xc,Wb h1,Xa,Xc,Wb h2,Xa,Xg aa]
   unfold bne;rw[XcF]) (λn=>by rw[Qbi,Wh aa,Wa]) (n:=N) aa
  rw[XsR _ this,show(a.length==b.length)=true by simpa using he,Wc,WI]
  cases (a.zip b).all _<;>rfl
 rw[show(a.length==b.length)=false by simpa using he];rfl
end
section
variable {N:Nat}{x:Uw}{w:WE}
def Xck(x:Uw):List Int:=((x.R++XC x.l.S)++Xp x.g.e)++Xp x.v.e++x.P.map (·.a)
def Xeh(w:WE):List Int:=((w.R++XC w.l.S)++Xp w.g.e)++Xp w.v.e++w.m.map (·.I)
structure WV(w:WE):Prop where
 loc:Yn w.l=true
 glo:X8 w.g.e=true
 wea:X8 w.v.e=true
 m64:w.m.length<=64
 things:∀t∈w.T,Zs w.T.length t=true
 marks:∀m∈w.m,1<=m.I/\m.I<=w.T.length
 roots:XU w.T.length w.R=true
 wl:XU w.T.length (XC w.l.S)=true
 wg:XU w.T.length (Xp w.g.e)=true
 ww:XU w.T.length (Xp w.v.e)=true
def XsS(h:XZ w=true):WV w:=by unfold XZ at h;simp only[Wr,UE,UR,WP]at h;obtain⟨_,h2,h3,h4,h5,h6,h7,h8,h9,h10,h11,h12⟩:=h;refine⟨h2,h3,h4,aa,h6,λm hm=>?_,h9,h10,h11,h12⟩;unfold JB at h8;rw[YK]at h8;obtain⟨i,hi,rfl⟩:=Wv hm;have:=h8 i _ (Wb hi);unfold Xcy at this;simp only[Wr,UE,UR]at this;exact⟨aa,aa⟩
def cfB(x:Uw)(w:WE):Bool:=x.h.c.W==w.c.W&&x.h.c.p==w.c.p
def slB(a b:List UW):Bool:=(a.zip b).all λp=>p.1.J==p.2.J&&p.1.V==p.2.V
def enB(a b:List Ul):Bool:=(a.zip b).all λp=>p.1.G==p.2.G&&p.1.V==p.2.V
def piB(a:List UQ)(b:List U5):Bool:=(a.zip b).all λp=>p.1.M==p.2.M&&wU (p.1.a+1)==p.2.B0
end
section
variable {N:Nat}{x:Uw}{w:WE}
def hdB(a b:WH):Bool:=a.k==b.k&&(a.n==b.n&&a.Map==b.Map)
def XrW{a b:WH}(h:hdB a b=true):a=b:=by unfold hdB at h;simp only[Wr,beq_iff_eq]at h;cases a;cases b;obtain⟨rfl,rfl,rfl⟩:=h;rfl
structure PF(N:Nat)(x:Uw)(w:WE)(L:List Int)(p:WS)(t:UO)(l:List Int):Prop where
 get:Qb0 N x.h p.Addr=some (hdA x.h.w p.Addr,0)
 gget:QeP N x.h p.Addr=some (hdA x.h.w p.Addr,0)
 th:Xd w.T (wU (p.I-1))=some t
 fld:QcZ N x.h p.Addr=some (l,0)
 gfld:QeB N x.h p.Addr=some (l,0)
 len:(l.length:Int)=(hdA x.h.w p.Addr).n
 l255:l.length<=255
 eqv:hdB (hdA x.h.w p.Addr) t.H=true->l.length=t.D.length/\∀y∈JS (hdA x.h.w p.Addr) 0 l t.D,IO (·∈L) w.T.length y
def XsT(hN:NB N)(ht:ET x){L:List Int}(v:VF N x L){k:Nat}(hw:WB k w)(tw:XE w)(u:WV w){p:WS}(hp:p.Addr∈L)(h1:1<=p.I)(h2:p.I<=w.T.length):∃t l,PF N x w L p t l:=by
 have hN':1000000<N:=by unfold NB at hN;omega
 have hb:=ht.eb.heap;have hh:=XL hN hb v.pr;have h255:=XO (Yy x.h p.Addr);obtain⟨eg,ta,a1,a2⟩:=Xeg hN ht v hp;have er:=Xcf hN hb v.pr (v.at_ _ hp) (v.ev _ hp) (v.kd _ hp);obtain⟨l,f1,f2,f3⟩:=XaH hN hb v.pr (v.at_ _ hp) (v.ev _ hp) (v.kd _ hp);have hts:=hw.things;have hk:=hw.kk;have hi:(p.I-1).toNat<w.T.length:=aa;have hm:w.T[(p.I-1).toNat]∈w.T:=Wt hi;have e1:Xd w.T (wU (p.I-1))=some w.T[(p.I-1).toNat]:=by rw[Xz aa aa,X7 aa aa]
 have gf:QeB N x.h p.Addr=some (l,0):=by rw[QcZ,er,Xa]at f1;rw[QeB,eg,Xa,Xhl (by have:=hb.1;omega) (by rw[Xz aa aa];omega)];exact f1
 refine⟨w.T[(p.I-1).toNat],l,er,eg,e1,f1,gf,f2,aa,λhe=>?_⟩;generalize w.T[(p.I-1).toNat]=t at *;have hd:=XrW he;have tv:=u.things t hm;unfold Zs at tv;simp only[Wr,UE,bne_eq_false_iff_eq]at tv;obtain⟨t1,_,t3,t4⟩:=tv;have hlen:l.length=t.D.length:=by rw[hd]at f2;omega
 refine⟨hlen,λy hy=>?_⟩;obtain⟨j,hj,rfl⟩:=Wv hy;have hjl:j<l.length:=by rw[Xai _ _ _ _ hlen]at hj;exact hj
 rw[Xaj _ 0 l t.D j hjl aa hj,Ue];intro _ hlive;have hlive:ZP (hdA x.h.w p.Addr) (j:Int)=true:=hlive;have hpm:(j:Int)∈XN (hdA x.h.w p.Addr):=(Y4 (Yy x.h p.Addr)).2 ⟨aa,aa,hlive⟩;refine⟨?_,?_⟩
 .show l[j]=0\/l[j]∈L;rw[f3 j hjl];by_cases hz:wd x.h.w (p.Addr+1+j)=0
  .exact .inl hz
  refine .inr ?_;cases hc:L.contains (wd x.h.w (p.Addr+1+j))with
  |true=>exact Yp hc
  |false=>exact absurd ⟨(j:Int),hpm,hz,hc⟩ (v.bad _ hp)
 show 0<=t.D[j]/\t.D[j]<=w.T.length;have hjt:j<t.D.length:=aa;refine⟨((tw.1 t hm).2 _ (Wt hjt)).1,?_⟩;rw[XeY t1 t3]at t4;unfold XU at t4;rw[WP]at t4;have:=t4 _ (WG.2 ⟨(j:Int),by rw[←hd];exact hpm,rfl⟩);have hg:t.D.getD ((j:Int)).toNat 0=t.D[j]:=by rw[IS,We,Wb hjt];rfl
 have h9:¬(t.D.getD ((j:Int)).toNat 0>(w.T.length:Int)):=W5 (by simpa using this);rw[hg]at h9;omega
end
section
variable {N:Nat}{x:Uw}{w:WE}{L:List Int}
def XaN:∀{l:List OU} {z:Int×Int},z∈itL l->∃y∈l,y.live=true/\z=(y.a,y.b)
 |[],z,h=>by simp[itL]at h
 |y::l,z,h=>by
  rw[itL]at h;split at h
  .rename_i hl;rcases Us.1 h with rfl|h
   .exact⟨y,ab,hl,rfl⟩
   obtain⟨q,hq,h1⟩:=XaN h;exact⟨q,WC _ hq,h1⟩
  obtain⟨q,hq,h1⟩:=XaN h;exact⟨q,WC _ hq,h1⟩
end
abbrev MP:=List (Int×Int)
def T5(N:Nat)(a0:Uw)(a1:WE)(x65 x66:MP)(x67:List WS):Option (List WS×Bool):=
 jn (λ(x82:Bool) (x83 x84:MP) (x85:List WS)=>
  bif (!x82)then some ([],false)
  else bnd (Qbv N a0 a1 N 0 x83 x84 x85) λe=>exK e (λr=>some r) λy113=>
  some (y113.2.2,true)) λj19=>
 bif ((a0.P.length:Int) != (a1.m.length:Int))then j19 false x65 x66 x67
 else bnd (Qbu N a0 a1 N 0 x65 x66 x67) λe=>exK e (λy80=>j19 false y80.1 y80.2.1 y80.2.2) λy81=>
 j19 true y81.1 y81.2.1 y81.2.2
def T4(N:Nat)(a0:Uw)(a1:WE)(x48 x49:MP)(x50:List WS):Option (List WS×Bool):=
 jn (λ(x64:Bool) (x65 x66:MP) (x67:List WS)=>
  bif (!x64)then some ([],false)
  else T5 N a0 a1 x65 x66 x67) λj15=>
 bif ((a0.v.e.length:Int) != (a1.v.e.length:Int))then j15 false x48 x49 x50
 else bnd (Qbe N a0 a1 N 0 x48 x49 x50) λe=>exK e (λy62=>j15 false y62.1 y62.2.1 y62.2.2) λy63=>
 j15 true y63.1 y63.2.1 y63.2.2
def T3(N:Nat)(a0:Uw)(a1:WE)(x31 x32:MP)(x33:List WS):Option (List WS×Bool):=
 jn (λ(x47:Bool) (x48 x49:MP) (x50:List WS)=>
  bif (!x47)then some ([],false)
  else T4 N a0 a1 x48 x49 x50) λj11=>
 bif ((a0.g.e.length:Int) != (a1.g.e.length:Int))then j11 false x31 x32 x33
 else bnd (Qbd N a0 a1 N 0 x31 x32 x33) λe=>exK e (λy45=>j11 false y45.1 y45.2.1 y45.2.2) λy46=>
 j11 true y46.1 y46.2.1 y46.2.2
def T2(N:Nat)(a0:Uw)(a1:WE)(y1 y2:MP)(y3:List WS):Option (List WS×Bool):=
 jn (λ(x30:Bool) (x31 x32:MP) (x33:List WS)=>
  bif (!x30)then some ([],false)
  else T3 N a0 a1 x31 x32 x33) λj7=>
 bnd (QaI N a0.l.x a1.l.x) λy15=>
 bif (!y15)then j7 false y1 y2 y3
 else bnd (Qcm N a0.l.i a1.l.i) λy16=>
 bif (!y16)then j7 false y1 y2 y3
 else bif ((a0.l.S.length:Int) != (a1.l.S.length:Int))then j7 false y1 y2 y3
 else bnd (Qbc N a0 a1 N 0 y1 y2 y3) λe=>exK e (λy28=>j7 false y28.1 y28.2.1 y28.2.2) λy29=>
 j7 true y29.1 y29.2.1 y29.2.2
def XpX(N:Nat)(a0:Uw)(a1:WE):Qdy N a0 a1 =
 (bnd (Qf0 N a0) λy1=>
 bif (!y1)then some ([],false)
 else bnd (QeX N a1) λy2=>
 bif (!y2)then some ([],false)
 else bif (!((a0.h.c.W==a1.c.W)&&(a0.h.c.p==a1.c.p)))then some ([],false)
 else bif ((a0.R.length:Int) != (a1.R.length:Int))then some ([],false)
 else bnd (QaW N a0 a1 N 0 [] [] []) λe=>exK e (λr=>some r) λy14=>
 T2 N a0 a1 y14.1 y14.2.1 y14.2.2):=rfl
section
variable {N:Nat}{x:Uw}{w:WE}{L:List Int}
def FIN(N:Nat)(x:Uw)(w:WE):Option (List WS)->Option (List WS×Bool)
 |none=>some ([],false)
 |some o=>bnd (Qbv N x w N 0 (mI o) (mA o) o) λe=>exK e (λr=>some r) λy=>some (y.2.2,true)
def gd(b:Bool)(o:Option (List WS)):Option (List WS):=if b then o else none
abbrev SRL(L:List Int)(w:WE):=SR (·∈L) w.T.length
def XsU(hN:NB N)(ht:ET x)(v:VF N x L)(hi:x.P.length=w.m.length->∀y∈Kb x.P w.m,IO (·∈L) w.T.length y){o:List WS}(h:SRL L w o):
 T5 N x w (mI o) (mA o) o=FIN N x w (gd (x.P.length==w.m.length) (itS o (Kb x.P w.m))):=by
 rw[T5,Xr,XhN,XcF];by_cases he:x.P.length=w.m.length
 .rw[show(x.P.length==w.m.length)=true by simpa using he,Wc,gd,Wj rfl];rcases gl5 hN ht v he (hi he) h with⟨g1,e,g2,_⟩|⟨o',g1,_,g2⟩
  .rw[g2,g1,Xa,Xs];rfl
  rw[g2,g1,Xa,Xo];rfl
 rw[show(x.P.length==w.m.length)=false by simpa using he];rfl
def XsV(hN:NB N)(ht:ET x)(v:VF N x L)(hi5:x.P.length=w.m.length->∀y∈Kb x.P w.m,IO (·∈L) w.T.length y)(hi:x.v.e.length=w.v.e.length->∀y∈ZY x.v.e w.v.e,IO (·∈L) w.T.length y){o:List WS}(h:SRL L w o):
 T4 N x w (mI o) (mA o) o=FIN N x w (gd (x.v.e.length==w.v.e.length) ((itS o (ZY x.v.e w.v.e)).bind λo=>gd (x.P.length==w.m.length) (itS o (Kb x.P w.m)))):=by
 have hN':1000000<N:=by unfold NB at hN;omega
 rw[T4,Xr,XhN,XcF];by_cases he:x.v.e.length=w.v.e.length
 .rw[show(x.v.e.length==w.v.e.length)=true by simpa using he,Wc,gd,Wj rfl];rcases gl4 hN' (by have:=KS v.wea;omega) he (hi he) h with⟨g1,e,g2,_⟩|⟨o',g1,g3,g2⟩
  .rw[g2,g1,Xa,Xs];rfl
  rw[g2,g1,Xa,Xo];exact XsU hN ht v hi5 g3
 rw[show(x.v.e.length==w.v.e.length)=false by simpa using he];rfl
def XsW(hN:NB N)(ht:ET x)(v:VF N x L)(hi5:x.P.length=w.m.length->∀y∈Kb x.P w.m,IO (·∈L) w.T.length y)(hi4:x.v.e.length=w.v.e.length->∀y∈ZY x.v.e w.v.e,IO (·∈L) w.T.length y)(hi:x.g.e.length=w.g.e.length->∀y∈ZY x.g.e w.g.e,IO (·∈L) w.T.length y){o:List WS}(h:SRL L w o):
 T3 N x w (mI o) (mA o) o=FIN N x w (gd (x.g.e.length==w.g.e.length) ((itS o (ZY x.g.e w.g.e)).bind λo=>gd (x.v.e.length==w.v.e.length) ((itS o (ZY x.v.e w.v.e)).bind λo=>gd (x.P.length==w.m.length) (itS o (Kb x.P w.m))))):=by
 have hN':1000000<N:=by unfold NB at hN;omega
 rw[T3,Xr,XhN,XcF];by_cases he:x.g.e.length=w.g.e.length
 .rw[show(x.g.e.length==w.g.e.length)=true by simpa using he,Wc,gd,Wj rfl];rcases gl3 hN' (by have:=KS v.glo;omega) he (hi he) h with⟨g1,e,g2,_⟩|⟨o',g1,g3,g2⟩
  .rw[g2,g1,Xa,Xs];rfl
  rw[g2,g1,Xa,Xo];exact XsV hN ht v hi5 hi4 g3
 rw[show(x.g.e.length==w.g.e.length)=false by simpa using he];rfl
def B2(x:Uw)(w:WE):Bool:=scE x.l.x w.l.x&&(isE x.l.i w.l.i&&x.l.S.length==w.l.S.length)
def RES(x:Uw)(w:WE)(o:List WS):Option (List WS):=
 gd (B2 x w) ((itS o (Z4 x.l.S w.l.S)).bind λo=>gd (x.g.e.length==w.g.e.length) ((itS o (ZY x.g.e w.g.e)).bind λo=>gd (x.v.e.length==w.v.e.length) ((itS o (ZY x.v.e w.v.e)).bind λo=>gd (x.P.length==w.m.length) (itS o (Kb x.P w.m)))))
structure Si(x:Uw)(w:WE)(L:List Int):Prop where
 r:x.R.length=w.R.length->∀y∈Z3 x.R w.R,IO (·∈L) w.T.length y
 s:∀y∈Z4 x.l.S w.l.S,IO (·∈L) w.T.length y
 g:x.g.e.length=w.g.e.length->∀y∈ZY x.g.e w.g.e,IO (·∈L) w.T.length y
 k:x.v.e.length=w.v.e.length->∀y∈ZY x.v.e w.v.e,IO (·∈L) w.T.length y
 p:x.P.length=w.m.length->∀y∈Kb x.P w.m,IO (·∈L) w.T.length y
def XsX(hN:NB N)(ht:ET x)(v:VF N x L)(hi:Si x w L){o:List WS}(h:SRL L w o):
 T2 N x w (mI o) (mA o) o=FIN N x w (RES x w o):=by
 have hN':1000000<N:=by unfold NB at hN;omega
 obtain⟨l1,l2,l3⟩:=ht.eb.loc;rw[T2,Xr,XpV hN' l2,XpW hN' l3,XhN,XcF,Xa,Xa,XcF,XcF,RES,B2];cases scE x.l.x w.l.x with
 |false=>rfl
 |true=>
 cases isE x.l.i w.l.i with
 |false=>rfl
 |true=>
 by_cases he:x.l.S.length=w.l.S.length
 .rw[show(x.l.S.length==w.l.S.length)=true by simpa using he,Wc,Wc,Wc];rcases gl2 hN' l1 he hi.s h with⟨g1,e,g2,_⟩|⟨o',g1,g3,g2⟩
  .rw[g2,g1,Xa,Xs];rfl
  rw[g2,g1,Xa,Xo];exact XsW hN ht v hi.p hi.k hi.g g3
 rw[show(x.l.S.length==w.l.S.length)=false by simpa using he];rfl
def XnL(x:Uw)(w:WE):Option (List WS):=gd (cfB x w&&x.R.length==w.R.length) ((itS [] (Z3 x.R w.R)).bind λo=>RES x w o)
def XnM(hN:NB N)(ht:ET x)(v:VF N x L)(hi:Si x w L)(h:SRL L w [])(e1:Qf0 N x=some true)(e2:QeX N w=some true):Qdy N x w=FIN N x w (XnL x w):=by
 have hN':1000000<N:=by unfold NB at hN;omega
 rw[XpX,e1,Xa,Wl,Wa,e2,Xa,Wl,Wa,XcF,XhN,XcF,XnL,cfB];cases (x.h.c.W==w.c.W&&x.h.c.p==w.c.p)with
 |false=>rfl
 |true=>
 by_cases he:x.R.length=w.R.length
 .rw[show(x.R.length==w.R.length)=true by simpa using he,Wc,Wc];have hr:=ht.eb.roots;rcases gl1 (N:=N) hN' aa he (hi.r he) h with⟨g1,e,g2,g4⟩|⟨o',g1,g3,g2⟩
  .have g2:QaW N x w N 0 [] [] []=_:=g2;rw[g2,g1,Xa,Xs,g4];rfl
  have g2:QaW N x w N 0 [] [] []=_:=g2;rw[g2,g1,Xa,Xo];exact XsX hN ht v hi g3
 rw[show(x.R.length==w.R.length)=false by simpa using he];rfl
end
section
variable {N:Nat}{x:Uw}{w:WE}{L:List Int}
def XbQ:∀(a b:List OU),itL (a++b)=itL a++itL b
 |[],b=>rfl
 |x::a,b=>by rw[IA,itL,itL,XbQ a b];split<;>rfl
def Xff:∀(a b:List Int),itL (Z3 a b)=a.zip b
 |[],b=>by simp[Z3,itL]
 |x::a,[]=>by simp[Z3,itL]
 |x::a,y::b=>congrArg ((x,y)::·) (Xff a b)
def XhO:∀(a:List UQ) (b:List U5),itL (Kb a b)=(a.map (·.a)).zip (b.map (·.I))
 |[],b=>by simp[Kb,itL]
 |x::a,[]=>by simp[Kb,itL]
 |x::a,y::b=>congrArg ((x.a,y.I)::·) (XhO a b)
def Xcl:∀(a b:List UW),a.length=b.length->slB a b=true->itL (Z4 a b)=(XC a).zip (XC b)/\(XC a).length=(XC b).length
 |[],[],_,_=>⟨rfl,rfl⟩
 |s::a,t::b,hl,h=>by
  unfold slB at h;rw[Oh,U7,Wr,Wr]at h;obtain⟨⟨_,h1⟩,h2⟩:=h;obtain⟨e1,e2⟩:=Xcl a b (by simpa using hl) h2;have h1:s.V=t.V:=by simpa using h1
  have e:itL (Z4 (s::a) (t::b))=if s.V then(s.a,t.a)::itL (Z4 a b)else itL (Z4 a b):=rfl
  unfold XC at *;rw[e,Ow,Ow,←h1];cases s.V with
  |true=>simp only[if_true,UA,Oh,e1,Uq,e2];trivial
  |false=>simp only[UU,if_false];exact⟨e1,e2⟩
def Xak:∀(a b:List Ul),a.length=b.length->enB a b=true->itL (ZY a b)=(Xp a).zip (Xp b)/\(Xp a).length=(Xp b).length
 |[],[],_,_=>⟨rfl,rfl⟩
 |s::a,t::b,hl,h=>by
  unfold enB at h;rw[Oh,U7,Wr,Wr]at h;obtain⟨⟨_,h1⟩,h2⟩:=h;obtain⟨e1,e2⟩:=Xak a b (by simpa using hl) h2;have h1:s.V=t.V:=by simpa using h1
  have e:itL (ZY (s::a) (t::b))=if s.V then(s.a,t.a)::itL (ZY a b)else itL (ZY a b):=rfl
  unfold Xp at *;rw[e,Ow,Ow,←h1];cases s.V with
  |true=>simp only[if_true,UA,Oh,e1,Uq,e2];trivial
  |false=>simp only[UU,if_false];exact⟨e1,e2⟩
def ALL(x:Uw)(w:WE):List OU:=Z3 x.R w.R++(Z4 x.l.S w.l.S++(ZY x.g.e w.g.e++(ZY x.v.e w.v.e++Kb x.P w.m)))
def K0(x:Uw)(w:WE):Bool:=(cfB x w&&x.R.length==w.R.length)&&(B2 x w&&(x.g.e.length==w.g.e.length&&(x.v.e.length==w.v.e.length&&x.P.length==w.m.length)))
def XpY:(ALL x w).all (·.ok)=(slB x.l.S w.l.S&&(enB x.g.e w.g.e&&(enB x.v.e w.v.e&&piB x.P w.m))):=by
 have h1:(Z3 x.R w.R).all (·.ok)=true:=by unfold Z3;rw[Kl];simp
 unfold ALL;rw[I4,I4,I4,I4,h1,WI];unfold Z4 ZY Kb;rw[Kl,Kl,Kl,Kl];rfl
def Xle(o:Option (List WS)):gd true o=o:=rfl
def XpZ(o:Option (List WS)):gd false o=none:=rfl
def XjV{α:Type}(o:Option α):(o.bind λ_=>(none:Option (List WS)))=none:=by cases o<;>rfl
def Xp0(x:Uw)(w:WE):XnL x w=gd (K0 x w) (itS [] (ALL x w)):=by
 unfold XnL K0 RES ALL;cases (cfB x w&&x.R.length==w.R.length)with
 |false=>rfl
 |true=>
 cases B2 x w with
 |false=>simp only[XpZ,Xle,XjV,WI,Uh]
 |true=>
 cases (x.g.e.length==w.g.e.length)with
 |false=>simp only[XpZ,Xle,XjV,WI,Uh]
 |true=>
 cases (x.v.e.length==w.v.e.length)with
 |false=>simp only[XpZ,Xle,XjV,WI,Uh]
 |true=>
 cases (x.P.length==w.m.length)with
 |false=>simp only[XpZ,Xle,XjV,WI,Uh]
 |true=>simp only[Xle,WI,Xgb]
def TAB(x:Uw)(w:WE):Bool:=cfB x w&&(x.R.length==w.R.length&&(x.P.length==w.m.length&&(piB x.P w.m&&((x.l.S.length==w.l.S.length&&(x.l.x.length==w.l.x.length&&(x.l.i.length==w.l.i.length&&(slB x.l.S w.l.S&&(scE x.l.x w.l.x&&isE x.l.i w.l.i)))))&&((x.g.e.length==w.g.e.length&&enB x.g.e w.g.e)&&(x.v.e.length==w.v.e.length&&enB x.v.e w.v.e))))))
def XiP(x:Uw)(w:WE):TAB x w=(K0 x w&&(ALL x w).all (·.ok)):=by
 rw[XpY];unfold TAB K0 B2 scE isE;refine Bool.eq_iff_iff.2 ⟨λh=>?_,λh=>?_⟩
 .simp only[Wr]at h⊢;obtain⟨a,b,c,d,⟨e,f,g,i,⟨f',j⟩,g',k⟩,⟨l,m⟩,n,o⟩:=h;exact⟨⟨⟨a,b⟩,⟨⟨f,j⟩,⟨g,k⟩,e⟩,l,n,c⟩,i,m,o,d⟩
 simp only[Wr]at h⊢;obtain⟨⟨⟨a,b⟩,⟨⟨f,j⟩,⟨g,k⟩,e⟩,l,n,c⟩,i,m,o,d⟩:=h;exact⟨a,b,c,d,⟨e,f,g,i,⟨f,j⟩,g,k⟩,⟨l,m⟩,n,o⟩
def Xgd(h:TAB x w=true):itL (ALL x w)=(Xck x).zip (Xeh w):=by unfold TAB at h;simp only[Wr,beq_iff_eq]at h;obtain⟨a,b,c,d,⟨e,f,g,i,j,k⟩,⟨l,m⟩,n,o⟩:=h;obtain⟨s1,s2⟩:=Xcl _ _ e i;obtain⟨g1,g2⟩:=Xak _ _ l m;obtain⟨k1,k2⟩:=Xak _ _ n o;unfold ALL Xck Xeh;rw[XbQ,XbQ,XbQ,XbQ,Xff,s1,g1,k1,XhO];rw[List.zip_append (by simp only[Wu];omega),List.zip_append (by simp only[Wu];omega),List.zip_append (by simp only[Wu];omega),List.zip_append b];simp only[W0]
def Xp1(x:Uw)(w:WE):gd (TAB x w) (sts [] ((Xck x).zip (Xeh w)))=XnL x w:=by
 rw[Xp0,Xga];cases h:TAB x w with
 |true=>rw[←Xgd h];rw[XiP,Wr]at h;rw[h.1,h.2];rfl
 |false=>
  rw[XiP]at h;cases h1:K0 x w with
  |false=>rfl
  |true=>rw[h1,WI]at h;rw[h];rfl
def Xei{α β γ:Type}(f:α->β->γ):∀{a:List α} {b:List β} {z:γ},z∈List.zipWith f a b->∃s∈a,∃t∈b,z=f s t
 |[],b,z,h=>by simp at h
 |x::a,[],z,h=>by simp at h
 |x::a,y::b,z,h=>by
  rw[List.zipWith_cons_cons]at h;rcases Us.1 h with rfl|h
  .exact⟨x,ab,y,ab,rfl⟩
  obtain⟨s,hs,t,ht,e⟩:=Xei f h;exact⟨s,WC _ hs,t,WC _ ht,e⟩
def XbR{n:Nat}{l:List Int}(h:XU n l=true){v:Int}(hv:v∈l):v<=n:=by unfold XU at h;have:=WP.1 h v hv;simpa using this
def XnN(v:VF N x L)(tw:XE w)(u:WV w):Si x w L:=by
 have hr:∀r,(r∈x.R\/r∈XC x.l.S\/r∈Xp x.g.e\/r∈Xp x.v.e)->r=0\/r∈L:=λr h=>v.refs r (by
  simp only[Ws]
  rcases h with h|h|h|h
  .exact .inl (.inl (.inl h))
  .exact .inl (.inl (.inr h))
  .exact .inl (.inr h)
  .exact .inr h)
 have ent:∀{a b:List Ul},(∀r∈Xp a,r=0\/r∈L)->(∀t∈b,tU t.a)->(∀r∈Xp b,r<=w.T.length)->∀y∈ZY a b,IO (·∈L) w.T.length y:=by
  intro a b ha tb hb y hy hok hlive;obtain⟨s,hs,t,ht,rfl⟩:=Xei _ hy;simp only[Wr,beq_iff_eq]at hok hlive;have hl2:t.V=true:=by rw[←hok.2];exact hlive
  exact⟨ha _ (WG.2 ⟨s,W6.2 ⟨hs,hlive⟩,rfl⟩),(tb t ht).1,hb _ (WG.2 ⟨t,W6.2 ⟨ht,hl2⟩,rfl⟩)⟩
 refine⟨λ_ y hy=>?_,λy hy=>?_,λ_=>?_,λ_=>?_,λ_ y hy=>?_⟩
 .obtain⟨s,hs,t,ht,rfl⟩:=Xei _ hy;exactλ_ _=>⟨hr s (.inl hs),(tw.2.2.2.2.2 t ht).1,XbR u.roots ht⟩
 .obtain⟨s,hs,t,ht,rfl⟩:=Xei _ hy;intro hok hlive;simp only[Wr,beq_iff_eq]at hok hlive;have hl2:t.V=true:=by rw[←hok.2];exact hlive
  exact⟨hr _ (.inr (.inl (WG.2 ⟨s,W6.2 ⟨hs,hlive⟩,rfl⟩))),(tw.2.1 t ht).1,XbR u.wl (WG.2 ⟨t,W6.2 ⟨ht,hl2⟩,rfl⟩)⟩
 .exact ent (λr h=>hr r (.inr (.inr (.inl h)))) (λt ht=>tw.2.2.1 t ht) (λr h=>XbR u.wg h)
 .exact ent (λr h=>hr r (.inr (.inr (.inr h)))) (λt ht=>tw.2.2.2.1 t ht) (λr h=>XbR u.ww h)
 obtain⟨s,hs,t,ht,rfl⟩:=Xei _ hy;have:=u.marks t ht;exactλ_ _=>⟨.inr (v.pins s hs),by show 0<=t.I;omega,this.2⟩
end
section
variable {N:Nat}{w:WE}{k:Nat}
def XjW(hl:w.T.length<=1000):∀(n j:Nat) (v:List UO),j<=w.T.length->w.T.length-j<n->v.length=j->QbW N w n (j:Int) v=some (v++w.T.drop j)
 |0,j,v,_,hn,_=>by omega
 |n+1,j,v,hj,hn,hv=>by
  rw[QbW];by_cases h:j<w.T.length
  .rw[Xm h,Wc,Xc,Wb h,Xa,Xa,Xe aa,Xg aa,XjW hl n (j+1) _ aa aa (by rw[Wu];simp;omega),Wm h,W0];rfl
  obtain rfl:j=w.T.length:=aa;rw[Xv,Wa,WN (Uu _),Ia]
def XjX(y:List UO)(hl:w.m.length<=1000):∀(n j:Nat) (v:List U5),j<=w.m.length->w.m.length-j<n->v.length=j->QbX N w y n (j:Int) v=some (v++w.m.drop j)
 |0,j,v,_,hn,_=>by omega
 |n+1,j,v,hj,hn,hv=>by
  rw[QbX];by_cases h:j<w.m.length
  .rw[Xm h,Wc,Xc,Wb h,Xa,Xa,Xa,Xe aa,Xg aa,XjX y hl n (j+1) _ aa aa (by rw[Wu];simp;omega),Wm h,W0];rfl
  obtain rfl:j=w.m.length:=aa;rw[Xv,Wa,WN (Uu _),Ia]
def Xp2(hw:WB k w)(hN:1000000<N):Qcq N w=some w:=by have hk:=hw.kk;have ht:=hw.things;have hm:=hw.marks;have h1:=XjW (N:=N) (w:=w) aa N 0 [] aa aa rfl;have h2:=λy=>XjX (N:=N) (w:=w) y hm N 0 [] aa aa rfl;rw[show((0:Nat):Int)=0 from rfl,WL,Um]at h1;simp only[show((0:Nat):Int)=0 from rfl,WL,Um]at h2;rw[Qcq,h1,Xa,h2,Xa]
end
section
variable {N:Nat}{x:Uw}{w:WE}{L:List Int}
def XsY(hN:NB N)(ht:ET x)(v:VF N x L)(tw:XE w)(u:WV w)(h:TAB x w=true):∀z∈(Xck x).zip (Xeh w),(z.1=0\/z.1∈L)/\0<=z.2/\z.2<=w.T.length:=by
 intro z hz;rw[←Xgd h]at hz;obtain⟨y,hy,hlive,rfl⟩:=XaN hz;have hi:=XnN v tw u;have hall:(ALL x w).all (·.ok)=true:=by rw[XiP,Wr]at h;exact h.2
 have hok:=WP.1 hall y hy;unfold TAB at h;simp only[Wr,beq_iff_eq]at h;obtain⟨a,b,c,d,⟨e,f,g,i,j,k⟩,⟨l,m⟩,n,o⟩:=h;unfold ALL at hy;simp only[Ws]at hy;rcases hy with hy|hy|hy|hy|hy
 .exact hi.r b y hy hok hlive
 .exact hi.s y hy hok hlive
 .exact hi.g l y hy hok hlive
 .exact hi.k n y hy hok hlive
 exact hi.p c y hy hok hlive
def Xp3(h:TAB x w=true):(Xck x).length=(Xeh w).length:=by unfold TAB at h;simp only[Wr,beq_iff_eq]at h;obtain⟨a,b,c,d,⟨e,f,g,i,j,k⟩,⟨l,m⟩,n,o⟩:=h;have:=(Xcl _ _ e i).2;have:=(Xak _ _ l m).2;have:=(Xak _ _ n o).2;unfold Xck Xeh;simp only[Wu,UK];omega
end
section
variable {N:Nat}{x:Uw}{w:WE}{B:Int->Int->Prop}
def XsZ(hN:NB N)(s:Ir N x w B):∃L,VF N x L/\Qaj N x.h=some (L,0)/\∀a,a∈L↔Obb x.h a:=by
 have gx:=s.vx.mx.gx;obtain⟨_,L,_,_,_,eL,_,hL⟩:=Xba hN s.et.eb.heap gx.ep gx.ps;obtain⟨y,ey,hlen,_,hat,hev,hkd⟩:=KN hN s.et.eb.heap;rw[eL]at ey;cases ey;have z:∀{r:Int},r=0\/Obb x.h r->r=0\/r∈L:=λh=>h.imp (λe=>e) (hL _).2;refine⟨L,⟨hlen,gx.ep,hat,hev,hkd,λa ha ⟨j,hj,hz,hc⟩=>?_,λr hr=>?_,λp hp=>(hL _).2 (s.vx.mx.ob p hp).1,s.vx.mx.len,s.vx.loc,s.vx.glo,s.vx.wea⟩,eL,hL⟩
 .rcases gx.pt a ((hL a).1 ha) j hj with h|h
  .exact hz h
  rw[Ub.2 ((hL _).2 h)]at hc;cases hc
 simp only[Ws]at hr;rcases hr with((hr|hr)|hr)|hr
 .exact z (s.vx.rr r hr)
 .exact z (s.vx.rl r hr)
 .exact z (s.vx.rg r hr)
 exact z (s.vx.rw_ r hr)
def QB(B:Int->Int->Prop)(out:List WS):Prop:=PI out/\∀p∈out,B p.Addr p.I
def Xs0(hN:NB N)(s:Ir N x w B){out:List WS}(q:QB B out){a b:Int}(h:rr B a b):∃o y,stp out a b=some o/\QB B o/\o=out++y/\(a=0\/∃p∈o,p.Addr=a):=by
 have z:=s.zr hN a b h;have e1:((a==0) != (b==0))=false:=by
  by_cases ha:a=0
  .rw[Xl ha,Xl (z.2 ha)];rfl
  rw[Xh ha,Xh (λe=>ha (z.1 e))];rfl
 have e2:out.any (K6 a b)=false:=by
  rw[Iu];intro p hp;have hb:=q.2 p hp;unfold K6;by_cases h1:p.Addr=a
  .have:p.I=b:=rr.fn s hN (a:=a) (.inr (h1▸hb)) h;rw[Xl h1,Xl this];decide
  have:p.I≠b:=λe=>h1 (rr.inj s hN (c:=b) (.inr (e▸hb)) h);rw[Xh h1,Xh this];decide
 have key:∃o,stp out a b=some o:=by unfold stp;rw[e1,e2];simp only[UU,if_false];split<;>exact⟨_,rfl⟩
 obtain⟨o,eo⟩:=key;have hp:=XhM q.1 eo;have eo':=eo;unfold stp at eo';rw[e1,e2]at eo';simp only[UU,if_false]at eo';split at eo'
 .rename_i hc;cases eo';refine⟨out,[],eo,q,ab,?_⟩;rw[Il,beq_iff_eq,Io]at hc;rcases hc with hc|⟨p,hp,e⟩
  .exact .inl hc
  exact .inr ⟨p,hp,by simpa using e⟩
 rename_i hc;cases eo';refine⟨_,[⟨a,b⟩],eo,⟨hp.1,λp h1=>?_⟩,rfl,.inr ⟨⟨a,b⟩,ab,rfl⟩⟩;rcases Ws.1 h1 with h1|h1
 .exact q.2 p h1
 rw[WM.1 h1];rcases h with⟨h,_⟩|h
 .rw[h]at hc;simp at hc
 exact h
def XnO(hN:NB N)(s:Ir N x w B):∀(l:List (Int×Int)) (out:List WS),QB B out->(∀z∈l,rr B z.1 z.2)->∃o y,sts out l=some o/\QB B o/\o=out++y/\∀z∈l,z.1=0\/∃p∈o,p.Addr=z.1
 |[],out,q,_=>⟨out,[],rfl,q,ab,λz h=>by simp at h⟩
 |z::l,out,q,h=>by
  obtain⟨o1,y1,e1,q1,h1,g1⟩:=Xs0 hN s q (h z ab);obtain⟨o,y,e,q2,h2,g2⟩:=XnO hN s l o1 q1 λz hz=>h z (WC _ hz);refine⟨o,y1++y,by rw[sts,e1];exact e,q2,by rw[h2,h1,W0],λz' hz=>?_⟩;rcases Us.1 hz with rfl|hz
  .refine g1.imp (λe=>e) λ⟨p,hp,e⟩=>⟨p,?_,e⟩
   rw[h2];exact WX _ hp
  exact g2 z' hz
def Xbg{α β:Type}{r:α->β->Prop}{l:List α}{m:List β}(h:R2 r l m):∀z∈l.zip m,r z.1 z.2:=λz hz=>by obtain⟨j,hj,rfl⟩:=Wv hz;rw[List.getElem_zip];rw[List.length_zip]at hj;exact h.2 j _ _ (Wb aa) (Wb aa)
def XqP(hN:NB N)(s:Ir N x w B):TAB x w=true:=by
 have self:∀{α:Type} (l:List α) (f:α×α->Bool),(∀a,f (a,a)=true)->(l.zip l).all f=true:=λl f hf=>WP.2 λz hz=>by obtain⟨j,hj,rfl⟩:=Wv hz;rw[List.getElem_zip];exact hf _
 have ent:∀{a b:List Ul},R2 (eR (rr B)) a b->(a.length==b.length&&enB a b)=true:=λh=>by rw[Wr,beq_iff_eq];refine⟨h.1.symm,WP.2 λz hz=>?_⟩;have:=Xbg h z hz;unfold eR at this;simp only[Wr,beq_iff_eq];exact⟨by grind,by grind⟩
 unfold TAB cfB;simp only[Wr,beq_iff_eq];refine⟨⟨by rw[s.cf],by rw[s.cf]⟩,s.ro.1.symm,s.mkk.1.symm,WP.2 λz hz=>?_,⟨s.lo.sl.1.symm,by rw[s.lo.sc],by rw[s.lo.is_],WP.2 λz hz=>?_,?_,?_⟩,?_,?_⟩
 .have h:=Xbg s.mkk z hz;have hr:=s.rng hN h.2.1;simp only[Wr,beq_iff_eq];exact⟨h.1.symm,by rw[Xz aa aa];exact h.2.2.symm⟩
 .have:=Xbg s.lo.sl z hz;unfold sR at this;simp only[Wr,beq_iff_eq];exact⟨by grind,by grind⟩
 .rw[s.lo.sc];unfold scE;simp only[Wr,beq_self_eq_true,true_and];exact self _ _ λa=>by simp
 .rw[s.lo.is_];unfold isE;simp only[Wr,beq_self_eq_true,true_and];exact self _ _ λa=>by simp
 .have:=ent s.gl;simpa using this
 have:=ent s.we;simpa using this
def Xs1(hN:NB N)(s:Ir N x w B):∀z∈(Xck x).zip (Xeh w),rr B z.1 z.2:=λz hz=>by
 rw[←Xgd (XqP hN s)]at hz;obtain⟨y,hy,hlive,rfl⟩:=XaN hz;unfold ALL at hy;simp only[Ws]at hy;have g:∀{a b:List Ul},R2 (eR (rr B)) a b->y∈ZY a b->rr B y.a y.b:=λh hy=>by unfold ZY at hy;rw[←II]at hy;obtain⟨z',hz',rfl⟩:=WG.1 hy;have:=Xbg h z' hz';exact this.2.2.1 hlive
 rcases hy with hy|hy|hy|hy|hy
 .unfold Z3 at hy;rw[←II]at hy;obtain⟨z',hz',rfl⟩:=WG.1 hy;exact Xbg s.ro z' hz'
 .unfold Z4 at hy;rw[←II]at hy;obtain⟨z',hz',rfl⟩:=WG.1 hy;exact(Xbg s.lo.sl z' hz').2.2.1 hlive
 .exact g s.gl hy
 .exact g s.we hy
 unfold Kb at hy;rw[←II]at hy;obtain⟨z',hz',rfl⟩:=WG.1 hy;exact .inr (Xbg s.mkk z' hz').2.1
end
section
variable {N:Nat}{x:Uw}{w:WE}{B:Int->Int->Prop}{L:List Int}
def XiQ:∀{l:List OU} {y:OU},y∈l->y.live=true->(y.a,y.b)∈itL l
 |[],y,h,_=>by simp at h
 |z::l,y,h,hl=>by
  rw[itL];rcases Us.1 h with rfl|h
  .rw[Wj hl];simp
  split
  .exact WC _ (XiQ h hl)
  exact XiQ h hl
def CL(x:Uw)(out:List WS)(k:Nat):Prop:=∀j(h:j<out.length),j<k->∀i∈XN (hdA x.h.w out[j].Addr),wd x.h.w (out[j].Addr+1+i)=0\/∃p∈out,p.Addr=wd x.h.w (out[j].Addr+1+i)
def XqQ(hN:NB N)(s:Ir N x w B)(v:VF N x L)(hL:∀a,a∈L↔Obb x.h a){kk:Nat}(hw:WB kk w)(tw:XE w)(u:WV w):∀(m k:Nat) (out:List WS),SR (·∈L) w.T.length out->QB B out->k<=out.length->w.T.length-k<m->CL x out k ->
 ∃o y,Qbv N x w m (k:Int) (mI out) (mA out) out=some (.nxt (mI o,mA o,o))/\SR (·∈L) w.T.length o/\QB B o/\o=out++y/\CL x o o.length
 |0,k,out,_,_,_,hm,_=>by omega
 |m+1,k,out,h,q,hk,hm,hc=>by
  have hN':1000000<N:=by unfold NB at hN;omega
  have hol:=h.len;have hn1:=h.n1;rw[Qbv,Xe aa];by_cases hkl:k<out.length;case neg=>
   rw[Wh aa,Wa]
   obtain rfl:k=out.length:=aa
   exact⟨out,[],rfl,h,q,ab,hc⟩
  have hm':=Wt hkl;have hp:=h.pr _ hm';have hb:=q.2 _ hm';obtain⟨t,l,pf⟩:=XsT hN s.et v hw tw u hp.1 hp.2.1 hp.2.2;rw[Wi aa,Wc,Xc,Wb hkl,Xa];generalize ep:out[k]=p at *;have hts:=hw.things;have hkk:=hw.kk;have et:t=thg w p.I:=by have:=(Ks hw (id:=p.I) hp.2.1 hp.2.2).1;rw[pf.th]at this;exact WT this
  have ehd:t.H=hdA x.h.w p.Addr:=by rw[et];exact s.bh _ _ hb
  have hB:hdB (hdA x.h.w p.Addr) t.H=true:=by rw[ehd];unfold hdB;simp
  obtain⟨e1,e2⟩:=pf.eqv hB;have h5:=pf.l255;have hpp:=s.hp hN;obtain⟨l',fe,f2,f3⟩:=XaH hN s.et.eb.heap v.pr (v.at_ _ hp.1) (v.ev _ hp.1) (v.kd _ hp.1);have el:l'=l:=by rw[pf.fld]at fe;cases fe;rfl
  rw[el]at f2 f3;have item:∀y∈JS (hdA x.h.w p.Addr) 0 l t.D,y.ok=true/\(y.live=true->rr B y.a y.b):=λy hy=>by
   obtain⟨j,hj,rfl⟩:=Wv hy;have hjl:j<l.length:=by rw[Xai _ _ _ _ e1]at hj;exact hj
   rw[Xaj _ 0 l t.D j hjl aa hj,Ue];dsimp only;have hjt:j<t.D.length:=aa;have gd:t.D.getD j 0=t.D[j]:=by rw[We,Wb hjt];rfl
   cases h4:ZP (hdA x.h.w p.Addr) (j:Int)with
   |true=>have hpm:(j:Int)∈XN (hdA x.h.w p.Addr):=(Y4 (Yy x.h p.Addr)).2 ⟨aa,aa,h4⟩;refine⟨ab,λ_=>?_⟩;have:=s.b2 _ _ hb j hpm;rw[←et,gd]at this;rw[f3 j hjl];exact this
   |false=>
    have hpm:(j:Int)∉XN (hdA x.h.w p.Addr):=λh=>by have:=((Y4 (Yy x.h p.Addr)).1 h).2.2;rw[h4]at this;cases this
    refine⟨?_,λh=>by cases h⟩;have:=s.b1 _ _ hb j (by rw[←et];exact hjt) hpm;rw[←et,gd]at this;rw[f3 j hjl,this];simp
  have hall:(JS (hdA x.h.w p.Addr) 0 l t.D).all (·.ok)=true:=WP.2 λy hy=>(item y hy).1;have hz2:∀z∈itL (JS (hdA x.h.w p.Addr) 0 l t.D),(z.1=0\/z.1∈L)/\0<=z.2/\z.2<=w.T.length:=by intro z hz;obtain⟨y,hy,hlive,rfl⟩:=XaN hz;exact e2 y hy (item y hy).1 hlive
  obtain⟨o,y,eo,qo,eoy,cov⟩:=XnO hN s (itL (JS (hdA x.h.w p.Addr) 0 l t.D)) out q λz hz=>by obtain⟨y,hy,hlive,rfl⟩:=XaN hz;exact(item y hy).2 hlive
  have hits:=Xga (JS (hdA x.h.w p.Addr) 0 l t.D) out;rw[hall,Wj rfl,eo]at hits;have g6:=gl6 (x:=x) (w:=w) hN' (hdA x.h.w p.Addr,(0:Int)) t (k:Int) (l,(0:Int)) (by show l.length<=1000000;omega) e1 e2 h;have g2:Qbf N x w (hdA x.h.w p.Addr,(0:Int)) t (k:Int) (l,(0:Int)) N 0 (mI out) (mA out) out=some (.nxt (mI o,mA o,o)):=by
   rcases g6 with⟨g1,_⟩|⟨o',g1,g3,g2⟩
   .have g1:itS out (JS (hdA x.h.w p.Addr) 0 l t.D)=none:=g1;rw[hits]at g1;cases g1
   have g1:itS out (JS (hdA x.h.w p.Addr) 0 l t.D)=some o':=g1;rw[hits]at g1;cases g1;exact g2
  simp only[Xr];rw[pf.gget,Xa,pf.th,Xa,show(((hdA x.h.w p.Addr,(0:Int)).2) != 0)=false from rfl,Wa];have hBu:((hdA x.h.w p.Addr,(0:Int)).1.k==t.H.k&&((hdA x.h.w p.Addr,(0:Int)).1.n==t.H.n&&(hdA x.h.w p.Addr,(0:Int)).1.Map==t.H.Map))=hdB (hdA x.h.w p.Addr) t.H:=rfl;rw[hBu,Xg aa,hB,Wl,Wa,pf.gfld,Xa,show(((l,(0:Int)).2) != 0)=false from rfl,Wa,XhN,show((l,(0:Int)).1.length==t.D.length)=true by simpa using e1,Wl,Wa,g2,Xa,Xo];obtain⟨p1,p2,_⟩:=XiO h.pi h.pr hz2 eo;have hlen:o.length=out.length+y.length:=by rw[eoy,Wu]
  have cl:CL x o (k+1):=λj hj hjk i hi=>by
   by_cases hjk':j<k
   .have hj':j<out.length:=aa;have ej:o[j]=out[j]:=by simp only[eoy];rw[List.getElem_append_left hj']
    rw[ej]at hi⊢;refine(hc j hj' hjk' i hi).imp (λe=>e) λ⟨p',hp',e⟩=>⟨p',?_,e⟩
    rw[eoy];exact WX _ hp'
   obtain rfl:j=k:=aa;have ej:o[j]=p:=by simp only[eoy];rw[List.getElem_append_left hkl];exact ep
   rw[ej]at hi⊢;obtain⟨i0,i1,i2⟩:=(Y4 (Yy x.h p.Addr)).1 hi;have hil:i.toNat<l.length:=aa;have ew:=f3 i.toNat hil;rw[show(i.toNat:Int)=i by omega]at ew;have hmem:(l[i.toNat],t.D[i.toNat]'aa)∈itL (JS (hdA x.h.w p.Addr) 0 l t.D):=by
    have hf:i.toNat<(JS (hdA x.h.w p.Addr) 0 l t.D).length:=by rw[Xai _ _ _ _ e1];exact hil
    have gg:=Xaj (hdA x.h.w p.Addr) 0 l t.D i.toNat hil aa hf;rw[Ue,show(i.toNat:Int)=i by omega,i2]at gg;have:=Wt hf;rw[gg]at this;exact XiQ this rfl
   have:=cov _ hmem;rw[ew]at this;exact this
  obtain⟨o2,y2,r1,r2,r3,r4,r5⟩:=XqQ hN s v hL hw tw u m (k+1) o ⟨p1,p2,h.o,h.n1⟩ qo aa (by have:=h.len;omega) cl;exact⟨o2,y++y2,r1,r2,r3,by rw[r4,eoy,W0],r5⟩
end
section
variable {N:Nat}{x:Uw}{w:WE}{B:Int->Int->Prop}{L:List Int}
def Xp4(hN:NB N)(s:Ir N x w B){k:Nat}(hw:WB k w)(tw:XE w):∃o,Qdy N x w=some (o,true)/\QB B o/\CL x o o.length/\o.length<=w.T.length/\∀r∈Xck x,r=0\/∃p∈o,p.Addr=r:=by
 have hN':1000000<N:=by unfold NB at hN;omega
 obtain⟨L,v,eL,hL⟩:=XsZ hN s;have eg:=XpI hN s.et;rw[(Vk hN s.et).2 s.vx]at eg;have hwv:=s.wv hN;have gw:=XmX hw hN' tw;rw[hwv]at gw;have u:=XsS hwv;have hi:=XnN v tw u;have hkk:=hw.kk;have hts:=hw.things;have s0:SRL L w []:=⟨PI.nil,λp hp=>by simp at hp,λa ha=>by obtain⟨_,_,h1,h2⟩:=Xeg hN s.et v ha;omega,aa⟩
 have G:=XnM hN s.et v hi s0 eg gw;have hT:=XqP hN s;have tabs:=Xp1 x w;rw[hT,Xle]at tabs;have hz:=XsY hN s.et v tw u hT;obtain⟨o,y,eo,qo,eoy,cov⟩:=XnO hN s ((Xck x).zip (Xeh w)) [] ⟨PI.nil,λp hp=>by simp at hp⟩ (Xs1 hN s);rw[eo]at tabs;obtain⟨p1,p2,_⟩:=XiO s0.pi s0.pr hz eo;obtain⟨o2,y2,r1,r2,r3,r4,r5⟩:=XqQ hN s v hL hw tw u N 0 o ⟨p1,p2,s0.o,s0.n1⟩ qo (UY _) aa (λj _ h=>aa);refine⟨o2,?_,r3,r5,r2.len,λr hr=>?_⟩
 .rw[G,←tabs,FIN];have r1:Qbv N x w N 0 (mI o) (mA o) o=_:=r1;rw[r1,Xa,Xo]
 have hl:=Xp3 hT;obtain⟨j,hj,rfl⟩:=Wv hr;have hm:((Xck x)[j],(Xeh w)[j]'aa)∈(Xck x).zip (Xeh w):=by
  have h1:j<((Xck x).zip (Xeh w)).length:=by rw[List.length_zip];omega
  have:=Wt h1;rw[List.getElem_zip]at this;exact this
 refine(cov _ hm).imp (λe=>e) λ⟨p,hp,e⟩=>⟨p,?_,e⟩
 rw[r4];exact WX _ hp
end
section
variable {N:Nat}{h:Wp}{A:Int->Prop}{L:List Int}
structure OI(A:Int->Prop)(out:List Int):Prop where
 nd:(out.map Int.toNat).Nodup
 a:∀a∈out,A a
def OI.len{out:List Int}(o:OI A out)(hA:∀a,A a->4096<=a/\a<=8192):out.length<=8193:=by
 have:=XaM 8193 o.nd λy hy=>by obtain⟨a,ha,rfl⟩:=WG.1 hy;have:=hA a (o.a a ha);omega
 simpa using this
def OI.add{out:List Int}(o:OI A out)(hA:∀a,A a->4096<=a/\a<=8192){r:Int}(hr:A r)(hn:r∉out):OI A (out++[r]):=by
 refine⟨?_,λa ha=>?_⟩
 .rw[UV,U6];refine⟨o.nd,ab,λy hy z hz e=>?_⟩;obtain⟨a,ha,rfl⟩:=WG.1 hy;simp only[UA,U9,WM]at hz;have h1:=hA a (o.a a ha);have h2:=hA r hr;have:a=r:=aa;exact hn (this▸ha)
 rcases Ws.1 ha with ha|ha
 .exact o.a a ha
 rw[WM.1 ha];exact hr
def XbS(hA:∀a,A a->4096<=a/\a<=8192){α:Type}{F:Nat->Int->List Int->Option (Ex α (List Int))}{refs:List Int}(hr:∀r∈refs,r=0\/A r)(hs:∀n k(hk:k<refs.length)v,v.length<=8193->F (n+1) (k:Int) v=if refs[k]=0 then F n ((k+1:Nat):Int) v else if refs[k]∈v then F n ((k+1:Nat):Int) v else F n ((k+1:Nat):Int) (v++[refs[k]]))(he:∀n v,F (n+1) (refs.length:Int) v=some (.nxt v)):∀(n k:Nat) (v:List Int),OI A v->k<=refs.length->refs.length-k<n->∃v' y,F n (k:Int) v=some (.nxt v')/\OI A v'/\v'=v++y
 |0,k,v,_,_,hn=>by omega
 |n+1,k,v,o,hk,hn=>by
  by_cases h:k<refs.length
  .rw[hs n k h v (o.len hA)];by_cases h0:refs[k]=0
   .rw[Wj h0];exact XbS hA hr hs he n (k+1) v o aa aa
   rw[Wg h0];by_cases hm:refs[k]∈v
   .rw[Wj hm];exact XbS hA hr hs he n (k+1) v o aa aa
   rw[Wg hm];obtain⟨v',y,e,o',ey⟩:=XbS hA hr hs he n (k+1) (v++[refs[k]]) (o.add hA ((hr _ (Wt h)).resolve_left h0) hm) aa aa;exact⟨v',refs[k]::y,e,o',by rw[ey];simp⟩
  obtain rfl:k=refs.length:=aa;exact⟨v,[],he n v,o,ab⟩
def XiR(hN:1000000<N){d:WH}{l:List Int}(hl:l.length<=255){Q:Int->Prop}(hq:∀j(hj:j<l.length),ZP d (j:Int)=true->Q l[j]):∀(n k:Nat) (v:List Int),k<=l.length->l.length-k<n->v.length<=k->(∀z∈v,Q z)->∃r,Qdi N (d,0) (l,0) n (k:Int) v=some r/\r.length<=l.length/\∀z∈r,Q z
 |0,k,v,_,hn,_,_=>by omega
 |n+1,k,v,hk,hn,hv,hz=>by
  rw[Qdi];by_cases h:k<l.length
  .rw[Wi (by show(k:Int)<(l.length:Nat);omega),Wc,JI,Xa,Xc,Xg aa];dsimp only;rw[Wb h,Xa];cases hp:ZP d (k:Int)with
   |true=>
    rw[Wc,Xe aa];refine XiR hN hl hq n (k+1) (v++[l[k]]) aa aa (by rw[Wu];simp;omega) λz hz'=>?_;rcases Ws.1 hz' with h1|h1
    .exact hz z h1
    rw[WM.1 h1];exact hq k h hp
   |false=>rw[Wa];exact XiR hN hl hq n (k+1) v aa aa aa hz
  rw[Wh (by show¬(k:Int)<(l.length:Nat);omega),Wa];exact⟨v,rfl,aa,hz⟩
end
section
variable {N:Nat}{x:Uw}{w:WE}{B:Int->Int->Prop}{L:List Int}{A:Int->Prop}
def XrX(hN:NB N)(s:Ir N x w B)(v:VF N x L)(hL:∀a,A a->a∈L)(hcl:∀a,A a->∀i∈XN (hdA x.h.w a),wd x.h.w (a+1+i)=0\/A (wd x.h.w (a+1+i))){a:Int}(ha:A a):∃r,QgM N x.h a=some r/\r.length<=255/\∀z∈r,z=0\/A z:=by
 have hN':1000000<N:=by unfold NB at hN;omega
 have hm:=hL a ha;have hb:=s.et.eb.heap;have er:=Xcf hN hb v.pr (v.at_ _ hm) (v.ev _ hm) (v.kd _ hm);obtain⟨l,f1,f2,f3⟩:=XaH hN hb v.pr (v.at_ _ hm) (v.ev _ hm) (v.kd _ hm);have h255:=XO (Yy x.h a);have hl:l.length<=255:=aa;obtain⟨r,e,h1,h2⟩:=XiR hN' (d:=hdA x.h.w a) hl (Q:=λz=>z=0\/A z) (λj hj hp=>by
  rw[f3 j hj]
  exact hcl a ha j ((Y4 (Yy x.h a)).2 ⟨aa,aa,hp⟩)) N 0 [] (UY _) aa ab ab
 refine⟨r,?_,aa,h2⟩;have e:Qdi N (hdA x.h.w a,0) (l,0) N 0 []=some r:=e;rw[QgM,er,Xa,f1,Xa,e,Xa]
def XhP(hN:NB N)(s:Ir N x w B)(v:VF N x L)(hL:∀a,A a->a∈L)(hA:∀a,A a->4096<=a/\a<=8192)(hcl:∀a,A a->∀i∈XN (hdA x.h.w a),wd x.h.w (a+1+i)=0\/A (wd x.h.w (a+1+i))):∀(m k:Nat) (out:List Int),OI A out->k<=out.length->8193-k<m ->
 ∃o,Qdz N x.h (L,0) m true (k:Int) out=some (true,o)/\OI A o
 |0,k,out,_,_,hm=>by omega
 |m+1,k,out,o,hk,hm=>by
  have hN':1000000<N:=by unfold NB at hN;omega
  have hlen:=o.len hA;have hLl:=v.len;rw[Qdz,Wc,Xe aa];by_cases h:k<out.length;case neg=>
   rw[Wh aa,Wa]
   exact⟨out,rfl,o⟩
  obtain⟨r,er,hr,hz⟩:=XrX hN s v hL hcl (o.a _ (Wt h));rw[Wi aa,Wc,Xc,Wb h,Xa,er,Xa,Xr];obtain⟨v',y,e,o',ey⟩:=XbS hA (F:=QbZ N x.h (L,0) r (k:Int)) hz (λn j hj u hu=>by
   rw[QbZ,Wi aa,Wc,Xc,Wb hj]
   simp only[Xa]
   rw[Ym _ aa aa,Ym _ aa aa,Xg aa]
   by_cases h0:r[j]=0
   .rw[Xl h0,Wc,Wj h0]
   rw[Xh h0,Wa,Wg h0,Xa,Ub.2 (hL _ ((hz _ (Wt hj)).resolve_left h0)),Wl,Wa,Xa]
   by_cases hmm:r[j]∈u
   .rw[Ub.2 hmm,Wl,Wa,Wj hmm]
   .rw[show u.contains r[j]=false by simpa using hmm,WY,Wc,Wg hmm,Xe aa]) (λn u=>by rw[QbZ,Wh aa,Wa]) N 0 out o (UY _) aa
  have e:QbZ N x.h (L,0) r (k:Int) N 0 out=_:=e;rw[e,Xa,Xo,Xg aa];exact XhP hN s v hL hA hcl m (k+1) v' o' (by rw[ey,Wu];omega) aa
def Xp5(hN:NB N)(s:Ir N x w B)(v:VF N x L)(eL:Qaj N x.h=some (L,0))(hL:∀a,A a->a∈L)(hcl:∀a,A a->∀i∈XN (hdA x.h.w a),wd x.h.w (a+1+i)=0\/A (wd x.h.w (a+1+i))){roots:List Int}(hl:roots.length<=1000000)(hr:∀r∈roots,r=0\/A r):∃o,Qgs N x.h roots=some (o,0)/\OI A o:=by
 have hN':1000000<N:=by unfold NB at hN;omega
 have hA:∀a,A a->4096<=a/\a<=8192:=λa ha=>by obtain⟨_,_,h1,h2⟩:=Xeg hN s.et v (hL a ha);omega
 have hLl:=v.len;obtain⟨v',y,e,o',ey⟩:=XbS hA (F:=QbY N x.h roots (L,0)) hr (λn j hj u hu=>by
  rw[QbY,Wi aa,Wc,Xc,Wb hj]
  simp only[Xa]
  rw[Ym _ aa aa,Ym _ aa aa,Xg aa]
  by_cases h0:roots[j]=0
  .rw[Xl h0,Wc,Wj h0]
  rw[Xh h0,Wa,Wg h0,Xa,Ub.2 (hL _ ((hr _ (Wt hj)).resolve_left h0)),Wl,Wa,Xa]
  by_cases hmm:roots[j]∈u
  .rw[Ub.2 hmm,Wl,Wa,Wj hmm]
  .rw[show u.contains roots[j]=false by simpa using hmm,WY,Wc,Wg hmm,Xe aa]) (λn u=>by rw[QbY,Wh aa,Wa]) N 0 [] ⟨ab,ab⟩ (UY _) aa
 obtain⟨o,eo,ho⟩:=XhP hN s v hL hA hcl N 0 v' o' (UY _) aa;have e:QbY N x.h roots (L,0) N 0 []=_:=e;have eo:Qdz N x.h (L,0) N true 0 v'=_:=eo;refine⟨o,?_,ho⟩;rw[Qgs,v.pr,Xa,Wl,Wa,eL,Xa,show(((L,(0:Int)).2) != 0)=false from rfl,Wa,Xr,e,Xa,Xo];dsimp only;rw[eo,Xa,Wl,Wa]
end
def XhQ(m:Nat):Qg1 (m+5000)=some true:=ac
def XrY{α β:Type}{L:Nat}{F:Nat->Int->Option (Ex α β)}{u:β}(hok:∀n k,k<L->F (n+1) (k:Int)=F n ((k+1:Nat):Int))(hstop:∀n,F (n+1) (L:Int)=some (.nxt u)){n:Nat}(hn:L<n):F n 0=some (.nxt u):=by obtain⟨e,e1,_,e3⟩:=JM (p:=λ_=>False) (Q:=λ_=>True) (u:=u) (λn k _ h=>h.elim) (λn k hk _=>hok n k hk) hstop n 0 aa aa;rw[e3 (λ⟨_,_,_,h⟩=>h)]at e1;exact e1
section
variable {N:Nat}{x:Uw}{w:WE}{B:Int->Int->Prop}
def XjY(hN:1000000<N)(y1:IV){o:List WS}(hp:PI o)(hl:o.length<=1000):∀(n k:Nat),k<=o.length->o.length-k<n->Qa8 N y1 (o,true) n (k:Int) ((o.take k).map (·.Addr)) ((o.take k).map (·.I))=some (.nxt (o.map (·.Addr)))
 |0,k,_,hn=>by omega
 |n+1,k,hk,hn=>by
  rw[Qa8];by_cases h:k<o.length
  .have nd:=Uf.1 (Iv.1 hp.nd);have h1:(((o.take k).map (·.I)).contains o[k].I)=false:=by rw[←In,Ub];intro hm;obtain⟨p,hp',e⟩:=WG.1 hm;obtain⟨j,hj,rfl⟩:=Wv hp';rw[Wx]at hj;rw[ID]at e;exact nd j k aa h aa e
   have h2:(((o.take k).map (·.Addr)).contains o[k].Addr)=false:=by rw[←In,Ub];intro hm;obtain⟨p,hp',e⟩:=WG.1 hm;obtain⟨j,hj,rfl⟩:=Wv hp';rw[Wx]at hj;rw[ID]at e;exact nd j k aa h aa ((hp.one _ (Wt _) _ (Wt h)).1 e)
   have l1:((o.take k).map (·.Addr)).length<=1000:=by simp;omega
   have l2:((o.take k).map (·.I)).length<=1000:=by simp;omega
   rw[Wi (by show(k:Int)<(o.length:Nat);omega),Wc,Xc];dsimp only;rw[Wb h];simp only[Xa];rw[Ym _ aa aa,Xa,h2,Wa,Ym _ aa aa,Xa,h1,Wa,Xe aa,Xe aa,Xg aa];have e1:∀f:WS->Int,(o.take k).map f++[f o[k]]=(o.take (k+1)).map f:=λf=>by rw[UT,Wb h,UV];rfl
   rw[e1 (·.Addr),e1 (·.I)];exact XjY hN y1 hp hl n (k+1) aa aa
  obtain rfl:k=o.length:=aa;rw[Wh (by show¬(o.length:Int)<(o.length:Nat);omega),Wa,List.take_length]
def Xp6(hN:1000000<N){l a:List Int}(hl:l.length<=1000000)(ha:a.length<=100000)(hs:∀z∈a,z∈l):QaN N l (a,0) N 0=some (.nxt ()):=
 XrY (F:=QaN N l (a,0)) (L:=a.length) (u:=()) (λn k hk=>by
  rw[QaN,Wi (by show(k:Int)<(a.length:Nat);omega),Wc,Xc]
  dsimp only
  rw[Wb hk,Xa,Ym _ aa aa,Xa,Ub.2 (hs _ (Wt hk)),Wl,Wa,Xg aa]) (λn=>by rw[QaN,Wh (by show¬(a.length:Int)<(a.length:Nat);omega),Wa]) aa
def Xal(hN:NB N)(tape:List Int):QcO N tape=some true:=by
 have hN':1000000<N:=by unfold NB at hN;omega
 obtain⟨p,ep,k,hk,hp,B,s⟩:=XrP hN (M:=100) aa aa tape;obtain⟨o,em,q,cl,hlen,cov⟩:=Xp4 hN s hp.wor hp.ty.2.1;have hts:=hp.wor.things;have hkk:=hp.wor.kk;have hol:o.length<=1000:=aa;obtain⟨L,v,eL,hL⟩:=XsZ hN s;have hx:=s.et.eb;have sl:=Xhs hx;obtain⟨a,ea,oa⟩:=Xp5 (A:=λa=>∃p∈o,p.Addr=a) hN s v eL (λa ⟨p,hp,e⟩=>(hL a).2 (e▸(s.bo _ _ (q.2 p hp)).1)) (λa ⟨p,hp,e⟩ i hi=>by
  obtain⟨j,hj,rfl⟩:=Wv hp
  rw[←e]at hi⊢
  exact cl j hj hj i hi) (roots:=JF p.N) (by have:=s.vx.mx.len;omega) (λr hr=>by
  refine cov r ?_
  unfold JF at hr
  unfold Xck
  rw[s.vx.loc,s.vx.glo,Wc,Wc]at hr
  simp only[Ws]at hr⊢
  rcases hr with((h|h)|h)|h
  .exact .inl (.inl (.inl (.inl h)))
  .exact .inl (.inl (.inl (.inr h)))
  .exact .inl (.inl (.inr h))
  .exact .inr h)
 have l1:=XjY hN' p q.1 hol N 0 (UY _) aa;have l1:Qa8 N p (o,true) N 0 [] []=some (.nxt (o.map (·.Addr))):=l1;have ha:a.length<=8193:=oa.len λa ⟨p,hp,e⟩=>by obtain⟨_,_,h1,h2⟩:=Xeg hN s.et v ((hL a).2 (e▸(s.bo _ _ (q.2 p hp)).1));omega
 have l2:=Xp6 hN' (l:=o.map (·.Addr)) (a:=a) ah aa (λz hz=>by
  obtain⟨p,hp,e⟩:=oa.a z hz
  exact WG.2 ⟨p,hp,e⟩)
 obtain⟨m,hm⟩:∃m,N=m+5000:=⟨N-5000,aa⟩
 have aw:=XhQ m;rw[←hm]at aw;rw[QcO,ep,Xa,Xp2 hp.wor hN',Xa,em,Xa,Wl,Wa,l1,Xa,Xo,XdY hN hx,Xa,ea,Xa,l2,Xa,Xo,aw,Xa,Wc];rfl
end
end Go.Sx
