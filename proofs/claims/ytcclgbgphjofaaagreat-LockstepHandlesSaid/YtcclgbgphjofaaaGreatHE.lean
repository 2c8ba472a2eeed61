import Derived.Test.YtcclgbgphjofaaaGreatHD
set_option linter.all false
namespace Go.Sx
def Oz{β κ:Type}{P:β->Prop}{k:κ->Option β}{f:(κ->Option β)->Option β}(h:∀x,Ok (k x) P)(g:∀j:κ->Option β,(∀x,Ok (j x) P)->Ok (f j) P):Ok (Sx.jn k f) P:=by simp_all[Xr]
def Uz{β:Type}{P:β->Prop}{b:Bool}{x y:Option β}(e:Ok x P)(f:Ok y P):Ok (bif b then x else y) P:=by grind
def UB{α β:Type}{P:β->Prop}{o:Option α}{Q:α->Prop}{f:α->Option β}(h:Ok o Q)(k:∀y,Q y->Ok (f y) P):Ok (Sx.bnd o f) P:=WQ h λy _ e=>k y e
def Ok.t{α:Type}{o:Option α}{P:α->Prop}(h:Ok o P):Ok o λ_=>True:=h.mono λ_ _=>trivial
section
variable {N:Nat}{x:Uw}
abbrev EP(r:Uw×Int×Int):Prop:=EB r.1
def XkG(e:Int):Ok (Qaa N e) EP:=by exact Wd XdJ
def XD(e:Int):Ok (bnd (Qaa N e) λy=>some (y.1,y.2.1,y.2.2)) EP:=UB (XkG e) λy f=>Wd f
def XmM(a b c:Int):Ok (Qcg N a b c) λ_=>True:=by exact Uz (Uz (Wd trivial) (Wd trivial)) (Wd trivial)
def XaA(hN:NB N)(e:EB x)(a:Int):Ok (Qct N x a) EP:=by have f:=hN;unfold NB at f;refine Uz (Wd e) ?_;rw[Vy e.loc aa,Xa];exact Uz (XD _) (UB (Y3 _) λy _=>Wd ⟨e.heap,Xjp e.loc a,e.glo,e.wea,e.pins,e.roots⟩)
def Xin(hN:NB N)(f:EB x)(a b c:Int):Ok (QdK N x a b c) EP:=by have e:=hN;unfold NB at e;refine Uz (XD _) (UB (XmM _ _ _) λy _=>IP (Uz (XD _) (UB (Xju hN _ _) λz _=>Uz (XD _) ?_)));rw[Vy f.loc aa,Xa];exact Uz (XD _) (UB (XkF hN f _) λj g=>Uz (XD _) (UB (XaA hN g _) λl h=>Wd h))
def XaB(hN:NB N)(e:EB x)(a:Int):Ok (QbQ N x a) λ_=>True:=by exact UB (ZR hN e a) λy _=>Uz (Uz (Wd trivial) (Wd trivial)) (Wd trivial)
def XeS(hN:NB N)(e:EB x)(a b:Int)(c:Bool):Ok (QcS N x a b c) λ_=>True:=by refine UB (XaB hN e a) λy _=>Uz (Wd trivial) (UB (Xdy hN e.heap _) λz _=>Uz (Wd trivial) ?_);rw[JI,Xa];exact Uz (Wd trivial) (Wd trivial)
def XkH(hN:NB N)(e:EB x)(a b c d:Int):Ok (QcU N x a b c d) EP:=by
 have o:∀i j v:Int,Ok (α:=Uw×Int×Int) (bnd (Qci N x.h i j v) λf=>some ((Uw.mk f.1 x.l x.g x.v x.P x.R),0,0)) EP:=λi j v=>
  UB (XgV hN e.heap i j v) λy p=>Wd ⟨p,e.loc,e.glo,e.wea,e.pins,e.roots⟩
 refine IP (Uz (UB (XeS hN e _ _ _) λy _=>?_) (UB (XeS hN e _ _ _) λy _=>?_))<;>
 exact Uz (XD _) (UB (XgU hN e.heap _ _) λz _=>Uz (Wd e) (Uz (UB (XaA hN e _) λr q=>Wd q) (IP (Uz (UB (ZR hN e _) λs _=>Uz (XD _) (o _ _ _)) (o _ _ _)))))
def XkI(hN:NB N)(e:EB x)(a b c:Int):Ok (Qcv N x a b c) EP:=by refine Oz (λb1=>Uz (UB (XaB hN e _) λy _=>Uz (XD _) (UB (Xdy hN e.heap _) λz _=>Uz (Wd e) (Wd e))) (Uz (UB (ZR hN e _) λy _=>Uz (XD _) (UB (ZR hN e _) λz _=>Uz (XD _) (Uz (Wd e) (Wd e)))) (UB (ZR hN e _) λy _=>Uz (XD _) (UB (XaA hN e _) λz g=>Wd g)))) λj f=>Uz (f _) (f _)
def Xhe(hN:NB N)(f:EB x)(a b:Int):Ok (Qde N x a b) EP:=by
 have j:=hN;unfold NB at j;refine UB (XaB hN f _) λy _=>Uz (XD _) (IP (Uz ?_ ?_))
 .show Ok (bnd (QcN N ⟨x.v.e⟩ y.1) _) EP;rw[KL (t:=⟨x.v.e⟩) f.wea aa,Xa];have h:=Xjs (t:=⟨x.v.e⟩) f.wea y.1;exact Uz (XD _) (IP (Uz (UB (Y3 _) λz _=>Wd ⟨f.heap,f.loc,f.glo,h,f.pins,f.roots⟩) (UB (Y3 _) λz _=>Wd ⟨f.heap,f.loc,h,f.wea,f.pins,f.roots⟩)))
 show Ok (bnd (QcN N ⟨x.g.e⟩ y.1) _) EP;rw[KL (t:=⟨x.g.e⟩) f.glo aa,Xa];have h:=Xjs (t:=⟨x.g.e⟩) f.glo y.1;exact Uz (XD _) (IP (Uz (UB (Y3 _) λz _=>Wd ⟨f.heap,f.loc,f.glo,h,f.pins,f.roots⟩) (UB (Y3 _) λz _=>Wd ⟨f.heap,f.loc,h,f.wea,f.pins,f.roots⟩)))
def Xio(hN:NB N)(e:EB x)(a b:Int):Ok (Qc4 N x a b) EP:=by
 have f:=hN;unfold NB at f;refine Uz (XD _) (UB (ZR hN e _) λy _=>Uz (XD _) (UB (Xb8 _) λz _=>Oz (λ_=>Uz ?_ (Uz ?_ ?_)) λg h=>Oz (λ_=>XD _) λj l=>?_))
 .rw[XcR e.loc aa,Xa];exact Wd ⟨e.heap,Xjq e.loc _ _,e.glo,e.wea,e.pins,e.roots⟩
 .rw[JL e.glo aa,Xa];exact Wd ⟨e.heap,e.loc,Xjt e.glo _ _,e.wea,e.pins,e.roots⟩
 .rw[JL e.wea aa,Xa];exact Wd ⟨e.heap,e.loc,e.glo,Xjt e.wea _ _,e.pins,e.roots⟩
 grind
def Xip(hN:NB N)(e:EB x)(a b:Int):Ok (QdN N x a b) EP:=by
 have f:=hN;unfold NB at f;refine Uz (Uz (XD _) ?_) (UB (ZR hN e _) λy _=>Uz (XD _) ?_)
 .rw[V6 e.loc aa,Xa];exact Uz (XD _) (Wd ⟨e.heap,Xg5 e.loc _,e.glo,e.wea,e.pins,e.roots⟩)
 rw[Xbw e.loc aa,Xa];exact Uz (XD _) (UB (XaA hN (x:=⟨x.h,(Yt x.l).1,x.g,x.v,x.P,x.R⟩) ⟨e.heap,XfQ e.loc,e.glo,e.wea,e.pins,e.roots⟩ _) λz j=>Wd j)
def XmN(hN:NB N)(e:EB x)(a b:Int):Ok (QeM N x a b) EP:=by refine UB (XaB hN e _) λy _=>Uz (XD _) (Uz (UB (Xil hN e.heap e.pins _) λz f=>Uz (XD _) (Wd ⟨f.1,e.loc,e.glo,e.wea,f.2,e.roots⟩)) (UB (XkE hN e.heap e.pins _) λz f=>Uz (XD _) (Wd ⟨f.1,e.loc,e.glo,e.wea,f.2,e.roots⟩)))
def XmO(hN:NB N)(f:EB x)(op a b c:Int):Ok (Qad N x op a b c) EP:=by
 have thr:∀{o:Option (Uw×Int×Int)},Ok o EP->Ok (bnd o λy=>some (y.1,y.2.1,y.2.2)) EP:=λh=>UB h λy l=>Wd l;refine UB (Xaz hN f) λb1 _=>Uz (XD _) ?_;refine Oz (λe=>Uz (thr (Xin hN f _ _ _)) ?_) λp g=>?_
 .refine Oz (λe=>Uz (thr (XkH hN f _ _ _ _)) ?_) λj h=>?_
  .refine Oz (λe=>Uz (thr (XkI hN f _ _ _)) ?_) λj h=>?_
   .refine Oz (λe=>Uz (thr (Xhe hN f _ _)) ?_) λj h=>?_
    .refine Oz (λe=>Uz (thr (Xio hN f _ _)) ?_) λj h=>?_
     .refine Oz (λe=>Uz (thr (Xip hN f _ _)) ?_) λj h=>?_
      .refine Oz (λe=>Uz (thr (XmN hN f _ _)) (XD _)) λj h=>Uz (h _) (h _)
      exact Uz (h _) (h _)
     exact Uz (h _) (Oz (λe=>h _) λj h=>Uz (h _) (h _))
    grind
   exact Uz (h _) (Oz (λe=>h _) λj h=>Uz (h _) (Oz (λe=>h _) λj h=>Uz (h _) (h _)))
  exact Uz (h _) (Oz (λe=>h _) λj h=>Uz (h _) (Oz (λe=>h _) λj h=>Uz (h _) (h _)))
 exact Uz (g _) (Oz (λe=>g _) λj h=>Uz (h _) (h _))
end
structure WB(k:Nat)(w:WE):Prop where
 kk:k<=900
 things:w.T.length<=k
 fields:∀x∈w.T,x.D.length<=1000
 loc:LBp w.l
 gloK:w.g.e.length<=1000+k
 weaK:w.v.e.length<=1000+k
 marksK:w.m.length<=100+k
 rootsK:w.R.length<=100+k
def WB.glo{k:Nat}{w:WE}(h:WB k w):TB w.g:=by have:=h.kk;have:=h.gloK;unfold TB;omega
def WB.wea{k:Nat}{w:WE}(h:WB k w):TB w.v:=by have:=h.kk;have:=h.weaK;unfold TB;omega
def WB.marks{k:Nat}{w:WE}(h:WB k w):w.m.length<=1000:=by have:=h.kk;have:=h.marksK;omega
def WB.roots{k:Nat}{w:WE}(h:WB k w):w.R.length<=1000:=by have:=h.kk;have:=h.rootsK;omega
def Zi(d:WH):Nat->List Int->List Int
 |_,[]=>[]
 |k,f::e=>if ZP d k then f::Zi d (k+1) e else Zi d (k+1) e
def K5(x:UO):List Int:=Zi x.H 0 x.D
def Xb9(d:WH):∀(k:Nat) (l:List Int),(Zi d k l).length<=l.length
 |k,[]=>by simp[Zi]
 |k,f::e=>by have:=Xb9 d (k+1) e;unfold Zi;grind
def XU(n:Nat)(l:List Int):Bool:=l.all λp=>!decide (p>(n:Int))
def Ze(l:List U5)(id:Int):Int:=match l.findIdx? (λm=>m.I==id)with|some k=>(k:Int)|none=>-1
def Zs(n:Nat)(x:UO):Bool:=XM x.H&&(!(x.H.k==0)&&(!((x.D.length:Int) != x.H.n)&&XU n (K5 x)))
def Xcy(n:Nat)(l:List U5)(_:Unit)(i:Nat)(m:U5):Bool:=!decide (m.I<1)&&(!decide (m.I>(n:Int))&&(!(Ze l m.I != (i:Int))&&(!decide (m.M<1)&&!decide (m.M>1000))))
def JB(n:Nat)(l:List U5):Bool:=YY (Xcy n l) (λs _=>s) () 0 l
def XZ(w:WE):Bool:=X5 w.c&&(Yn w.l&&(X8 w.g.e&&(X8 w.v.e&&(!decide ((w.m.length:Int)>64)&&(w.T.all (Zs w.T.length)&&(((Xp w.g.e).all λp=>!(p==0))&&(JB w.T.length w.m&&(XU w.T.length w.R&&(XU w.T.length (XC w.l.S)&&(XU w.T.length (Xp w.g.e)&&XU w.T.length (Xp w.v.e)))))))))))
section
variable {N:Nat}{w:WE}
def Ve(ht:w.T.length<=1000){l:List Int}(g:l.length<=1000000)(hN:1000000<N):Qc1 N w l=some (XU w.T.length l):=by
 have h:=Kr (l:=l) (F:=Qc0 N w l) (q:=λ_ p=>!decide (p>(w.T.length:Int))) (λn k p e=>by
  have f:=Xq e
  rw[Qc0,Xm f,Wc,Xc,e,Xa,Xg aa,Xz aa aa]
  cases decide (p>(w.T.length:Int))<;>rfl) (λn=>by rw[Qc0,Xv,Wa]) (n:=N) aa
 rw[Zl]at h;rw[Qc1,h,Xa,XU];cases l.all λp=>!decide (p>(w.T.length:Int))
 .rw[Wa,Xs]
 simp[Wc,Xo]
def XdL{x:UO}(e:x.D.length<=1000000):∀(n k:Nat) (v:List Int),k<=x.D.length->x.D.length-k<n->v.length<=k->QdX N x n (k:Int) v=some (v++Zi x.H k (x.D.drop k))
 |0,k,v,_,f,_=>by omega
 |n+1,k,v,j,f,g=>by
  rw[QdX];by_cases h:k<x.D.length
  .rw[Xm h,Wc,JI,Xa,Xg aa,Wm h,Zi];cases hp:ZP x.H (k:Int)
   .rw[Wa,Wg ab,XdL e n (k+1) v aa aa aa]
   rw[Wc,Wj rfl,Xc,Wb h,Xa,Xe aa,XdL e n (k+1) _ aa aa (by simp_all)];simp
  obtain rfl:k=x.D.length:=aa;simp[Zi]
def XdM{x:UO}(e:x.D.length<=1000000)(hN:1000000<N):Qf7 N x=some (K5 x):=by have h:=XdL (N:=N) (x:=x) e N 0 [] aa aa ab;rw[show((0:Nat):Int)=0 from rfl,WL,Um]at h;rw[Qf7,h,Xa];rfl
def Xjx(id:Int)(e:w.m.length<=1000000):∀(n k:Nat),k<=w.m.length->w.m.length-k<n->Qex N w id n (k:Int)=some (match (w.m.drop k).findIdx? (λm=>m.I==id)with|some j=>.ret ((k+j:Nat):Int)|none=>.nxt ())
 |0,k,_,f=>by omega
 |n+1,k,g,f=>by
  rw[Qex];by_cases h:k<w.m.length
  .rw[Xm h,Wc,Xc,Wb h,Xa,Xg aa,Wm h,IY];cases l:(w.m[k].I==id)
   .rw[Wa,Xjx id e n (k+1) aa aa,Wg ab];cases (w.m.drop (k+1)).findIdx? (λm=>m.I==id)with
    |none=>rfl
    |some j=>simp only[Im];rw[show k+1+j=k+(j+1) by omega]
   simp
  grind
def Xby(e:w.m.length<=1000000)(hN:1000000<N)(id:Int):Qfn N w id=some (Ze w.m id):=by
 have h:=Xjx (N:=N) id e N 0 aa aa;rw[show((0:Nat):Int)=0 from rfl,WL]at h;rw[Qfn,h,Xa,Ze];cases w.m.findIdx? (λm=>m.I==id)with
 |none=>simp[Xo]
 |some j=>simp[Xs,Ue]
def Xbz{a:WD}(h:Yn a=true):(XC a.S).length<=4096:=by have e:=Ys.1 h;have:=e.slots;have:=e.iss;have:=Xb7 a.S;omega
def KT{l:List Ul}(h:X8 l=true):(Xp l).length<=64:=by have:=KS h;have:=Xax l;omega
def XaC{k:Nat}(hw:WB k w)(hN:1000000<N):Qed N w=some (XZ w):=by
 have f:=hw.kk;have ht:=hw.things;have A:=hw.marks;have B:=hw.roots;rw[Qed,YQ,Xa,XZ];cases X5 w.c
 .rfl
 rw[Wl,Wa,Kc hw.loc hN,Xa,WI];cases h:Yn w.l
 .rfl
 rw[Wl,Wa,ZF hw.glo hN,Xa,WI];cases j:X8 w.g.e
 .rfl
 rw[Wl,Wa,ZF hw.wea hN,Xa,WI];cases o:X8 w.v.e
 .rfl
 rw[Wl,Wa,WI];cases decide ((w.m.length:Int)>64);rotate_left
 .rfl
 rw[Wa,WY,WI];have r:=Kr (l:=w.T) (F:=Qdp N w) (q:=λ_=>Zs w.T.length) (λn k p e=>by
  have f:=Xq e
  have t:=hw.fields p (WW e)
  have u:=Xb9 p.H 0 p.D
  rw[Qdp,Xm f,Wc,Xc,e,Xa,ZV,Xa,XdM aa hN,Xa,Ve aa (by unfold K5;omega) hN,Xa,Xg aa]
  unfold Zs
  grind) (λn=>by rw[Qdp,Xv,Wa]) (n:=N) aa
 rw[Zl]at r;rw[r,Xa];cases w.T.all (Zs w.T.length)
 .simp[Wa,Xs]
 rw[Wc,Xo,Yk hw.glo hN,Xa,j,Wc,WI];have y:=KT j;have s:=Kr (l:=Xp w.g.e) (F:=Qdq N w (Xp w.g.e)) (q:=λ_ p=>!(p==0)) (λn k p e=>by
  have f:=Xq e
  rw[Qdq,Xe aa,Xm f,Wc,Xc,e,Xa,Xg aa]
  simp) (λn=>by rw[Qdq,Xe aa,Xv,Wa]) (n:=N) aa
 rw[Zl]at s;rw[s,Xa];cases (Xp w.g.e).all λp=>!(p==0)
 .simp[Wa,Xs]
 rw[Wc,Xo,WI];have z:=Kr (l:=w.m) (F:=Qdr N w (Xp w.g.e)) (q:=Xcy w.T.length w.m ()) (λn k p e=>by
  have f:=Xq e
  rw[Qdr,Xm f,Wc,Xc,e,Xa,Xby aa hN,Xa,Xg aa,Xz aa aa]
  unfold Xcy
  grind) (λn=>by rw[Qdr,Xv,Wa]) (n:=N) aa
 rw[z,Xa];show exK (bif JB w.T.length w.m then Ex.nxt ()else Ex.ret false) _ _=_;cases JB w.T.length w.m
 .simp[Wa,Xs]
 rw[Wc,Xo,Ve aa aa hN,Xa,WI];cases XU w.T.length w.R
 .rfl
 have E:=Xbz h;rw[Wc,Zw hw.loc hN,Xa,h,Wc,Ve aa aa hN,Xa,WI];cases XU w.T.length (XC w.l.S)
 .rfl
 rw[Wc,Ve aa aa hN,Xa,WI];cases XU w.T.length (Xp w.g.e)
 .rfl
 have s3:=KT o;rw[Wc,Yk hw.wea hN,Xa,o,Wc,Ve aa aa hN,Xa,WI]
end
def X6(v:Int):IZ×Int:=
 if v=0 then(⟨0,0,0⟩,5)else if 1<=v % 4/\1<=v / 262144/\v / 262144<=4294967295 then(⟨v % 4,v / 4 % 65536,v / 262144⟩,0)else(⟨0,0,0⟩,6)
def VA{N:Nat}{v:Int}(g:tU v):Qcu N v=some (X6 v):=by
 have⟨f,j⟩:=g;rw[Qcu,X6];by_cases l:v=0
 .simp_all
 rw[show(v==0)=false by simp_all,Wa,Wg l];have o:ZI .u64 v 3=v % 4:=ZT v 2 aa f j;have p:Y5 .u64 v 2=v / 4:=ZN v 2 aa f;have q:ZI .u64 (v / 4) 65535=v / 4 % 65536:=ZT (v / 4) 16 aa aa aa;have r:Y5 .u64 v 18=v / 262144:=ZN v 18 aa f;rw[p,o,q,r,Xf (n:=v % 4) aa aa,Xf (n:=v / 4 % 65536) aa aa,Xf (n:=v / 262144) aa aa,Qb6,QgY];have s:∀x:Int,JT .u64 x 2=wU (x*4):=λ_=>rfl;have t:∀x:Int,JT .u64 x 18=wU (x*262144):=λ_=>rfl;rw[Wi (show v / 4 % 65536>=0 by omega),Wi (show v / 4 % 65536<=65535 by omega),Wi (show v % 4<=3 by omega)];simp only[Wc];by_cases g1:v % 4>=1
 .rw[Wi g1,Wc];by_cases g2:v / 262144>=1
  .rw[Wi g2,Wc,Xa];by_cases g3:v / 262144<=4294967295
   .rw[Wi g3,Wl,Wa,Xa,Wj ⟨g1,g2,g3⟩];have e:wU (wU (wU (v % 4)+JT .u64 (wU (v / 4 % 65536)) 2)+JT .u64 (wU (v / 262144)) 18)=v:=by rw[s,t,Xz (n:=v % 4) aa aa,Xz (n:=v / 4 % 65536) aa aa,Xz (n:=v / 262144) aa aa,Xz (n:=v / 4 % 65536*4) aa aa,Xz (n:=v / 262144*262144) aa aa,Xz (n:=v % 4+v / 4 % 65536*4) aa aa,Xz aa aa];omega
    simp_all
   rw[Wh g3,WY,Wc,Xa,Wg (λh=>g3 h.2.2)];rfl
  rw[Wh g2,Wa,Xa,WY,Wc,Xa,Wg (λh=>g2 h.2.1)];rfl
 rw[Wh g1,Wa,Xa,WY,Wc,Xa,Wg (λh=>g1 h.1)];rfl
def Y0(w:WE)(v:Int):Int×Int:=
 if v=0 then(0,0)else if(X6 v).2≠0 then(0,(X6 v).2)else
 if(X6 v).1.Tag=1 then Yx w.l (X6 v).1.Index (X6 v).1.J else
 if(X6 v).1.Tag=2 then Yw w.g.e (X6 v).1.Index (X6 v).1.J else Yw w.v.e (X6 v).1.Index (X6 v).1.J
def Xx(w:WE)(a:Int):Int×Int:=if(Y0 w a).2=0/\(Y0 w a).1=0 then(0,5)else Y0 w a
structure WF(w:WE):Prop where
 conf:X5 w.c=true
 loc:Yn w.l=true
 glo:X8 w.g.e=true
 wea:X8 w.v.e=true
 m64:w.m.length<=64
 thing:∀x∈w.T,XM x.H=true/\x.H.k≠0/\(x.D.length:Int)=x.H.n/\∀r∈K5 x,r<=w.T.length
 mark:JB w.T.length w.m=true
 roots:∀r∈w.R,r<=w.T.length
 rloc:∀r∈XC w.l.S,r<=w.T.length
 rglo:∀r∈Xp w.g.e,r<=w.T.length
 rwea:∀r∈Xp w.v.e,r<=w.T.length
def YS{n:Nat}{l:List Int}:XU n l=true↔∀r∈l,r<=n:=by unfold XU;simp
def Kj{w:WE}(h:XZ w=true):WF w:=by unfold XZ at h;simp only[Wr,UE,UR]at h;have⟨j,l,o,p,u,q,y,r,s,e,f,g⟩:=h;refine⟨j,l,o,p,aa,λx t=>?_,r,YS.1 s,YS.1 e,YS.1 f,YS.1 g⟩;have:=(WP.1 q) x t;unfold Zs at this;simp at this;exact⟨this.1,this.2.1,this.2.2.1,YS.1 this.2.2.2⟩
def WF.mk_{w:WE}(h:WF w){k:Nat}{m:U5}(e:w.m[k]? = some m):1<=m.I/\m.I<=w.T.length/\1<=m.M/\m.M<=1000:=by have:=(YK w.m () 0).1 h.mark k m e;unfold Xcy at this;simp_all
def XkJ{l:List UW}{p:UW}(hp:p∈l)(e:p.V=true):p.a∈XC l:=by unfold XC;grind
def XkK{l:List Ul}{p:Ul}(hp:p∈l)(e:p.V=true):p.a∈Xp l:=by unfold Xp;grind
def Xiq(a:WD)(i g:Int):(Yx a i g).2=0\/(Yx a i g).1=0:=by
 unfold Yx;split
 .exact .inr rfl
 split
 .exact .inr rfl
 split
 .exact .inr rfl
 split
 .exact .inr rfl
 split
 .exact .inr rfl
 split
 .exact .inr rfl
 split
 .exact .inl rfl
 omega
def Xir(l:List Ul)(i g:Int):(Yw l i g).2=0\/(Yw l i g).1=0:=by unfold Yw;grind
def Xpu{w:WE}(h:WF w)(v:Int):(Y0 w v).1<=w.T.length:=by
 have g:∀i g,(Yx w.l i g).1<=w.T.length:=by
  intro i g;by_cases f:(Yx w.l i g).2=0
  .have⟨_,_,p,hp,_,j,e⟩:=Xay f;rw[e];exact h.rloc _ (XkJ (WW hp) j)
  have:=(Xiq w.l i g).resolve_left f;omega
 have t:∀(t:W4),(∀r∈Xp t.e,r<=w.T.length)->∀i g,(Yw t.e i g).1<=w.T.length:=by
  intro t ht i g;by_cases f:(Yw t.e i g).2=0
  .have⟨_,_,p,hp,_,j,e⟩:=Vd f;rw[e];exact ht _ (XkK (WW hp) j)
  have:=(Xir t.e i g).resolve_left f;omega
 unfold Y0;split
 .simp
 split
 .simp
 split
 .simp_all
 split
 .exact t _ h.rglo _ _
 exact t _ h.rwea _ _
section
variable {N:Nat}{w:WE}{k:Nat}
def KG(hw:WB k w)(hN:1000000<N)(h:XZ w=true){v:Int}(j:tU v):Qaz N w v=some (Y0 w v):=by
 rw[Qaz,XaC hw hN,Xa,h,Wl,Wa,Y0];by_cases e:v=0
 .rw[Wj e,e];rfl
 rw[Wg e,show(v==0)=false by simpa using e,Wa,VA j,Xa];by_cases l:(X6 v).2=0
 .rw[l,show((0:Int) != 0)=false from rfl,Wa,Wg ab];by_cases f:(X6 v).1.Tag=1
  .rw[Wj f,f,show((1:Int)==1)=true from rfl,Wc,XcQ hw.loc hN,Xa]
  rw[Wg f,show((X6 v).1.Tag==1)=false by simpa using f,Wa];by_cases g:(X6 v).1.Tag=2
  .rw[Wj g,g,show((2:Int)==2)=true from rfl,Wc,Vx hw.glo hN,Xa]
  rw[Wg g,show((X6 v).1.Tag==2)=false by simpa using g,Wa,Vx hw.wea hN,Xa]
 grind
def XbA(hw:WB k w)(hN:1000000<N)(e:XZ w=true){v:Int}(f:tU v):Qeh N w v=some (Xx w v):=by rw[Qeh,KG hw hN e f,Xa,Xx];grind
end
def zTh:UO:=⟨⟨0,0,0⟩,[]⟩
def thg(w:WE)(id:Int):UO:=w.T.getD (id-1).toNat zTh
def YT(a:WD)(id:Int):Int:=if id=0 then 0 else(Yh a id).2.2.2
def okW(op a b:Int):Prop:=a<=2147483647/\(op=1->b<=4294967295)
instance(op a b:Int):Decidable (okW op a b):=by unfold okW;infer_instance
def hdW(op a b:Int):WH:=⟨op,a,if op=1 then b else 0⟩
def XbB(c:Uj)(d:WH):Bool:=XM d&&(d.k != 0&&XI c (Xy d) != -1)
def JC(w:WE)(op a b:Int)(failed:Bool):Int:=
 if w.m.length>0 then 15 else if¬okW op a b then 1 else if XbB w.c (hdW op a b)=false then 1 else
 if YT w.l 1≠0 then YT w.l 1 else if failed then 3 else 0
def Kk(op:Int):Bool:=op==8||op==9
def KM(w:WE)(op a b c:Int):Int:=
 if(Xx w a).2≠0 then(Xx w a).2 else if b>=(thg w (Xx w a).1).H.n then 2 else
 if ZP (thg w (Xx w a).1).H b≠Kk op then 4 else
 if op=8 then YT w.l ((thg w (Xx w a).1).D.getD b.toNat 0)else if op=9 then(Y0 w c).2 else 0
def JD(w:WE)(op a:Int):Int:=
 if a=0 then 5 else if(Y0 w a).2≠0 then(Y0 w a).2 else
 if(X6 a).1.Tag≠(if op=16 then 3 else if op=14 then 2 else 1)then 4 else 0
def Xca(w:WE)(op a:Int):Int:=
 if(Xx w a).2≠0 then(Xx w a).2 else(YF (if op=15 then w.v else w.g) (Xx w a).1).2.2.2
def XaD(w:WE)(op a:Int):Int:=
 if op=17 then(if a>64 then 1 else(Y6 w.l a).2)else
 if(Y0 w a).2≠0 then(Y0 w a).2 else if(Yt w.l).2≠0 then(Yt w.l).2 else YT (Yt w.l).1 (Y0 w a).1
def Vf(l:List U5)(i:Int):U5:=l.getD i.toNat ⟨0,0,0⟩
def XbC(w:WE)(op a:Int)(failed:Bool):Int:=
 if(Xx w a).2≠0 then(Xx w a).2 else
 if op=20 then(if Ze w.m (Xx w a).1<0 then 12 else 0)else
 if 0<=Ze w.m (Xx w a).1/\(Vf w.m (Ze w.m (Xx w a).1)).M=1000 then 18 else
 if Ze w.m (Xx w a).1<0/\w.m.length=64 then 18 else if failed then 18 else 0
def JP(w:WE)(op a b:Int):Int:=
 if op=4\/op=5 then(Xx w a).2 else if(Y0 w a).2≠0 then(Y0 w a).2 else
 if op=10 then(Y0 w b).2 else YT w.l (Y0 w a).1
def YA(w:WE)(op a b c:Int)(failed:Bool):Int:=
 if XZ w=false then 19 else
 if op=1\/op=2\/op=3 then JC w op a b failed else
 if op=6\/op=7\/op=8\/op=9 then KM w op a b c else
 if op=12\/op=14\/op=16 then JD w op a else
 if op=13\/op=15 then Xca w op a else
 if op=17\/op=18 then XaD w op a else
 if op=19\/op=20 then XbC w op a failed else
 if op=4\/op=5\/op=10\/op=11 then JP w op a b else 1
def Xh{a b:Int}(h:¬a=b):(a==b)=false:=by simp_all
def Xl{a b:Int}(h:a=b):(a==b)=true:=by simp_all
def ZX{a b:Int}(h:a=b):(a != b)=false:=by simp_all
def Xn{a b:Int}(h:¬a=b):(a != b)=true:=by simp_all
section
variable {N:Nat}{w:WE}{k:Nat}
def Xpv(hw:WB k w)(f:XZ w=true)(tw:XE w){v:Int}(e:tU v):tU (Y0 w v).1:=by have:=Qfo (N:=1000001) tw e;exact this _ (KG (N:=1000001) hw aa f e)
def XeT(hw:WB k w)(e:XZ w=true)(tw:XE w){v:Int}(f:tU v)(h:(Xx w v).2=0):1<=(Xx w v).1/\(Xx w v).1<=w.T.length/\Xx w v=Y0 w v:=by
 have g:=Xpv hw e tw f;have l:=Xpu (Kj e) v;unfold Xx at h⊢;by_cases j:(Y0 w v).2=0/\(Y0 w v).1=0
 .simp_all
 rw[Wg j]at h⊢;unfold tU at g;grind
def Ks(hw:WB k w){id:Int}(g:1<=id)(h:id<=w.T.length):Xd w.T (wU (id-1))=some (thg w id)/\thg w id∈w.T:=by
 have j:=hw.kk;have ht:=hw.things;have e:=Wb (show(id-1).toNat<w.T.length by omega);have f:thg w id=w.T[(id-1).toNat]'aa:=by unfold thg;rw[We,e];rfl
 rw[Xz aa aa,X7 aa aa,f];simp
def VB(e:LBp w.l)(hN:1000000<N)(id:Int):QcV N w.l id=some (YT w.l id):=by
 rw[QcV,YT];by_cases h:id=0
 .rw[Wj h,h];rfl
 simp[Wg,h,Xh,Wa,Vy,e,hN,Xa]
def Xhf{a:WD}(e:LBp a)(hN:1000000<N)(id:Int):QcV N a id=some (YT a id):=VB (w:=⟨⟨0,0⟩,[],a,zT,zT,[],[]⟩) e hN id
def XdN(op:Int){a b:Int}(ta:tU a)(tb:tU b):∃d,Qcg N op a b=some (d,decide (okW op a b))/\(okW op a b->d=hdW op a b):=by
 unfold tU at ta tb;have f:a<=2147483647->wI (ZI .u64 a 2147483647)=a:=λh=>by have:ZI .u64 a 2147483647=a % 2147483648:=ZT a 31 aa ta.1 ta.2;rw[this,Xf aa aa];omega
 rw[Qcg];by_cases g:op=1
 .rw[Xl g,Wc];by_cases j:a<=2147483647
  .rw[Wi j,Wc];refine⟨⟨op,wI (ZI .u64 a 2147483647),wW b⟩,?_,λh=>?_⟩
   .exact congrArg (λx=>some (_,x)) (decide_eq_decide.2 ⟨λh=>⟨j,λ_=>h⟩,λh=>h.2 g⟩)
   rw[f j,XqC aa (by have:=h.2 g;omega),hdW,Wj g]
  rw[Wh j,Wa];refine⟨⟨op,wI (ZI .u64 a 2147483647),wW b⟩,?_,λh=>absurd h.1 j⟩;rw[Wh (show¬okW op a b fromλh=>j h.1)]
 rw[Xh g,Wa];refine⟨⟨op,wI (ZI .u64 a 2147483647),0⟩,?_,λh=>?_⟩
 .exact congrArg (λx=>some (_,x)) (decide_eq_decide.2 ⟨λh=>⟨h,λe=>absurd e g⟩,λh=>h.1⟩)
 rw[f h.1,hdW,Wg g]
def Xjy(hN:10<=N)(c:Uj)(d:WH):Qc3 N c d=some (XbB c d):=by rw[Qc3,ZV,Xa,XbB,Yr,Xa,Jb hN,Xa];grind
def Xis(hw:WB k w)(hN:1000000<N)(op:Int){a b:Int}(ta:tU a)(tb:tU b)(f:Bool):Qfr N w op a b f=some (JC w op a b f):=by
 have⟨d,hd,g⟩:=XdN (N:=N) op ta tb;rw[Qfr,JC];by_cases j:w.m.length>0
 .rw[Wi (show(w.m.length:Int)>0 by omega),Wc,Wj j]
 rw[Wh (show¬(w.m.length:Int)>0 by omega),Wa,Wg j,hd,Xa];by_cases h:okW op a b
 .rw[Wi h,Wl,Wa,Wg (by simpa using h),Xjy aa,Xa,g h];cases o:XbB w.c (hdW op a b)
  .rfl
  rw[Wl,Wa,Wg ab,VB hw.loc hN,Xa];by_cases e:YT w.l 1=0
  .rw[ZX e,Wa,Wg (by simpa using e)];cases f<;>rfl
  rw[Xn e,Wc,Wj e]
 simp_all
def XkL(hw:WB k w)(hN:1000000<N)(e:XZ w=true)(tw:XE w)(op:Int){a b c:Int}(ta:tU a)(tb:tU b)(tc:tU c):QfV N w op a b c=some (KM w op a b c):=by
 rw[QfV,XbA hw hN e ta,Xa,KM];by_cases g:(Xx w a).2=0;rotate_left
 .grind
 have⟨i1,i2,_⟩:=XeT hw e tw ta g;have⟨g1,g2⟩:=Ks hw i1 i2;have⟨q,z,A,B⟩:=(Kj e).thing _ g2;have E:=XO q;unfold tU at tb;rw[ZX g,Wa,Wg aa,g1,Xa,Xz (n:=(thg w (Xx w a).1).H.n) aa aa];by_cases h:b>=(thg w (Xx w a).1).H.n
 .simp_all
 rw[Wh h,Wa,Wg h,Xf (n:=b) aa aa];have key:∀x:Bool,x=Kk op->(bnd (QbK N (thg w (Xx w a).1).H b) λr=>
  bif (!(r==x))then some 4
  else bif (op==8)then(bnd (Xd (thg w (Xx w a).1).D b) λs=>
   bnd (QcV N w.l s) λt=>
   some t)
  else bif (op==9)then(bnd (Qaz N w c) λu=>
   some u.2)
  else some (Xx w a).2)=some (if ZP (thg w (Xx w a).1).H b≠Kk op then 4 else
 if op=8 then YT w.l ((thg w (Xx w a).1).D.getD b.toNat 0)else if op=9 then(Y0 w c).2 else 0):=by
  intro x y
  subst y
  rw[JI,Xa]
  by_cases j:ZP (thg w (Xx w a).1).H b=Kk op
  .rw[show(ZP (thg w (Xx w a).1).H b==Kk op)=true by simpa using j,Wl,Wa,Wg (by simpa using j)]
   by_cases f:op=8
   .rw[Xl f,Wc,Wj f,X7 aa aa,Xa,VB hw.loc hN,Xa,We,Wb aa];rfl
   rw[Xh f,Wa,Wg f]
   by_cases o:op=9
   .rw[Xl o,Wc,Wj o,KG hw hN e tc,Xa]
   grind
  .grind
 rw[Xr];cases p:(op==8)
 .have:=key (op==9) (by unfold Kk;rw[p,U1]);grind
 have:=key true (by unfold Kk;rw[p,I7]);simp_all
def Xit(hw:WB k w)(hN:1000000<N)(g:XZ w=true)(op:Int){a:Int}(ta:tU a):Qfs N w op a=some (JD w op a):=by
 rw[Qfs,JD];by_cases e:a=0
 .rw[Xl e,Wc,Wj e]
 rw[Xh e,Wa,Wg e,KG hw hN g ta,Xa];by_cases f:(Y0 w a).2=0;rotate_left
 .rw[Xn f,Wc,Wj f]
 rw[ZX f,Wa,Wg (by simpa using f),VA ta,Xa,Xr];grind
def XmP(hw:WB k w)(hN:1000000<N)(g:XZ w=true)(op:Int){a:Int}(ta:tU a):Qgo N w op a=some (Xca w op a):=by
 rw[Qgo,XbA hw hN g ta,Xa,Xca];by_cases e:(Xx w a).2=0;rotate_left
 .rw[Xn e,Wc,Wj e]
 rw[ZX e,Wa,Wg (by simpa using e),Xr];by_cases f:op=15
 .rw[Wj f,Xl f,Wc];show bnd (QcN N w.v (Xx w a).1) _=_;rw[KL hw.wea hN,Xa]
 simp[Wg,f,Xh,Wa,KL,hw.glo,hN,Xa]
def XkM(hw:WB k w)(hN:1000000<N)(g:XZ w=true)(op:Int){a:Int}(ta:tU a):QfW N w op a=some (XaD w op a):=by
 rw[QfW,XaD];by_cases e:op=17
 .rw[Xl e,Wc,Wj e];by_cases f:a>64
  .simp_all
  unfold tU at ta;rw[Wh f,Wa,Wg f,Xf (n:=a) aa aa,V6 hw.loc hN,Xa]
 rw[Xh e,Wa,Wg e,KG hw hN g ta,Xa];by_cases f:(Y0 w a).2=0;rotate_left
 .grind
 rw[ZX f,Wa,Wg aa,Xbw hw.loc hN,Xa];by_cases h:(Yt w.l).2=0;rotate_left
 .grind
 rw[ZX h,Wa,Wg aa,Xhf (XfQ hw.loc) hN,Xa]
def Xcb{l:List U5}{id:Int}(h:0<=Ze l id):Ze l id<l.length/\Xd l (Ze l id)=some (Vf l (Ze l id))/\(Vf l (Ze l id)).I=id:=by
 unfold Ze at h⊢;cases e:l.findIdx? (λm=>m.I==id)with
 |none=>simp_all
 |some j=>have f:=U0.1 e;have⟨g,hp,_⟩:=f;simp_all[Xc,Vf,We,IS,Wb,g]
def XkN(hw:WB k w)(hN:1000000<N)(o:XZ w=true)(op:Int){a:Int}(ta:tU a)(f:Bool):QgI N w op a f=some (XbC w op a f):=by
 have q:=hw.marks;rw[QgI,XbA hw hN o ta,Xa,XbC];by_cases g:(Xx w a).2=0;rotate_left
 .rw[Xn g,Wc,Wj g]
 rw[ZX g,Wa,Wg (by simpa using g),Xby aa hN,Xa];by_cases j:op=20
 .rw[Xl j,Wc,Wj j];by_cases e:Ze w.m (Xx w a).1<0
  .rw[Wi e,Wc,Wj e]
  rw[Wh e,Wa,Wg e]
 rw[Xh j,Wa,Wg j];by_cases e:0<=Ze w.m (Xx w a).1
 .have⟨r,p,s⟩:=Xcb e;rw[Wi (show Ze w.m (Xx w a).1>=0 from e),Wc,p,Xa,Wh (show¬Ze w.m (Xx w a).1<0 by omega),Wa];rw[Wg (show¬(Ze w.m (Xx w a).1<0/\w.m.length=64) by omega)];by_cases l:(Vf w.m (Ze w.m (Xx w a).1)).M=1000
  .rw[Xl l,Wc,Wj ⟨e,l⟩]
  rw[Xh l,Wa,Wg (λh=>l h.2)];cases f<;>rfl
 grind
def XmQ(hw:WB k w)(hN:1000000<N)(g:XZ w=true)(op:Int){a b:Int}(ta:tU a)(tb:tU b):Qgp N w op a b=some (JP w op a b):=by
 rw[Qgp,JP,Xr,XbA hw hN g ta,Xa];by_cases h:op=4
 .rw[Xl h,Wc,Wj (.inl h)]
 rw[Xh h,Wa];by_cases j:op=5
 .rw[Xl j,Wc,Wj (.inr j)]
 rw[Xh j,Wa,Wg aa,KG hw hN g ta,Xa];by_cases f:(Y0 w a).2=0;rotate_left
 .rw[Xn f,Wc,Wj f]
 rw[ZX f,Wa,Wg (by simpa using f)];by_cases e:op=10
 .rw[Xl e,Wc,Wj e,KG hw hN g tb,Xa]
 simp[Xh,e,Wa,Wg,VB,hw.loc,hN,Xa]
end
def XqG{β:Type}(K:Bool->β)(c1 e:Bool):(jn K λj=>bif c1 then j true else j e)=K (c1||e):=by grind[Xr]
def b2(op a b:Int):(op==a||op==b)=decide (op=a\/op=b):=by grind
def bd(op a:Int)(p:Prop)[Decidable p]:(op==a||decide p)=decide (op=a\/p):=by grind
def XsF{β:Type}{p:Prop}[Decidable p](x y:β):(bif decide p then x else y)=if p then x else y:=by simp
def Xpw{β:Type}(o:Option β):(bnd o λy=>some y)=o:=by
 cases o
 .exact V4 _
 exact Xa _ _
def Xpx{β:Type}{p:Prop}[Decidable p](x y:β):(if p then some x else some y)=some (if p then x else y):=by grind
section
variable {N:Nat}{w:WE}{k:Nat}
def XmR(hw:WB k w)(hN:1000000<N)(tw:XE w)(op:Int){a b c:Int}(ta:tU a)(tb:tU b)(tc:tU c)(f:Bool):Qey N w op a b c f=some (YA w op a b c f):=by
 rw[Qey,XaC hw hN,Xa,YA];cases e:XZ w
 .rfl
 rw[Wl,Wa,Wg ab];simp only[XqG,Xpw,Xis hw hN op ta tb f,XkL hw hN e tw op ta tb tc,Xit hw hN e op ta,XmP hw hN e op ta,XkM hw hN e op ta,XkN hw hN e op ta f,XmQ hw hN e op ta tb,b2,bd,XsF,Xpx]
end
def Vg(d:WH):∀(k:Nat) (l:List Int),∀r∈Zi d k l,r∈l
 |k,[],r,h=>by assumption
 |k,f::e,r,h=>by
  unfold Zi at h;split at h
  .rcases Us.1 h with h|h
   .simp_all
   exact WC _ (Vg d (k+1) e r h)
  exact WC _ (Vg d (k+1) e r h)
def zWo:WE:=⟨⟨0,0⟩,[],zL,zT,zT,[],[]⟩
def XmS{k:Nat}(e:k<=900):WB k zWo:=⟨e,by simp[zWo],λx f=>by simp_all[zWo],Ka,by simp[zWo,zT],by simp[zWo,zT],by simp[zWo],by simp[zWo]⟩
section
variable {N:Nat}{w:WE}{k:Nat}
def XdO(o:w.m.length<=1000):∀(n:Nat) (i:Int) (v:List Int),0<=i->i<=w.m.length->(w.m.length-i).toNat<n->v.length<=100000+i->(∀x∈v,0<=x/\x<=w.T.length)->(∀m∈w.m,0<=m.I/\m.I<=w.T.length)->Ok (Qc2 N w n i v) λr=>r.length<=v.length+(w.m.length-i)/\∀x∈r,0<=x/\x<=w.T.length
 |0,i,v,_,_,q,_,_,_=>by omega
 |n+1,i,v,s,u,q,y,l,e=>by
  refine Wo (λf=>?_) λf=>Wd ⟨aa,l⟩;have f:i<w.m.length:=WA f;rw[Xf (n:=i+1) aa aa];refine Ok.get s f λp hp=>Uk aa ?_;have g:=YI hp;refine(XdO o n (i+1) _ aa aa aa ah (λx j=>?_) e).mono λr t=>⟨?_,t.2⟩
  .rcases Ws.1 j with h|h
   .exact l x h
   rw[WM.1 h];exact e p g
  grind
def Xiu(hN:NB N)(hw:WB k w)(l:XZ w=true)(tw:XE w):Ok (Qe7 N w) λr=>r.length<=10000/\∀x∈r,0<=x/\x<=w.T.length:=by
 have f:=hN;unfold NB at f;have y:=hw.roots;have o:=hw.marks;have wf:=Kj l;have⟨z,q,s,A,B,t⟩:=tw;have D:=Xbz wf.loc;have E:=KT wf.glo;refine Uk aa ?_;rw[Zw hw.loc aa,Xa,wf.loc,Wc];refine Uk aa ?_;rw[Yk hw.glo aa,Xa,wf.glo,Wc];refine Uk aa (WQ (XdO o N 0 _ aa aa aa ah (λx j=>?_) λm g=>?_) λr _ h=>Wd ⟨?_,h.2⟩)
 .simp only[Ws]at j;rcases j with(h|h)|h
  .exact⟨(t x h).1,wf.roots x h⟩
  .refine⟨?_,wf.rloc x h⟩;obtain⟨p,hp,rfl⟩:=WG.1 h;exact(q p (W6.1 hp).1).1
  refine⟨?_,wf.rglo x h⟩;obtain⟨p,hp,rfl⟩:=WG.1 h;exact(s p (W6.1 hp).1).1
 .have⟨i,u,e⟩:=Wv g;have:=wf.mk_ (k:=i) (m:=m) (by rw[Wb u,e]);omega
 grind
def XbD(hN:NB N)(hw:WB k w)(g:XZ w=true)(tw:XE w)(M:Nat)(l:M<=2000000):∀(n:Nat) (i:Int) (v:List Bool) (q:List Int),0<=i->i<=q.length->(M-i).toNat<n->v.length=w.T.length->(∀x∈q,0<=x/\x<=w.T.length)->q.length+1000*v.countP (λb=>!b)<=M->Ok (Qa7 N w n i v q) λr=>r.length=w.T.length
 |0,i,v,q,_,_,R,_,_,_=>by omega
 |n+1,i,v,q,j,W,R,o,s,J=>by
  have t:=hN;unfold NB at t;have Y:=hw.kk;have ht:=hw.things;refine Uk aa (Wo (λf=>?_) λ_=>Wd o);have f:i<q.length:=WA f;rw[Xf (n:=i+1) aa aa];refine Ok.get j f λp hp=>?_;have same:∀u,Xd q i=some u->u=p:=λu h=>WT (h.symm.trans hp);have S:=s p (YI hp);refine Wo (λ_=>XbD hN hw g tw M l n (i+1) v q aa aa aa o s J) λK=>?_;have K:¬p=0:=by simpa using K
  refine Ok.get j f λL y=>?_;obtain rfl:=same L y;rw[Xz (n:=L-1) aa aa];refine Ok.get aa aa λb hb=>Wo (λ_=>XbD hN hw g tw M l n (i+1) v q aa aa aa o s J) λz=>?_;refine Ok.get j f λO A=>?_;obtain rfl:=same O A;rw[Xz (n:=O-1) aa aa];refine Ok.get aa aa λ_ _=>Ok.get j f λe B=>?_;obtain rfl:=same e B;have⟨g1,g2⟩:=Ks hw (id:=e) aa aa;have Z:=hw.fields _ g2;have⟨v1,v2,v3,U⟩:=(Kj g).thing _ g2;have E:=Xb9 (thg w e).H 0 (thg w e).D;have E:(K5 (thg w e)).length<=1000:=by unfold K5;omega
  rw[g1,Xa,XdM aa aa,Xa];have G:(e-1).toNat<v.length:=aa;have I:v[(e-1).toNat]=false:=by rw[X7 aa aa]at hb;rw[WT hb];exact z
  have hcount:(v.set (e-1).toNat true).countP (λb=>!b)+1<=v.countP (λb=>!b):=by have Q:0<v.countP (λb=>!b):=List.countP_pos_iff.2 ⟨v[(e-1).toNat],Wt _,by simp_all⟩;rw[List.countP_set G,I];simp;omega
  refine Uk aa (XbD hN hw g tw M l n (i+1) _ _ aa (by rw[Wu];omega) aa (by simp_all) (λx V=>?_) (by rw[Wu];omega));rcases Ws.1 V with h|h
  .simp_all
  refine⟨?_,U x h⟩;exact((tw.1 _ g2).2 x (Vg _ _ _ x h)).1
def XdP(hN:NB N)(hw:WB k w)(e:XZ w=true)(tw:XE w):Ok (QdY N w) λr=>r.length=w.T.length:=by have f:=hN;unfold NB at f;have j:=hw.kk;have ht:=hw.things;rw[QdY,XaC hw aa,Xa,e,Wl,Wa];refine Uk aa (WQ (Xiu hN hw e tw) λy _ g=>WQ (XbD hN hw e tw 1100000 aa N 0 _ y aa aa aa (by rw[WO];omega) g.2 ?_) λr _ h=>Wd h);grind[WO]
def XfR(y:List Bool)(h:y.length=w.T.length)(hw:WB k w):∀(n:Nat) (i:Int) (v:List Int),0<=i->i<=v.length->(v.length-i).toNat<n->v.length<=1000->(∀x∈v,0<=x/\x<=w.T.length)->Ok (QaH N w y n i v) λr=>r.length=v.length
 |0,i,v,_,_,q,_,_=>by omega
 |n+1,i,v,f,z,q,j,l=>by
  have A:=hw.kk;have ht:=hw.things;refine Uk aa (Wo (λe=>?_) λ_=>Wd rfl);have e:i<v.length:=WA e;rw[Xf (n:=i+1) aa aa];have next:=XfR y h hw n (i+1) v aa aa aa j l
  refine Ok.get f e λp hp=>Wo (λo=>Ok.get f e λp2 g=>?_) λ_=>next
  obtain rfl:p=p2:=WT (hp.symm.trans g);have s:=l p (YI hp);have o:¬p=0:=by simpa using o
  rw[Xz (n:=p-1) aa aa];refine Ok.get aa aa λ_ _=>Wo (λ_=>Ok.get f e λ_ _=>?_) λ_=>next
  refine(XfR y h hw n (i+1) _ aa (by rw[Ww];omega) (by rw[Ww];omega) (by rw[Ww];exact j) λx t=>?_).mono λr u=>by rw[u,Ww]
  grind
def Xcz(hN:NB N)(hw:WB k w)(tw:XE w):Ok (QbB N w) λr=>WB k r.1:=by
 have f:=hN;unfold NB at f;rw[QbB,XaC hw aa,Xa];refine Wo (λ_=>Wd (XmS hw.kk)) λe=>?_;have e:XZ w=true:=by simpa using e
 have wf:=Kj e;have j:=KT wf.wea;refine WQ (XdP hN hw e tw) λy _ h=>?_;rw[Yk hw.wea aa,Xa,wf.wea,Wc];refine WQ (XfR y h hw N 0 _ aa aa aa aa λx g=>⟨?_,wf.rwea x g⟩) λz _ l=>WQ (XeR hw.wea aa aa) λt _ ht=>Wd ⟨hw.kk,hw.things,hw.fields,hw.loc,hw.gloK,Ii ht hw.weaK,hw.marksK,hw.rootsK⟩;obtain⟨p,hp,rfl⟩:=WG.1 g;exact(tw.2.2.2.1 p (W6.1 hp).1).1
end
def Sf{β κ:Type}{P:β->Prop}{k:κ->Option β}{f:(κ->Option β)->Option β}(Q:κ->Prop)(h:∀x,Q x->Ok (k x) P)(g:∀j:κ->Option β,(∀x,Q x->Ok (j x) P)->Ok (f j) P):Ok (Sx.jn k f) P:=by simp_all[Xr]
section
variable {N:Nat}{w:WE}{k:Nat}
def XaE(hw:WB k w)(hN:1000000<N)(id:Int):Ok (QbF N w id) λr=>WB k r.1:=by refine Uz (Wd hw) ?_;rw[Vy hw.loc hN,Xa];exact UB (Y3 _) λy _=>Wd ⟨hw.kk,hw.things,hw.fields,Xjp hw.loc id,hw.gloK,hw.weaK,hw.marksK,hw.rootsK⟩
def Xjz(hw:WB k w){id i v:Int}(e:1<=id)(f:id<=w.T.length)(g:0<=i)(i1:i<(thg w id).D.length):Ok (Qei N w id i v) λr=>WB k r:=by
 have l:=hw.kk;have ht:=hw.things;have⟨g1,g2⟩:=Ks hw e f;have o:=hw.fields _ g2;rw[Qei,Xe aa,g1,Xa,Xe aa];refine Ok.get g aa λ_ _=>?_;rw[Xa];refine Wd ⟨hw.kk,?_,λx j=>?_,hw.loc,hw.gloK,hw.weaK,hw.marksK,hw.rootsK⟩
 .simp_all
 rcases W7 j with h|h
 .exact hw.fields x h
 simp_all
def Xhg(hw:WB k w)(hN:1000000<N)(op id:Int):Ok (Qdh N w op id) λr=>WB k r.1:=by
 refine IP (Uz ?_ ?_)
 .rw[KL hw.wea hN,Xa];exact UB (Y3 _) λy _=>Wd ⟨hw.kk,hw.things,hw.fields,hw.loc,hw.gloK,Xg7 hw.weaK id,hw.marksK,hw.rootsK⟩
 rw[KL hw.glo hN,Xa];exact UB (Y3 _) λy _=>Wd ⟨hw.kk,hw.things,hw.fields,hw.loc,Xg7 hw.gloK id,hw.weaK,hw.marksK,hw.rootsK⟩
def Xiv(hw:WB k w)(hN:1000000<N)(v:Int):Ok (Qc5 N w v) λr=>WB k r:=by
 refine UB (Xb8 _) λy _=>Uz ?_ (Uz ?_ ?_)
 .rw[XcR hw.loc hN,Xa];exact Wd ⟨hw.kk,hw.things,hw.fields,Xjq hw.loc _ _,hw.gloK,hw.weaK,hw.marksK,hw.rootsK⟩
 .rw[JL hw.glo hN,Xa];exact Wd ⟨hw.kk,hw.things,hw.fields,hw.loc,Xg8 hw.gloK _ _,hw.weaK,hw.marksK,hw.rootsK⟩
 rw[JL hw.wea hN,Xa];exact Wd ⟨hw.kk,hw.things,hw.fields,hw.loc,hw.gloK,Xg8 hw.weaK _ _,hw.marksK,hw.rootsK⟩
def XmT(hw:WB k w)(hN:1000000<N)(o:w.m.length<=64)(op id b:Int)(j:op=20->0<=Ze w.m id):Ok (Qd8 N w op id b) λr=>WB k r.1:=by
 have setM:∀l:List U5,l.length<=100+k->WB k ⟨w.c,w.T,w.l,w.g,w.v,l,w.R⟩:=λl p=>⟨hw.kk,hw.things,hw.fields,hw.loc,hw.gloK,hw.weaK,p,hw.rootsK⟩
 rw[Qd8,Qe8,Xby aa hN,Xa,Xa];refine Uk aa (Wo (λh=>?_) λ_=>Wo (λh=>?_) λh=>Uk aa (Wd (setM _ (by grind))))
 .have h:=j (by simp_all);have⟨f,_,_⟩:=Xcb h;refine Ok.get h f λ_ _=>Ok.get h f λ_ _=>Ok.get h (by simp_all) λ_ _=>Wo (λ_=>?_) λ_=>Wd (setM _ (by grind));have e:=Xf (n:=Ze w.m id+1) aa aa;refine Uk aa (Uk aa (Uk aa (Wd (setM _ ?_))));simp;omega
 have h:0<=Ze w.m id:=WA h;have⟨f,_,_⟩:=Xcb h;exact Ok.get h f λ_ _=>Ok.get h f λ_ _=>Ok.get h (by simp_all) λ_ _=>Wd (setM _ (by grind))
def WB.up(hw:WB k w)(e:k+1<=900):WB (k+1) w:=⟨e,by have:=hw.things;omega,hw.fields,hw.loc,by have:=hw.gloK;omega,by have:=hw.weaK;omega,by have:=hw.marksK;omega,by have:=hw.rootsK;omega⟩
def XmU(hN:NB N)(hw:WB k w)(Q:k+1<=900)(tw:XE w)(op:Int){a b c:Int}(ta:tU a)(tb:tU b)(tc:tU c)(ft:OD):Ok (Qar N w op a b c ft) λr=>WB (k+1) r.1:=by
 have V:=hN;unfold NB at V;have j:1000000<N:=aa;have zero:WB (k+1) zWo:=XmS Q;rw[Qar,XmR hw j tw op ta tb tc,Xa];refine Wo (λ_=>Wd zero) λf=>?_;have f:YA w op a b c ft.Failed=0:=by simpa using f
 have A:XZ w=true:=by
  cases h:XZ w
  .unfold YA at f;rw[h]at f;cases f
  rfl
 have wf:=Kj A;unfold YA at f;rw[A,Wg ab]at f;have thing:(Xx w a).2=0->1<=(Y0 w a).1/\(Y0 w a).1<=w.T.length/\Xx w a=Y0 w a:=λh=>by obtain⟨B,E,U⟩:=XeT hw A tw ta h;rw[U]at B E;exact⟨B,E,U⟩
 refine Sf (λx=>¬(op<=3\/op=17)->x=(Y0 w a).1) (λu hx3=>?_) λj1 s=>?_;rotate_left
 .refine Wo (λhg=>Wo (λG=>?_) λG=>s _ λh=>absurd (Or.inr (by simpa using G)) h) λhg=>s _ λh=>absurd (Or.inl (by have:=W5 hg;omega)) h;rw[KG hw j A ta,Xa];exact s _ λ_=>rfl
 simp only[XqG];refine Wo (λI=>?_) λI=>?_
 ·
  have I:op=1\/op=2\/op=3:=by simpa using I
  rw[Wj I]at f;obtain⟨d,hd,Y⟩:=XdN (N:=N) op ta tb;have z:okW op a b/\XbB w.c (hdW op a b)=true:=by
   unfold JC at f;split at f
   .cases f
   split at f
   .cases f
   rename_i _ Z;split at f
   .cases f
   rename_i h3;exact⟨Classical.not_not.1 Z,by simpa using h3⟩
  have hdd:=Y z.1;have hvd:XM d=true:=by have:=z.2;unfold XbB at this;rw[Wr]at this;rw[hdd];exact this.1
  have hb:=XO hvd;have main:∀w':WE,WB k w'->Ok (α:=WE×Int×Int) (bnd (Qcg N op a b) λt=>
   grd (w'.T.length*48<=140737488355328) <|
   grd (0<=t.1.n/\t.1.n.toNat*8<=140737488355328) <|
   grd ((w'.T.length+1)*48<=140737488355328) <|
   grd ((w'.T.length+1)<=140737488355328) <|
   bnd (QbF N (WE.mk (Uj.mk w'.c.W w'.c.p) (w'.T++[(UO.mk t.1 (List.replicate t.1.n.toNat 0))]) (WD.mk w'.l.S w'.l.x w'.l.i) (W4.mk w'.g.e) (W4.mk w'.v.e) w'.m w'.R) (wU (((w'.T.length+1):Nat):Int))) λJ=>
   some (J.1,J.2,0)) λr=>WB (k+1) r.1:=by
   intro w' q
   have ht:=q.things
   rw[hd,Xa]
   refine Uk aa (Uk (by constructor<;>simp only<;>omega) (Uk aa (Uk aa (UB (XaE (k:=k+1) (w:=⟨w'.c,w'.T++[⟨d,List.replicate d.n.toNat 0⟩],w'.l,w'.g,w'.v,w'.m,w'.R⟩) ⟨Q,?_,λx hx=>?_,q.loc,I8 q.gloK,I8 q.weaK,I8 q.marksK,I8 q.rootsK⟩ j _) λy o=>Wd o))))
   .show(w'.T++[_]).length<=_;rw[Wu];simp;omega
   .rcases Ws.1 hx with h|h
    .exact q.fields x h
    .rw[WM.1 h];show(List.replicate _ _).length<=_;rw[WO];omega
  refine IP (Wo (λ_=>WQ (Xcz hN hw tw) λy _ o=>?_) λ_=>?_)
  .exact main y.1 o
  exact main w hw
 have hn1:¬(op=1\/op=2\/op=3):=by simpa using I
 rw[Wg hn1]at f;have K:∀v e:Int,Ok (α:=WE×Int×Int) (some (w,v,e)) λr=>WB (k+1) r.1:=λv e=>Wd (hw.up Q);have up:∀{w':WE},WB k w'->WB (k+1) w':=λh=>WB.up h Q;have pl:(op=4\/op=5\/op=10\/op=11)->JP w op a b=0:=λh=>by rw[Wg aa,Wg aa,Wg aa,Wg aa,Wg aa,Wj h]at f;exact f
 have len:(op=4\/op=5)->1<=u/\u<=w.T.length:=λh=>by have s:=pl aa;unfold JP at s;rw[Wj h]at s;have:=thing s;rw[hx3 aa];exact⟨this.1,this.2.1⟩
 have fld:(op=6\/op=7\/op=8\/op=9)->(1<=u/\u<=w.T.length)/\b<(thg w u).D.length/\wI b=b:=λh=>by
  rw[Wj h]at f;unfold KM at f;by_cases s:(Xx w a).2=0;rotate_left
  .rw[Wj s]at f;exact absurd f s
  rw[Wg (by simpa using s)]at f;obtain⟨B,E,U⟩:=thing s;have e:u=(Y0 w a).1:=hx3 aa;rw[U,←e]at f;rw[←e]at B E;obtain⟨g1,g2⟩:=Ks hw B E;obtain⟨v1,v2,v3,v4⟩:=wf.thing _ g2;have vb:=XO v1;by_cases Z:b>=(thg w u).H.n
  .rw[Wj Z]at f;cases f
  have:=tb.1;exact⟨⟨B,E⟩,aa,Xf aa aa⟩
 refine Wo (λh4=>?_) λn4=>Wo (λh5=>?_) λn5=>Wo (λh6=>?_) λn6=>Wo (λh7=>?_) λn7=>Wo (λh8=>?_) λn8=>Wo (λh9=>?_) λn9=>Wo (λh10=>?_) λn10=>Wo (λh11=>?_) λn11=>?_
 .have h4:op=4:=by simpa using h4
  have:=len (.inl h4);rw[(Ks hw this.1 this.2).1,Xa];exact K _ _
 .have h5:op=5:=by simpa using h5
  have:=len (.inr h5);rw[(Ks hw this.1 this.2).1,Xa];exact K _ _
 .have h6:op=6:=by simpa using h6
  obtain⟨f1,f2,L⟩:=fld aa;rw[(Ks hw f1.1 f1.2).1,Xa];exact Ok.get tb.1 f2 λ_ _=>K _ _
 .have h7:op=7:=by simpa using h7
  obtain⟨f1,f2,L⟩:=fld aa;rw[L];exact UB (Xjz hw f1.1 f1.2 tb.1 f2) λy o=>Wd (up o)
 .have h8:op=8:=by simpa using h8
  obtain⟨f1,f2,L⟩:=fld aa;rw[(Ks hw f1.1 f1.2).1,Xa];exact Ok.get tb.1 f2 λ_ _=>UB (XaE hw j _) λy o=>Wd (up o)
 .have h9:op=9:=by simpa using h9
  obtain⟨f1,f2,L⟩:=fld aa;rw[KG hw j A tc,Xa,L];exact UB (Xjz hw f1.1 f1.2 tb.1 f2) λy o=>Wd (up o)
 .rw[KG hw j A tb,Xa];exact Uz (K _ _) (K _ _)
 .exact UB (XaE hw j _) λy o=>Wd (up o)
 have n6:¬op=6:=by simpa using n6
 have n7:¬op=7:=by simpa using n7
 have n8:¬op=8:=by simpa using n8
 have n9:¬op=9:=by simpa using n9
 refine Wo (λ_=>UB (Xhg hw j _ _) λy o=>Wd (up o)) λnl=>?_;have nl:¬(op=13\/op=15):=by simpa using nl
 refine Wo (λ_=>UB (Xiv hw j _) λy o=>Wd (up o)) λnr=>?_;have nr:¬(op=12\/op=14\/op=16):=by simpa using nr
 refine Wo (λ_=>?_) λM=>Wo (λ_=>?_) λO=>?_
 .rw[V6 hw.loc j,Xa];exact Wd (up ⟨hw.kk,hw.things,hw.fields,Xg5 hw.loc _,hw.gloK,hw.weaK,hw.marksK,hw.rootsK⟩)
 .rw[Xbw hw.loc j,Xa];exact UB (XaE (w:=⟨w.c,w.T,(Yt w.l).1,w.g,w.v,w.m,w.R⟩) ⟨hw.kk,hw.things,hw.fields,XfQ hw.loc,hw.gloK,hw.weaK,hw.marksK,hw.rootsK⟩ j _) λy o=>Wd (up o)
 have M:¬op=17:=by simpa using M
 have O:¬op=18:=by simpa using O
 rw[Wg aa,Wg aa,Wg aa,Wg aa]at f;refine UB (XmT hw j wf.m64 op u _ λh20=>?_) λy o=>Wd (up o);unfold XbC at f;grind
end
def XjA{α:Type}{l:List α}{F:Nat->Int->Option (Ex Int Unit)}{p:α->Bool}(g:l.length<=1000000)(e:∀(n k:Nat) (x:α),l[k]? = some x->F (n+1) (k:Int)=bif p x then some (.ret (k:Int))else F n ((k+1:Nat):Int))(f:∀n:Nat,F (n+1) (l.length:Int)=some (.nxt ())):∀(n k:Nat),k<=l.length->l.length-k<n->F n (k:Int)=some (match (l.drop k).findIdx? p with|some j=>.ret ((k+j:Nat):Int)|none=>.nxt ())
 |0,k,_,o=>by omega
 |n+1,k,q,o=>by
  by_cases h:k<l.length
  .rw[e n k _ (Wb h),Wm h,IY];cases hp:p l[k]
   .rw[Wa,XjA g e f n (k+1) aa aa,Wg ab];cases (l.drop (k+1)).findIdx? p with
    |none=>rfl
    |some j=>simp only[Im];rw[show k+1+j=k+(j+1) by omega]
   simp
  grind
def Zj{α:Type}(p:α->Bool)(l:List α):Int:=match l.findIdx? p with|some j=>(j:Int)|none=>-1
def JE{α:Type}{l:List α}{F:Nat->Int->Option (Ex Int Unit)}{p:α->Bool}{N:Nat}(o:l.length<=1000000)(hN:1000000<N)(f:∀(n k:Nat) (x:α),l[k]? = some x->F (n+1) (k:Int)=bif p x then some (.ret (k:Int))else F n ((k+1:Nat):Int))(g:∀n:Nat,F (n+1) (l.length:Int)=some (.nxt ())):(bnd (F N 0) λe=>exK e (λr=>some r) λ_=>some (-1))=some (Zj p l):=by
 have h:=XjA o f g N 0 aa aa;rw[show((0:Nat):Int)=0 from rfl,WL]at h;rw[h,Xa,Zj];cases l.findIdx? p with
 |none=>simp[Xo]
 |some j=>simp[Xs,Ue]
def KH{α:Type}(p:α->Bool)(l:List α):decide (Zj p l>=0)=l.any p:=by unfold Zj;grind
section
variable {N:Nat}
def Xpy(e:Ul):Qfw N e=some (!Jz e):=by rw[Qfw];unfold Jz;grind
def XbE{α:Type}(p:α->Bool)(l:List α):(!l.any λx=>!p x)=l.all p:=by grind
def V8{t:W4}(f:TB t)(hN:1000000<N):QdG N t=some (X8 t.e):=by
 unfold TB at f;rw[QdG,QaG,QaO];rw[JE (p:=λe=>!Jz e) f hN (λn k x e=>by
  have g:=Xq e
  rw[Qak,Xm g,Wc,Xc,e,Xa,Xpy,Xa,Xg aa]) (λn=>by rw[Qak,Xv,Wa])]
 rw[Xa,Xa,KH,XbE,X8,show decide ((t.e.length:Int)<=64)=decide (t.e.length<=64)from decide_eq_decide.2 aa];grind
def Xcc{t:W4}(f:t.e.length<=1000000):∀(n k:Nat) (v:List Int),k<=t.e.length->t.e.length-k<n->v.length<=k ->
 Qd0 N t n (k:Int) v=some (v++Xp (t.e.drop k))
 |0,k,v,_,g,_=>by omega
 |n+1,k,v,l,g,j=>by
  rw[Qd0];by_cases h:k<t.e.length
  .rw[Xm h,Wc,Xc,Wb h,Xa,Xg aa,Wm h,Xp];cases o:t.e[k].V
   .rw[Wa,Xcc f n (k+1) v aa aa aa,UL (by simp_all)];rfl
   rw[Wc,Xe aa,Xcc f n (k+1) _ aa aa (by simp_all),UH aa];simp[Xp]
  obtain rfl:k=t.e.length:=aa;simp[Xp]
def Vh{t:W4}(f:TB t)(hN:1000000<N):QdH N t=some (bif X8 t.e then Xp t.e else[]):=by
 rw[QdH,V8 f hN,Xa];cases g:X8 t.e
 .rfl
 have h:=Xcc (N:=N) (t:=t) f N 0 [] aa (by unfold TB at f;omega) ab;rw[show((0:Nat):Int)=0 from rfl,WL,Um]at h;simp[Wl,Wa,h,Xa]
def XkO(x:Int):Qfv N x=some (!(!decide (x<0)&&!decide (x>4095))):=by rw[Qfv,show decide (x>=4096)=decide (x>4095)from decide_eq_decide.2 aa];cases decide (x<0)<;>cases decide (x>4095)<;>rfl
def XeU{a:WD}:∀(n:Nat) (s i:Int),Qa0 N ⟨a⟩ n s i=Qam N a n s i
 |0,s,i=>by rfl
 |n+1,s,i=>by rw[Qa0,Qam];have e:∀s i,Qa0 N ⟨a⟩ n s i=Qam N a n s i:=XeU n;simp_all
def XdQ{a:WD}:∀(n:Nat) (s i:Int),Qbh N ⟨a⟩ n s i=Qan N a n s i
 |0,s,i=>by rfl
 |n+1,s,i=>by rw[Qbh,Qan];have e:∀s i,Qbh N ⟨a⟩ n s i=Qan N a n s i:=XdQ n;grind
def XkP{a:WD}(g:LBp a)(e:neB a.S.length a.x=true){k:Nat}{p:U2}(hp:a.x[k]? = some p):QdP N ⟨a⟩ (k:Int)=some ((a.S.drop p.O.toNat).take ((toL a k).toNat-p.O.toNat)):=by
 have j:=JA e hp;have s:=Xq hp;have o:=g.2.1;have q:(OB.mk a).l.S.length=a.S.length:=rfl;rw[QdP,Xg aa,toL];by_cases h:k+1<a.x.length
 .have f:=Wb h;have r:=JA e f;have:=j.2.2.2.2.2 _ f;rw[Xm h,Wc,Xc,hp,Xa,Xc,f,Xa,Xe aa]
 rw[show decide (((k+1:Nat):Int)<(a.x.length:Int))=false from Wh aa,Wa,Xc,hp,Xa,Xe aa,W3 aa];simp[Ur,WR]
def XdR(l:List UW)(e:l.length<=1000000):∀(n k c:Nat),k<=l.length->l.length-k<n->c<=k->QbH N l n (c:Int) (k:Int)=some (((c+(l.drop k).countP (·.V):Nat):Int))
 |0,k,c,_,f,_=>by omega
 |n+1,k,c,g,f,j=>by
  rw[QbH];by_cases h:k<l.length
  .rw[Xm h,Wc,Xc,Wb h,Xa,Xg aa,Xg aa,Wm h,U4];cases o:l[k].V
   .rw[Wa,XdR l e n (k+1) c aa aa aa];simp
   rw[Wc,XdR l e n (k+1) (c+1) aa aa aa];simp;omega
  grind
def XmV{a:WD}(g:LBp a)(hN:1000000<N)(f:neB a.S.length a.x=true){k:Nat}{p:U2}(hp:a.x[k]? = some p):Qd3 N ⟨a⟩ (k:Int)=some ((YL a.S p.O.toNat (toL a k).toNat:Nat):Int):=by
 have j:=g.1;rw[Qd3,XkP g f hp,Xa];have e:((a.S.drop p.O.toNat).take ((toL a k).toNat-p.O.toNat)).length<=1000000:=by rw[Wx,WR];omega
 have h:=XdR (N:=N) _ e N 0 0 aa aa aa;rw[show((0:Nat):Int)=0 from rfl,WL,Ue]at h;rw[h,Xa];rfl
def XdS{a:WD}(o:LBp a)(hN:1000000<N):QeW N a=some (Yn a):=by
 have g:=o;have⟨t,u,hl3⟩:=o;rw[QeW,Qbt,QbO];rw[JE (p:=λx=>!(!decide (x<0)&&!decide (x>4095))) hl3 hN (λn k x e=>by
  have f:=Xq e
  rw[QaE,Xm f,Wc,Xc,e,Xa,XkO,Xa,Xg aa]) (λn=>by rw[QaE,Xv,Wa])]
 have y:=Vc (l:=a.S) (F:=λn s i=>Qan N a n s i) (q:=stQ a.i) (nxp:=λ_ p=>p.J) (I:=λs=>0<=s) (λn s k p r e=>by
  have f:=Xq e
  show Qan N a (n+1) s (k:Int)=_
  rw[Qan,Xm f,Wc,Xc,e,Xa,Xg aa]
  unfold stQ
  cases g1:decide (p.J<=s)
  .cases g2:decide (p.J>(a.i.length:Int))
   .have g1:=W5 g1
    have g2:=W5 g2
    rw[Wa,Wa,Xf aa aa,X7 aa aa,Xa]
    have ge:a.i[(p.J-1).toNat]'aa=a.i.getD (p.J-1).toNat 0:=by
     rw[We,Wb aa];rfl
    rw[ge]
    cases (a.i.getD (p.J-1).toNat 0 != (k:Int))<;>cases (p.V==(p.a != 0))<;>rfl
   .rfl
  .rfl) (λn s=>by show Qan N a (n+1) s _=_;rw[Qan,Xv,Wa]) (λs k p r e h=>by
   unfold stQ at h
   simp only[Wr,UE,UR]at h
   have:=h.1
   omega) N 0 0 aa aa aa
 have z:=Vc (l:=a.x) (F:=λn s i=>Qam N a n s i) (q:=neQ a.S.length) (nxp:=λ_ p=>p.O) (I:=λ_=>True) (λn s k p r e=>by
  have f:=Xq e
  show Qam N a (n+1) s (k:Int)=_
  rw[Qam,Xm f,Wc,Xc,e,Xa,Xg aa]
  unfold neQ
  cases ((k:Int)==0)<;>cases (p.O != 0)<;>cases p.B0<;>cases decide (p.O<s)<;>cases decide (p.O>(a.S.length:Int))<;>cases decide (p.C0<0)<;>cases decide (p.C0>64)<;>rfl) (λn s=>by show Qam N a (n+1) s _=_;rw[Qam,Xv,Wa]) (λ_ _ _ _ _ _=>trivial) N 0 0 trivial aa aa
 have A:Qan N a N 0 0=some (bif stB a.i a.S then .nxt ()else .ret false):=y;have e3:Qam N a N 0 0=some (bif neB a.S.length a.x then .nxt ()else .ret false):=z;have B:Qdk N ⟨a⟩=some (!decide ((a.x.length:Int)>64)&&((!((a.x.length:Int)==0)||!decide ((a.S.length:Int)>0))&&neB a.S.length a.x)):=by rw[Qdk,Xr,XeU,e3,Xa];cases neB a.S.length a.x<;>cases decide ((a.x.length:Int)>64)<;>cases ((a.x.length:Int)==0)<;>cases decide ((a.S.length:Int)>0)<;>simp only[Wc,Wa,Xs,Xo]<;>rfl
 have D:Qc7 N ⟨a⟩=some (stB a.i a.S):=by rw[Qc7,XdQ,A,Xa];cases stB a.i a.S<;>simp only[Wc,Wa,Xs,Xo]
 rw[Xa,Xa,KH,B,Xa,D,Xa,Yn,XmK];have E:(a.i.any λx=>!(!decide (x<0)&&!decide (x>4095))) = !(a.i.all λp=>!decide (p<0)&&!decide (p>4095)):=by rw[←XbE,Bool.not_not]
 rw[E];cases decide ((a.i.length:Int)>4096);rotate_left
 .rfl
 cases (a.i.all λp=>!decide (p<0)&&!decide (p>4095))
 .cases decide ((a.x.length:Int)>64)<;>cases (!((a.x.length:Int)==0)||!decide ((a.S.length:Int)>0))<;>rfl
 cases decide ((a.x.length:Int)>64);rotate_left
 .rfl
 cases (!((a.x.length:Int)==0)||!decide ((a.S.length:Int)>0))
 .rfl
 cases j:neB a.S.length a.x
 .cases stB a.i a.S<;>rfl
 cases stB a.i a.S
 .rfl
 simp;have G:=Kr (l:=a.x) (F:=Qdw N a) (q:=Xg3 a ()) (λn k p e=>by
  have f:=Xq e
  rw[Qdw,Xm f,Wc,Xc,e,Xa,XmV g hN j e,Xa,Xg aa]
  unfold Xg3
  cases decide (((YL a.S p.O.toNat (toL a k).toNat:Nat):Int)>p.C0)<;>rfl) (λn=>by rw[Qdw,Xv,Wa]) (n:=N) aa
 rw[G,Xa];show exK (bif Xb5 a then Ex.nxt ()else Ex.ret false) _ _=_;cases Xb5 a
 .rw[Wa,Xs]
 simp[Wc,Xo]
def Xcd{a:WD}(e:a.S.length<=1000000):∀(n k:Nat) (v:List Int),k<=a.S.length->a.S.length-k<n->v.length<=k ->
 Qd1 N a n (k:Int) v=some (v++XC (a.S.drop k))
 |0,k,v,_,f,_=>by omega
 |n+1,k,v,j,f,g=>by
  rw[Qd1];by_cases h:k<a.S.length
  .rw[Xm h,Wc,Xc,Wb h,Xa,Xg aa,Wm h,XC];cases l:a.S[k].V
   .rw[Wa,Xcd e n (k+1) v aa aa aa,UL (by simp_all)];rfl
   rw[Wc,Xe aa,Xcd e n (k+1) _ aa aa (by simp_all),UH aa];simp[XC]
  obtain rfl:k=a.S.length:=aa;simp[XC]
def XeV{a:WD}(e:LBp a)(hN:1000000<N):Qgf N a=some (bif Yn a then XC a.S else[]):=by
 rw[Qgf,XdS e hN,Xa];cases f:Yn a
 .rfl
 have h:=Xcd (N:=N) (a:=a) e.1 N 0 [] aa (by have:=e.1;omega) ab;rw[show((0:Nat):Int)=0 from rfl,WL,Um]at h;simp[Wl,Wa,h,Xa]
end
def Xpz{m:Int}(f:0<=m)(l:2*m+1<=18446744073709551615):bOr .u64 (m*2) 1=m*2+1:=by
 obtain⟨n,rfl⟩:=IB f;have hb:IntKind.u64.bits=64:=rfl;show IntKind.u64.wrap ((BitVec.ofInt IntKind.u64.bits ((n:Int)*2) |||BitVec.ofInt IntKind.u64.bits 1).toNat:Int)=_;rw[hb];have g:BitVec.ofInt 64 ((n:Int)*2)=BitVec.ofNat 64 (n*2):=by rw[show(n:Int)*2=((n*2:Nat):Int) by omega];exact BitVec.ofInt_natCast 64 (n*2)
 have h:BitVec.ofInt 64 (1:Int)=BitVec.ofNat 64 1:=ae;have j:n*2 % 2 ^ 64=n*2:=Nat.mod_eq_of_lt aa;have e:=Nat.shiftLeft_add_eq_or_of_lt (i:=1) (b:=1) ae n;rw[Nat.shiftLeft_eq,Nat.pow_one]at e;rw[g,h,BitVec.toNat_or,BitVec.toNat_ofNat,BitVec.toNat_ofNat,j,show 1 % 2 ^ 64=1 from rfl,←e];show wU _=_;rw[Xz aa aa];omega
section
variable {N:Nat}
def XjB{a:Int}(f:0<=a)(g:a<=64):∀(n k:Nat),(k:Int)<=a->(a-k).toNat<n->Qfa N a n ((2:Int) ^ k-1) (k:Int)=some ((2:Int) ^ a.toNat-1)
 |0,k,_,j=>by omega
 |n+1,k,p,j=>by
  rw[Qfa];have e:(if 64<(if a<0 then 0 else a)then 64 else(if a<0 then 0 else a))=a:=by rw[Wg (show¬a<0 by omega),Wg aa]
  rw[e];by_cases h:(k:Int)<a
  .have hp:(1:Int)<=2 ^ k:=Int.pow_pos (n:=(2:Int)) (m:=k) ae;have q:(2:Int) ^ k<=2 ^ 63:=by have:2 ^ k<=2 ^ 63:=Nat.pow_le_pow_right aa aa;exact_mod_cast this
   have l:JT .u64 ((2:Int) ^ k-1) 1=wU (((2:Int) ^ k-1)*2):=rfl;rw[Wi h,Wc,l,Xz aa aa,Xpz aa aa,Xg aa];have o:((2:Int) ^ k-1)*2+1=2 ^ (k+1)-1:=by rw[Int.pow_succ];omega
   rw[o];exact XjB f g n (k+1) aa aa
  rw[Wh h,Wa,show k=a.toNat by omega]
def XcS{a:Int}(e:0<=a)(f:a<=64)(hN:1000<N):QeN N a=some ((2:Int) ^ a.toNat-1):=by have:=XjB (N:=N) e f N 0 aa aa;rw[QeN];rw[show((2:Int) ^ 0-1)=0 from rfl,show((0:Nat):Int)=0 from rfl]at this;rw[this,Xa]
def VC(hN:1000<N)(d:WH):QdO N d=some (XM d):=by
 rw[QdO,XM];by_cases f:d.k<0
 .rw[Wi f,Wc,Wh aa,Uh]
 rw[Wh f,Wa];by_cases g:d.k>3
 .rw[Wi g,Wc,Wh aa,Uh]
 rw[Wh g,Wa];by_cases h:d.n<0
 .rw[Wi h,Wc,Wh aa,Uh]
 rw[Wh h,Wa];by_cases j:d.n>255
 .rw[Wi j,Wc,Wh (p:=0<=d.k/\d.k<=3/\0<=d.n/\d.n<=255) aa,Uh]
 rw[Wh j,Wa,Wi (p:=0<=d.k/\d.k<=3/\0<=d.n/\d.n<=255) aa,WI];by_cases e:d.k=1
 .rw[Wj e,Xl e,Wc,Xr];by_cases l:d.n<=32
  .rw[Wi l,Wc,XcS aa aa hN,Xa,WI,Xdr];exact congrArg some (decide_eq_decide.2 aa)
  rw[Wh l,Wa,Uh]
 rw[Wg e,Xh e,Wa];simp only[BEq.rfl,WI];rfl
def Vi(hN:1000<N)(d:WH):QdF N d=some (Xy d):=by
 rw[QdF,VC hN,Xa,Xy];cases h:XM d with
 |false=>rfl
 |true=>have:=XO h;rw[Wl,Wa,Xf (n:=d.n+1) aa aa];rfl
def Xhh(hN:1000<N)(d:WH)(i:Int):Qem N d i=some (ZP d i):=by
 rw[Qem,VC hN,Xa,ZP];cases h:XM d with
 |false=>rfl
 |true=>
  have hb:=XO h;rw[Wl,Wa,WI];by_cases g:i<0
  .rw[Wi g,Wc,Wh aa,Uh]
  rw[Wh g,Wa];by_cases j:i>=d.n
  .rw[Wi j,Wc,Wh aa,Uh]
  rw[Wh j,Wa,Wi (p:=0<=i/\i<d.n) aa,WI,Xz (n:=i) aa aa];by_cases e:d.k=2
  .rw[Xl e,Wc,Wi e,I7]
  rw[Xh e,Wa,Wh e,U1];by_cases f:d.k=1
  .rw[Xl f,Wc,Wi f,WI,Xe aa]
  rw[Xh f,Wa,Wh f,Uh]
def XbF(hN:1000<N)(d:WH)(f:XM d=true):∀(n:Nat) (i:Int) (v:List Int),0<=i->i<=d.n+1->(d.n+1-i).toNat<n->v.length+(d.n+1-i).toNat<=1000->Qb7 N d (d.n+1) n i v=some (v++Yd d (d.n-i).toNat i)
 |0,i,v,_,_,g,_=>by omega
 |n+1,i,v,l,o,g,q=>by
  have hb:=XO f;rw[Qb7];by_cases h:i<d.n+1
  .rw[Wi h,Wc,Xhh hN,Xa,Xf (n:=i+1) aa aa];by_cases r:i<d.n
   .obtain⟨k,j⟩:∃k,(d.n-i).toNat=k+1:=⟨(d.n-i).toNat-1,aa⟩
    have e:(d.n-(i+1)).toNat=k:=aa;rw[j,Yd];cases hp:ZP d i
    .rw[Wa,XbF hN d f n (i+1) v aa aa aa aa,e];simp
    rw[Wc,Xe aa,XbF hN d f n (i+1) _ aa aa aa (by rw[Wu];simp only[Uq,Ib];omega),e];simp
   have hp:ZP d i=false:=by unfold ZP;rw[Wh (p:=0<=i/\i<d.n) aa];simp
   rw[hp,Wa,XbF hN d f n (i+1) v aa aa aa aa,show(d.n-i).toNat=0 by omega,show(d.n-(i+1)).toNat=0 by omega];rfl
  rw[Wh h,Wa,show(d.n-i).toNat=0 by omega];simp[Yd]
def XeW(hN:1000<N)(d:WH)(e:XM d=true):QdS N d=some (XN d):=by
 have hb:=XO e;have f:Xy d=d.n+1:=by unfold Xy;rw[e];rfl
 rw[QdS,Vi hN,Xa,f,XbF hN d e N 0 [] aa aa aa (by simp only[Ib];omega),Xa,XN,e];simp
def XeX(d:WH)(g:List Int):∀(l:List Int) (k:Nat),l=g.drop k->Zi d k l=(Yd d l.length k).map λi=>g.getD i.toNat 0
 |[],k,_=>by simp[Zi,Yd]
 |f::p,k,h=>by
  have o:k<g.length:=by apply Nat.lt_of_not_le;intro j;rw[WN j]at h;cases h
  rw[Wm o]at h;obtain⟨q,r⟩:=IC h;have s:=XeX d g p (k+1) r;rw[Zi,Uq,Yd,UV,s];have t:g.getD k 0=f:=by rw[We,Wb o,q];rfl
  have e:((k+1:Nat):Int)=(k:Int)+1:=aa;rw[←e];split
  .simp only[UA,U9,IA,Um,IS,t]
  simp
def XeY{x:UO}(e:XM x.H=true)(f:(x.D.length:Int)=x.H.n):K5 x=(XN x.H).map λi=>x.D.getD i.toNat 0:=by unfold K5 XN;rw[e,XeX x.H x.D x.D 0 ab,show x.H.n.toNat=x.D.length by omega];rfl
variable {w:WE}{k:Nat}
def XdT(hw:WB k w)(hN:1000000<N){l:List Int}(g:l.length<=1000000):Qco N w l=some (XU w.T.length l):=by
 have f:=hw.kk;have ht:=hw.things;rw[Qco,QaZ,Qbg];rw[JE (p:=λx=>decide (x>(w.T.length:Int))) g hN (λn j x e=>by
  have f:=Xq e
  rw[Qas,Xm f,Wc,Xc,e,Xa,QdT,Xa,Xg aa,Xz aa aa]) (λn=>by rw[Qas,Xv,Wa])]
 rw[Xa,Xa,KH,XU,←XbE];simp only[Bool.not_not]
def XkQ(hw:WB k w)(hN:1000000<N){x:UO}(r:x.D.length<=1000):QdQ N w x=some (Zs w.T.length x):=by
 rw[QdQ,VC aa,Xa,Zs];cases g:XM x.H
 .rfl
 rw[Wl,Wa,WI];cases (x.H.k==0);rotate_left
 .rfl
 rw[Wa,WY,WI];by_cases f:(x.D.length:Int)=x.H.n;rotate_left
 .rw[Xn f];rfl
 have h:=Xaw x.H;rw[ZX f,Wa,WY,WI,XeW aa _ g,Xa,Qbp,QbI];rw[JE (l:=XN x.H) (p:=λi:Int=>decide (x.D.getD i.toNat 0>(w.T.length:Int))) aa hN (λn j i e=>by
  have o:=Xq e
  have q:=YC (WW e)
  rw[QaD,Xm o,Wc,Xc,e,Xa,QdI,X7 q.1 aa,Xa,XdT hw hN ab,Xa,Xa,Xg aa]
  have ge:x.D[i.toNat]'aa=x.D.getD i.toNat 0:=by rw[We,Wb aa];rfl
  rw[ge,XU,U7,List.all_nil,OA,Bool.not_not]) (λn=>by rw[QaD,Xv,Wa])]
 rw[Xa,Xa,KH,XeY g f,XU,List.all_map,←XbE];congr 3;funext i;simp
def XmW(f:w.m.length<=1000000)(hN:1000000<N)(id:Int):Qet N w id=some (Ze w.m id):=by
 rw[Qet,QaL];rw[JE (p:=λm:U5=>m.I==id) f hN (λn j x e=>by
  have g:=Xq e
  rw[Qai,Xm g,Wc,Xc,e,Xa,Qd9,Xa,Xg aa]) (λn=>by rw[Qai,Xv,Wa])]
 rw[Xa];rfl
end
section
variable {N:Nat}{w:WE}{k:Nat}
def XkR(hw:WB k w)(hN:1000000<N)(tw:XE w):QdR N w=some (JB w.T.length w.m&&!decide ((w.m.length:Int)>64)):=by
 have o:=hw.marks;have f:=Kr (l:=w.m) (F:=QbE N w) (q:=Xcy w.T.length w.m ()) (λn k p e=>by
  have g:=Xq e
  have r:=(tw.2.2.2.2.1 p (WW e)).1.1
  have j:(p.I==0)=decide (p.I<1):=by
   by_cases h:p.I=0
   .rw[Xl h,Wi aa]
   .rw[Xh h,Wh aa]
  rw[QbE,Xm g,Wc,Xc,e,Xa,XdT hw hN ab,Xa,XmW aa hN,Xa,Xg aa,j,XU,U7,List.all_nil,OA]
  unfold Xcy
  cases decide (p.I<1)<;>cases decide (p.I>(w.T.length:Int))<;>cases (Ze w.m p.I != (k:Int))<;>cases decide (p.M<1)<;>cases decide (p.M>1000)<;>rfl) (λn=>by rw[QbE,Xv,Wa]) (n:=N) aa
 rw[QdR,f,Xa];show exK (bif JB w.T.length w.m then Ex.nxt ()else Ex.ret false) _ _=_;have e:decide ((w.m.length:Int)<=64) = !decide ((w.m.length:Int)>64):=by
  by_cases h:(w.m.length:Int)>64
  .rw[Wi h,Wh aa];rfl
  rw[Wh h,Wi aa];rfl
 cases JB w.T.length w.m
 .rw[Wa,Xs];rfl
 rw[Wc,Xo,e];rfl
def XbG{l:List Int}(f:l.length<=1000000)(hN:1000000<N):QaY N l 0=some (!l.all λp=>!(p==0)):=by
 rw[QaY,QcH];rw[JE (p:=λx:Int=>(0==x)) f hN (λn j x e=>by
  have g:=Xq e
  rw[QaX,Xm g,Wc,Xc,e,Xa,Xg aa]) (λn=>by rw[QaX,Xv,Wa])]
 rw[Xa,KH,←XbE,Bool.not_not];congr 2;funext x;rw[Bool.not_not];by_cases h:x=0
 .subst h;rfl
 rw[Xh h,Xh (λe=>h e.symm)]
def XbH:List (List Int)->Nat
 |[]=>0
 |l::ls=>l.length+XbH ls
def XeZ(ls:List (List Int))(e:ls.length<=1000):∀(n k s:Nat),k<=ls.length->ls.length-k<n->s+XbH (ls.drop k)<=10000000->QaR N ls n (s:Int) (k:Int)=some (((s+XbH (ls.drop k):Nat):Int))
 |0,k,s,_,f,_=>by omega
 |n+1,k,s,j,f,g=>by
  rw[QaR];by_cases h:k<ls.length
  .rw[Wm h,XbH]at g⊢;rw[Xm h,Wc,Xc,Wb h,Xa,Xf (n:=(s:Int)+((ls[k].length:Nat):Int)) aa aa,Wh aa,Wa,Xg aa];have:=XeZ ls e n (k+1) (s+ls[k].length) aa aa aa;rw[show(s:Int)+((ls[k].length:Nat):Int)=((s+ls[k].length:Nat):Int) by omega,this,Oj]
  obtain rfl:k=ls.length:=aa;rw[Xv,Wa,WN (Uu _)];simp[XbH]
def Xe0(ls:List (List Int))(e:ls.length<=1000):∀(n k:Nat) (v:List Int),k<=ls.length->ls.length-k<n->v.length+XbH (ls.drop k)<=10000000->QaS N ls n (k:Int) v=some (v++(ls.drop k).flatten)
 |0,k,v,_,f,_=>by omega
 |n+1,k,v,j,f,g=>by
  rw[QaS];by_cases h:k<ls.length
  .rw[Wm h,XbH]at g;rw[Wm h,Xm h,Wc,Xc,Wb h,Xa,Xe aa,Xg aa,Xe0 ls e n (k+1) _ aa aa (by rw[Wu];omega),List.flatten_cons,W0]
  obtain rfl:k=ls.length:=aa;rw[Xv,Wa,WN (Uu _)];simp
def Xce(ls:List (List Int))(j:ls.length<=1000)(o:XbH ls<=10000000)(hN:1000000<N):Qbb N ls=some ls.flatten:=by
 have f:=XeZ (N:=N) ls j N 0 0 aa aa (by rw[WL];omega);have g:=Xe0 (N:=N) ls j N 0 [] aa aa (by rw[WL];simp;omega);rw[WL]at f g;rw[show((0:Nat):Int)=0 from rfl,Ue]at f;rw[show((0:Nat):Int)=0 from rfl,Um]at g;have l:Qbq N ((XbH ls:Nat):Int)=some []:=by
  rw[Qbq,Wh aa,Wa,Xf (n:=(0:Int)) aa aa,Int.sub_zero];have e:=Xf (n:=((XbH ls:Nat):Int)) aa aa;by_cases h:(wI ((XbH ls:Nat):Int))>0
  .rw[Wi h,Wc,Xe ⟨rfl,rfl⟩,Xe (by rw[e];omega),Xe (by rw[e];omega),Xe (by rw[e];omega),Ot]
  rw[Wh h,Wa]
 rw[Qbb,f,Xa,l,Xa,g,Xa]
def Xa7(n:Nat)(a b:List Int):XU n (a++b)=(XU n a&&XU n b):=by unfold XU;rw[I4]
def XmX(hw:WB k w)(hN:1000000<N)(tw:XE w):QeX N w=some (XZ w):=by
 have r:=hw.kk;have ht:=hw.things;have z:=hw.marks;have A:=hw.roots;have t:Qa2 N w.c=some (X5 w.c):=by rw[←YQ N w.c,Qa2,QaA]
 rw[QeX,t,Xa,XZ];cases X5 w.c
 .rfl
 rw[Wl,Wa,XdS hw.loc hN,Xa,WI];cases f:Yn w.l
 .rfl
 rw[Wl,Wa,V8 hw.glo hN,Xa,WI];cases h:X8 w.g.e
 .rfl
 rw[Wl,Wa,V8 hw.wea hN,Xa,WI];cases j:X8 w.v.e
 .rfl
 have u:=KT h;have B:=Xbz f;have s3:=KT j;rw[Wl,Wa,WI,Vh hw.glo hN,Xa,h,Wc,XbG aa hN,Xa];cases ((Xp w.g.e).all λp=>!(p==0))
 .cases decide ((w.m.length:Int)>64)<;>cases w.T.all (Zs w.T.length)<;>rfl
 rw[Wl,Wa,WI];have s:=Kr (l:=w.T) (F:=Qdx N w) (q:=λ_=>Zs w.T.length) (λn k p e=>by
  have r:=Xq e
  have o:=hw.fields p (WW e)
  rw[Qdx,Xm r,Wc,Xc,e,Xa,XkQ hw hN o,Xa,Xg aa]
  cases Zs w.T.length p<;>rfl) (λn=>by rw[Qdx,Xv,Wa]) (n:=N) aa
 rw[Zl]at s;rw[s,Xa];cases w.T.all (Zs w.T.length)
 .rw[Wa,Xs];cases decide ((w.m.length:Int)>64)<;>rfl
 rw[Wc,Xo,XeV hw.loc hN,Xa,f,Wc,Xa,Vh hw.wea hN,Xa,j,Wc,Xce _ ab (by simp only[XbH];omega) hN,Xa,WI];have y:[w.R,XC w.l.S,Xp w.g.e,Xp w.v.e].flatten=w.R++(XC w.l.S++(Xp w.g.e++Xp w.v.e)):=by simp
 rw[y,XdT hw hN (by simp only[Wu];omega),Xa,Xa7,Xa7,Xa7,XkR hw hN tw,Xa];cases decide ((w.m.length:Int)>64)<;>cases JB w.T.length w.m<;>cases XU w.T.length w.R<;>cases XU w.T.length (XC w.l.S)<;>cases XU w.T.length (Xp w.g.e)<;>cases XU w.T.length (Xp w.v.e)<;>rfl
end
def KI(N:Nat)(c:Uj):Qa2 N c=some (X5 c):=by rw[show Qa2 N c=QaA N c by rw[Qa2,QaA]];exact YQ N c
def XmY(N:Nat)(c:Uj):Qc6 N c=some (smC c):=by rw[show Qc6 N c=Qb3 N c by rw[Qc6,Qb3,KI,YQ]];exact XgQ N c
def XmZ(N:Nat)(c:Uj)(w:Int):QgA N c w=some (XI c w):=by
 simp only[QgA,KI,XmY,Xa,XI,smC];cases j:X5 c with
 |false=>simp
 |true=>
  have h:=Xi.1 j;simp only[Wl,Wa,if_true,US];rw[Xf (n:=4*c.W) aa aa];by_cases f:w<1
  .rw[Wj f,Wg (show¬(True/\1<=w)fromλh=>aa)]
  rw[Wg f,Wj (show True/\1<=w from⟨trivial,aa⟩)];by_cases g:w>4*c.W
  .rw[Wj g];simp only[Wg (show¬w<=c.W / 4 by omega),Wg (show¬c.W>=w by omega),Wg (show¬2*c.W>=w by omega),Wg (show¬3*c.W>=w by omega),Wg (show¬4*c.W>=w by omega)]
  rw[Wg g];by_cases e:w<=c.W / 4
  .rw[Wj e,Wj e]
  rw[Wg e,Wg e,Xe aa,Xf (n:=w+c.W) aa aa,Xf (n:=w+c.W-1) aa aa,U3 aa];have key:∀k:Int,k*c.W<=w+c.W-1->w+c.W-1<(k+1)*c.W->(w+c.W-1) / c.W=k:=by intro k a b;have b1:=Int.ediv_lt_of_lt_mul (show 0<c.W by omega) b;have l:=Int.le_ediv_of_mul_le (show 0<c.W by omega) a;omega
  split
  .rw[key 1 aa aa];rfl
  split
  .rw[key 2 aa aa];rfl
  split
  .rw[key 3 aa aa];rfl
  split
  .rw[key 4 aa aa];rfl
  omega
def Xm0(N:Nat)(c:Uj)(a:Int)(j:a<=18446744073709551615):Qf9 N c a=QcI N c a:=by
 rw[VK];simp only[Qf9,KI,Xa,US];cases e:X5 c with
 |false=>simp
 |true=>
  have h:=Xi.1 e;have l:=XV e (i:=0) aa aa;simp only[Wl,Wa];rw[Wg (show¬(true=false) by simp),Int.mul_comm c.W c.p];rw[Xf (n:=c.p*c.W) aa aa,Xz (n:=c.p*c.W) aa aa];by_cases f:a<4096
  .rw[Wj f,Wg aa]
  rw[Wg f,Xz (n:=a-4096) aa aa];by_cases o:a>=4096+c.p*c.W
  .rw[Wj aa,Wg aa]
  rw[Wg aa,Wj aa,Xe aa,Xe aa];rw[Xf (n:=a-4096) aa aa,U3 aa,Int.tmod_eq_emod_of_nonneg aa];have hd:0<=(a-4096) / c.W:=Int.ediv_nonneg aa aa;have g:(a-4096) / c.W<=a-4096:=Int.ediv_le_self _ aa;rw[Xf aa aa]
def Xhi(N:Nat)(c:Uj)(p o:Int):Qfb N c p o=Qcb N c p o:=by
 rw[KK];simp only[Qfb,KI,Xa,US];cases e:X5 c with
 |false=>simp
 |true=>
  have h:=Xi.1 e;simp only[Wl,Wa];rw[Wg (show¬(true=false) by simp)];by_cases f:p<0
  .rw[Wj f,Wg aa]
  rw[Wg f];by_cases g:p>=c.p
  .rw[Wj g,Wg aa]
  rw[Wg g];by_cases j:o<0
  .rw[Wj j,Wg aa]
  rw[Wg j];by_cases l:o>=c.W
  .rw[Wj l,Wg aa]
  rw[Wg l,Wj aa];have q:=XV e (i:=p) aa aa;rw[Xf (n:=p*c.W) aa aa,Xf (n:=p*c.W+o) aa aa,Xz (n:=p*c.W+o) aa aa,Xz aa aa];unfold Xb;rw[Int.add_assoc]
def Kt(sp:Int)(p:WJ):Bool:=p.k==3&&p.s==sp
def V9(ps:List WJ)(sp:Int)(i:Nat):Nat:=((ps.drop i).takeWhile (Kt sp)).length
def Xhj(N:Nat)(ps:List WJ)(sp:Int)(j:ps.length<=1000000):∀(n c i:Nat),i<=ps.length->c<=i->ps.length-i<n->Qdm N ps sp n (c:Int) (i:Int)=some (((c+V9 ps sp i:Nat):Int))
 |0,c,i,_,_,h=>by omega
 |n+1,c,i,h,l,o=>by
  rw[Qdm];by_cases e:i<ps.length
  .rw[Wi aa,Wc,Xc,Wb e,Xa,Xa];have hd:ps.drop i=ps[i]::ps.drop (i+1):=Wm e;unfold V9;rw[hd,List.takeWhile_cons];cases f:(ps[i].k==3)with
   |false=>simp[Kt,f]
   |true=>
    rw[Wc];cases g:(ps[i].s==sp)with
    |false=>simp[Kt,f,g]
    |true=>rw[Wc,show Kt sp ps[i]=true by simp[Kt,f,g],Wj rfl];rw[Xg aa,Xg aa,Xhj N ps sp j n (c+1) (i+1) aa aa aa];unfold V9;rw[Uq];congr 1;omega
  have:ps.drop i=[]:=WN aa;rw[Wh aa,Wa];simp[V9,this]
def Xm1{N:Nat}(ps:List WJ)(sp:Int)(e:ps.length<=1000000)(hN:1000000<N)(i:Nat)(f:i<ps.length):QeR N ps (i:Int) sp=some ((V9 ps sp (i+1):Nat):Int):=by rw[QeR,Xg aa,show(0:Int)=((0:Nat):Int)from rfl,Xhj N ps sp e N 0 (i+1) aa aa aa,Xa,Ue]
def XbI{α:Type}(q:α->Bool):∀(l:List α) (k:Nat),k<=(l.takeWhile q).length↔k<=l.length/\(l.take k).all q=true
 |[],k=>by simp
 |a::l,0=>by simp
 |a::l,k+1=>by
  rw[List.takeWhile_cons];cases h:q a with
  |false=>simp[h]
  |true=>simp[h];exact XbI q l k |>.trans ab
def Ye(sp:Int)(p:WJ):Bool:=Kt sp p&&(p.u==0&&p.P==0)
def XjC(N:Nat)(o:List WJ)(f:Int)(g:WJ)(q p:Int)(l:List WJ)(t:l.length<=1000000)(hd:((o.drop (wI (f+1)).toNat).take ((wI (f+p)).toNat-(wI (f+1)).toNat))=l)(r:min ((wI (f+p)).toNat-(wI (f+1)).toNat) (o.length-(wI (f+1)).toNat)=l.length):
 ∀(n k:Nat),k<=l.length->l.length-k<n->Qe9 N o f g q p n (k:Int)=some (if(l.drop k).all (Ye g.s)=true then .nxt ()else .ret 0)
 |0,k,_,h=>by omega
 |n+1,k,h,y=>by
  rw[Qe9,hd,r];by_cases j:k<l.length
  .rw[Wi aa,Wc,Xc,Wb j,Xa,Qe1,Xa,Wm j,U7];have e:((l[k].k==3)&&((l[k].s==g.s)&&((l[k].u==0)&&(l[k].P==0))))=Ye g.s l[k]:=by unfold Ye Kt;rw[Bool.and_assoc]
   rw[e];cases z:Ye g.s l[k]with
   |false=>simp
   |true=>rw[Wl,Wa,Xg aa,XjC N o f g q p l t hd r n (k+1) aa aa,WI]
  rw[Wh aa,Wa,WN aa];rfl
def Yf(c:Uj)(ps:List WJ)(i:Nat)(p:WJ):Nat:=
 if p.k=0 then(if p.s=0/\p.u=0/\p.P=0 then 1 else 0)
 else if(p.s=0\/p.s=1)/\0<=p.P/\p.P<=2147483647 then
  (if p.k=1 then(if 0<=p.u/\p.u<=c.W then 1 else 0)
   else if p.k=2 then(if 1<=XI c p.u/\(XI c p.u).toNat<=ps.length-i/\((ps.drop (i+1)).take ((XI c p.u).toNat-1)).all (Ye p.s)=true then(XI c p.u).toNat else 0)
   else 0)
 else 0
def Jq(N:Nat)(p:WJ):Qc8 N p=some (decide (p.s=0\/p.s=1)):=by
 rw[Qc8];by_cases h:p.s=0
 .simp[h]
 rw[show(p.s==0)=false by simpa using h,Wa];by_cases e:p.s=1
 .simp[e]
 rw[show(p.s==1)=false by simpa using e,Wh aa]
def XaF(N:Nat)(p:WJ):Qc9 N p=some (decide (0<=p.P/\p.P<=2147483647)):=by rw[Qc9];exact XcM N p.P
def Ku{N:Nat}{c:Uj}{ps:List WJ}(J:ps.length<=100000)(hN:1000000<N){i:Nat}(E:i<ps.length):QgB N c ps (i:Int)=some ((Yf c ps i ps[i]:Nat):Int):=by
 rw[QgB,Xc,Wb E,Xa,Xr];generalize hp:ps[i]=p;unfold Yf;by_cases k0:p.k<0
 .rw[Wi k0,Wc,Wg aa,Wg (show¬p.k=1 by omega),Wg (show¬p.k=2 by omega)];simp
 rw[Wh k0,Wa];by_cases A:p.k>=3
 .rw[Wi A,Wc,Wg aa,Wg (show¬p.k=1 by omega),Wg (show¬p.k=2 by omega)];simp
 rw[Wh A,Wa];by_cases r:p.k=0
 .rw[show(p.k==0)=true by simpa using r,Wc,Wj r,QfK,Xa];by_cases t:p.s=0/\p.u=0/\p.P=0
  .obtain⟨G,H,I⟩:=t;simp[G,H,I]
  .rw[Wg t,show(((0:Int)==0)&&((p.s==0)&&((p.u==0)&&(p.P==0))))=false by
    rw[Bool.eq_false_iff];intro f;simp only[Wr,beq_iff_eq]at f;exact t ⟨f.2.1,f.2.2.1,f.2.2.2⟩]
   rfl
 rw[show(p.k==0)=false by simpa using r,Wa,Wg r];by_cases e:(p.s=0\/p.s=1);case neg=>
  rw[Wg (λf=>e f.1)]
  by_cases j:p.k=1
  .rw[show(p.k==1)=true by simpa using j,Wc,Qdu,Jq,Xa,Wh e,Wa,Xa];rfl
  .have q:p.k=2:=aa
   rw[show(p.k==1)=false by simpa using j,Wa,show(p.k==2)=true by simpa using q,Wc,Qdv,Jq,Xa,Wh e,Wa,Xa];rfl
 by_cases h:0<=p.P/\p.P<=2147483647;case neg=>
  rw[Wg (λf=>h f.2)]
  by_cases j:p.k=1
  .rw[show(p.k==1)=true by simpa using j,Wc,Qdu,Jq,Xa,Wi e,Wc,XaF,Xa,Wh h,Wa,Xa];rfl
  .have q:p.k=2:=aa
   rw[show(p.k==1)=false by simpa using j,Wa,show(p.k==2)=true by simpa using q,Wc,Qdv,Jq,Xa,Wi e,Wc,XaF,Xa,Wh h,Wa,Xa];rfl
 rw[Wj ⟨e,h⟩];by_cases j:p.k=1
 .rw[show(p.k==1)=true by simpa using j,Wc,Qdu,Jq,Xa,Wi e,Wc,XaF,Xa,Wi h,Wc,Wj j];by_cases y:0<=p.u
  .by_cases B:p.u<=c.W
   .simp[y,B,Xa]
   simp[y,B,Xa]
  simp[y,Xa]
 have q:p.k=2:=aa;rw[show(p.k==1)=false by simpa using j,Wa,show(p.k==2)=true by simpa using q,Wc,Qdv,Jq,Xa,Wi e,Wc,XaF,Xa,Wi h,Wc,Wg j,Wj q];simp only[XmZ,Xa];by_cases l:XI c p.u>=1;case neg=>rw[Wh l,WY,Wc,Wg (λf=>l f.1)];rfl
 have K:=JJ c p.u;rw[Wi l,Wl,Wa,show((2:Int) != 2)=false from rfl,Wa,Xf (n:=(ps.length:Int)-i) aa aa];by_cases o:XI c p.u>(ps.length:Int)-i
 .rw[Wi o,Wc,Wg (λf=>by have:=f.2.1;omega)];rfl
 rw[Wh o,Wa];have w1:wI ((i:Int)+1)=((i+1:Nat):Int):=Xg aa;have w2:wI ((i:Int)+XI c p.u)=(i:Int)+XI c p.u:=Xf aa aa;rw[Xe (by rw[w1,w2];omega)];have z:(wI ((i:Int)+1)).toNat=i+1:=by rw[w1];omega
 have D:(wI ((i:Int)+XI c p.u)).toNat-(wI ((i:Int)+1)).toNat=(XI c p.u).toNat-1:=by rw[z,w2];omega
 rw[show(0:Int)=((0:Nat):Int)from rfl,XjC N ps (i:Int) p 2 (XI c p.u) ((ps.drop (i+1)).take ((XI c p.u).toNat-1)) (by rw[Wx];omega) (by rw[D,z]) (by rw[D,z,Wx,WR]) N 0 aa (by rw[Wx];omega),Xa,WL];by_cases g:((ps.drop (i+1)).take ((XI c p.u).toNat-1)).all (Ye p.s)=true
 .rw[Wj g,Xo,Wj ⟨l,aa,g⟩];congr 1;omega
 rw[Wg g,Xs,Wg (λf=>g f.2.2)];rfl
def X0{p:Prop}[Decidable p](h:¬p):decide p=false:=Wh h
def Xe1{N:Nat}{h:Wp}(z:h.p.length<=100000){sp:Int}(r:sp=0\/sp=1):∀(k n i:Nat),i+k<=h.p.length->((h.p.drop i).take k).all (Kt sp)=true ->
 QaB N h (n+k) (k:Int) (i:Int)=if((h.p.drop i).take k).all (Ye sp)=true then QaB N h n 0 ((i+k:Nat):Int)else some (.ret false)
 |0,n,i,t,g=>by simp
 |k+1,n,i,t,g=>by
  have j:i<h.p.length:=aa;have hd:(h.p.drop i).take (k+1)=h.p[i]::(h.p.drop (i+1)).take k:=by rw[Wm j,List.take_succ_cons]
  rw[hd,U7,Wr]at g;rw[hd,U7,show n+(k+1)=(n+k)+1 from rfl,QaB,Wi aa,Wc,Xc,Wb j,Xa];have A:=Xe1 (N:=N) z r k n (i+1) aa g.2;generalize h.p[i]=p at *;have B:p.k=3/\p.s=sp:=by have:=g.1;simp only[Kt,Wr,beq_iff_eq]at this;exact this
  obtain⟨f,D⟩:=B;have y:(p.k==3)=true:=by simpa using f
  rw[y,Wi (show(((k+1:Nat):Int)>0) by omega),show(!(true==true))=false from rfl,Wa,X0 (show¬p.s<0 by omega),Wa,X0 (show¬p.s>1 by omega),Wa,XcM,Xa];by_cases hp:p.P=0;case neg=>
   have l:Ye sp p=false:=by simp[Ye,hp]
   rw[l,Uh,Wg ab]
   by_cases o:0<=p.P/\p.P<=2147483647
   .rw[Wi o,Wl,Wa]
    simp only[Xr,show(p.k==0)=false by rw[f];rfl,show(p.k==1)=false by rw[f];rfl,show(p.k==2)=false by rw[f];rfl,y,Wa,Wc,show(p.P != 0)=true by simpa using hp,OC]
   .rw[Wh o,WY,Wc]
  rw[Wi (show 0<=p.P/\p.P<=2147483647 by omega),Wl,Wa];simp only[Xr,show(p.k==0)=false by rw[f];rfl,show(p.k==1)=false by rw[f];rfl,show(p.k==2)=false by rw[f];rfl,y,Wa,Wc,show(p.P != 0)=false by simpa using hp];by_cases q:p.u=0
  .have l:Ye sp p=true:=by unfold Ye;rw[g.1];simp[q,hp]
   rw[show(p.u != 0)=false by simpa using q,Wa,l,WI,Xf (n:=((k+1:Nat):Int)-1) aa aa,Xg aa];have e:(if(0:Int)<((k+1:Nat):Int)-1 then((k+1:Nat):Int)-1 else 0)=(k:Int):=by split<;>omega
   rw[e,A,show i+1+k=i+(k+1) by omega]
  have l:Ye sp p=false:=by simp[Ye,q]
  rw[show(p.u != 0)=true by simpa using q,Wc,l,Uh,Wg ab]
def Xm2{α:Type}{p q:α->Bool}(h:∀x,q x=true->p x=true):∀{l:List α},l.all q=true->l.all p=true:=by intro l e;rw[WP]at *;exactλx f=>h x (e x f)
def XkS{N:Nat}{h:Wp}(hc:X5 h.c=true)(U:h.p.length<=100000)(hN:1000000<N){i:Nat}(L:i<h.p.length)(n:Nat)(hn:10<=n):
 QaB N h n 0 (i:Int)=if Yf h.c h.p i h.p[i]=0 then some (.ret false)else QaB N h (n-Yf h.c h.p i h.p[i]) 0 ((i+Yf h.c h.p i h.p[i]:Nat):Int):=by
 obtain⟨n,rfl⟩:∃m,n=m+1:=⟨n-1,aa⟩
 rw[QaB,Wi (show(i:Int)<(h.p.length:Int) by omega),Wc,Xc,Wb L,Xa];generalize h.p[i]=p;have M:(if(0:Int)<wI (0-1)then wI (0-1)else 0)=0:=by rw[Xf aa aa];rfl
 have ge:wI ((i:Int)+1)=((i+1:Nat):Int):=Xg aa;generalize f:Yf h.c h.p i p=s;unfold Yf at f;have no:s=0->(if s=0 then some (.ret false)else QaB N h (n+1-s) 0 ((i+s:Nat):Int))=some (.ret false):=λe=>Wj e;rw[Wh (show¬(0:Int)>0 by omega)];by_cases O:p.k=3
 .rw[show(p.k==3)=true by simpa using O,show(!(true==false))=true from rfl,Wc];rw[Wg (show¬p.k=0 by omega),Wg (show¬p.k=1 by omega),Wg (show¬p.k=2 by omega),ite_self]at f;exact(no f.symm).symm
 have t:(p.k==3)=false:=by simpa using O
 rw[t,show(!(false==false))=false from rfl,Wa];by_cases l:p.s=0\/p.s=1;case neg=>
  have z:s=0:=by
   rw[←f,Wg (c:=(p.s=0\/p.s=1)/\_) (λg=>l g.1)]
   split
   .rw[Wg (λg=>l (.inl g.1))]
   .rfl
  rw[no z]
  by_cases Q:p.s<0
  .rw[Wi Q,Wc]
  .rw[X0 Q,Wa,Wi (show p.s>1 by omega),Wc]
 rw[X0 (show¬p.s<0 by omega),Wa,X0 (show¬p.s>1 by omega),Wa,XcM,Xa];by_cases j:0<=p.P/\p.P<=2147483647;case neg=>
  have z:s=0:=by
   rw[←f,Wg (c:=(p.s=0\/p.s=1)/\_) (λg=>j g.2)]
   split
   .rw[Wg (λg=>j aa)]
   .rfl
  rw[no z,X0 j,WY,Wc]
 rw[Wj (c:=(p.s=0\/p.s=1)/\_) ⟨l,j⟩]at f;rw[Wi j,Wl,Wa];by_cases r:p.k=0
 .have E:(p.k==1)=false:=by rw[r];rfl
  have y:(p.k==2)=false:=by rw[r];rfl
  rw[Wj r]at f;simp only[Xr,show(p.k==0)=true by simpa using r,E,y,t,Wc,Wa,WI];by_cases G:p.s=0/\p.u=0/\p.P=0
  .rw[Wj G]at f;subst f;obtain⟨V,Y,Z⟩:=G;rw[Wg (show¬(1:Nat)=0 by omega)];simp only[V,Y,Z,show((0:Int)==0)=true from rfl,Bool.and_self,Wl,Wa,M,ge,Of]
  rw[Wg G]at f;rw[no f.symm,show((p.s==0)&&((p.u==0)&&(p.P==0)))=false by
   rw[Bool.eq_false_iff];intro g;simp only[Wr,beq_iff_eq]at g;exact G ⟨g.1,g.2.1,g.2.2⟩]
  rfl
 have I:(p.k==0)=false:=by simpa using r
 rw[Wg r]at f;by_cases A:p.k=1
 .have y:(p.k==2)=false:=by rw[A];rfl
  rw[Wj A]at f;simp only[Xr,show(p.k==1)=true by simpa using A,I,y,t,Wc,Wa];by_cases R:p.u<0
  .rw[Wg aa]at f;rw[Wi R,Wc,no f.symm]
  rw[X0 R,Wa];by_cases S:p.u>h.c.W
  .rw[Wg aa]at f;rw[Wi S,Wc,no f.symm]
  rw[Wj aa]at f;subst f;rw[X0 S,Wa,Wg (show¬(1:Nat)=0 by omega),M,ge,Of]
 have E:(p.k==1)=false:=by simpa using A
 rw[Wg A]at f;by_cases H:p.k=2;case neg=>
  have y:(p.k==2)=false:=by simpa using H
  rw[Wg H]at f
  simp only[Xr,I,E,y,t,Wa]
  rw[no f.symm]
 rw[Wj H]at f;simp only[Xr,show(p.k==2)=true by simpa using H,I,E,t,Wc,Wa,Jb (show 10<=N by omega),Xa];by_cases B:XI h.c p.u<1
 .rw[Wg (λg=>aa)]at f;rw[Wi B,Wc,no f.symm]
 have hr:=JJ h.c p.u;rw[X0 B,Wa,Xm1 h.p p.s aa hN i L,Xa,Xf (n:=XI h.c p.u-1) aa aa];obtain⟨k,T⟩:∃k:Nat,XI h.c p.u=((k+1:Nat):Int):=⟨(XI h.c p.u).toNat-1,aa⟩
 have J:(XI h.c p.u).toNat=k+1:=aa;have tw:=XbI (Kt p.s) (h.p.drop (i+1)) k;rw[J,Of,T]at f;rw[T];by_cases ht:((V9 h.p p.s (i+1):Nat):Int)<((k+1:Nat):Int)-1
 .have D:¬k<=((h.p.drop (i+1)).takeWhile (Kt p.s)).length:=by unfold V9 at ht;omega
  rw[Wg (λg=>D (tw.2 ⟨by rw[WR];omega,Xm2 (λx K=>by unfold Ye at K;rw[Wr]at K;exact K.1) g.2.2⟩))]at f;rw[Wi ht,Wc,no f.symm]
 rw[X0 ht,Wa];have q:=tw.1 (by unfold V9 at ht;omega);rw[WR]at q;have e:(if(0:Int)<((k+1:Nat):Int)-1 then((k+1:Nat):Int)-1 else 0)=(k:Int):=by split<;>omega
 rw[e,ge];obtain⟨m,rfl⟩:∃m,n=m+k:=⟨n-k,by have:=JJ h.c p.u;omega⟩
 rw[Xe1 U l k m (i+1) aa q.2];by_cases o:((h.p.drop (i+1)).take k).all (Ye p.s)=true
 .rw[Wj (show 1<=((k+1:Nat):Int)/\k+1<=h.p.length-i/\_ from⟨aa,aa,o⟩)]at f;subst f;rw[Wj o,Wg (show¬k+1=0 by omega),show m+k+1-(k+1)=m by omega,show i+1+k=i+(k+1) by omega]
 rw[Wg (λg=>o g.2.2)]at f;rw[Wg o,no f.symm]
def Xaa{c:Uj}{ps:List WJ}{i:Nat}(f:i<ps.length){p:WJ}:Yf c ps i p<=ps.length-i/\Yf c ps i p<=4:=by
 have g:=JJ c p.u;unfold Yf;split
 .split<;>omega
 split
 .split
  .split<;>omega
  split
  .split
   .rename_i e;have:=e.2.1;omega
   omega
  omega
 omega
def XdU{N:Nat}{h:Wp}(o:X5 h.c=true)(g:h.p.length<=100000)(hN:1000000<N):∀(m i n e:Nat),i<=h.p.length->h.p.length-i<=m->h.p.length-i<n->h.p.length-i+10<=e->Qac N h n (i:Int)=QaB N h e 0 (i:Int)
 |m,i,0,e,_,_,q,_=>by omega
 |m,i,n+1,e,r,t,q,u=>by
  by_cases f:i<h.p.length
  .rw[Qac,Wi aa,Wc,Ku g hN f,Xa,XkS o g hN f e aa];have y:=Xaa (c:=h.c) f (p:=h.p[i]);generalize Yf h.c h.p i h.p[i]=s at *;by_cases j:s=0
   .subst j;rw[Wj rfl];rfl
   rw[Wg j,show((s:Int)==0)=false by simpa using j,Wa,Xf aa aa,show(i:Int)+(s:Int)=((i+s:Nat):Int) by omega];obtain⟨l,rfl⟩:∃l,m=l+1:=⟨m-1,aa⟩
   exact XdU o g hN l (i+s) n (e-s) aa aa aa aa
  rw[Qac,Wh aa,Wa];obtain⟨k,rfl⟩:∃k,e=k+1:=⟨e-1,aa⟩
  rw[QaB,Wh aa,Wa]
def YU{N:Nat}{h:Wp}(l:h.p.length<=100000)(hN:1000000<N):Qcx N h=Qab N h:=by
 rw[Qcx,Qab,KI,YQ];simp only[Xa,Xr];cases o:X5 h.c with
 |false=>rfl
 |true=>
 simp only[Wl,Wa,Int.mul_comm h.c.W h.c.p];have e:=XdU o l hN h.p.length 0 N N aa aa aa aa;rw[show((0:Nat):Int)=0 from rfl]at e;rw[e];congr 2;by_cases f:h.s=0
 .simp[f]
 rw[show(h.s != 0)=true by simpa using f,Wc];by_cases g:h.s=1
 .simp[g]
 rw[show(h.s != 1)=true by simpa using g,Wc];by_cases j:h.s<0
 .simp[j]
 rw[X0 j,Wa,Wi (show h.s>1 by omega),Wc]
end Go.Sx

namespace Go.Sx
section
variable {N:Nat}
def XcT{w:Int}(hw:tU w):Xb3 w=⟨w / 4 % 4,w / 16 % 4096,w / 65536 % 4294967296⟩:=by obtain⟨e,f⟩:=hw;unfold Xb3;rw[show Y5 .u64 w 2=w / 4 from ZN w 2 aa e,show Y5 .u64 w 4=w / 16 from ZN w 4 aa e,show Y5 .u64 w 16=w / 65536 from ZN w 16 aa e];rw[show ZI .u64 (w / 4) 3=w / 4 % 4 from ZT (w / 4) 2 aa aa aa,show ZI .u64 (w / 16) 4095=w / 16 % 4096 from ZT (w / 16) 12 aa aa aa];rw[Xf aa aa,Xf aa aa,Xms]
def Xm3{w:Int}(hw:tU w):okH w=(XM (Xb3 w)&&(decide (w / 281474976710656=0)&&decide (w % 4=1))):=by
 obtain⟨f,g⟩:=hw;unfold okH;cases j:XM (Xb3 w)with
 |false=>rfl
 |true=>
  rw[WI,WI];have hb:=XO j;rw[XcT ⟨f,g⟩]at hb;have hb:0<=w / 4 % 4/\w / 4 % 4<=3/\0<=w / 16 % 4096/\w / 16 % 4096<=255:=hb;have e:Kz (Xb3 w)=1+4*(w / 4 % 4)+16*(w / 16 % 4096)+w / 65536 % 4294967296*65536:=by rw[XcT ⟨f,g⟩];unfold Kz;have s:∀x:Int,JT .u64 x 16=wU (x*65536):=λ_=>rfl;simp only[s];simp only[Xdr];omega
  rw[e];by_cases a:w / 281474976710656=0/\w % 4=1
  .rw[Wi a.1,Wi a.2];simp only[Bool.and_self,beq_iff_eq];omega
  have:(decide (w / 281474976710656=0)&&decide (w % 4=1))=false:=by rw[Bool.eq_false_iff];intro h;simp only[Wr,decide_eq_true_eq]at h;exact a h
  rw[this];simp only[IG,ne_eq];omega
def XsG:Xd [(2:Int),2,12,32] 0=some 2:=by unfold Xd;rfl
def XsH:Xd [(2:Int),2,12,32] 1=some 2:=by unfold Xd;rfl
def XsI:Xd [(2:Int),2,12,32] 2=some 12:=by unfold Xd;rfl
def XsJ:Xd [(2:Int),2,12,32] 3=some 32:=by unfold Xd;rfl
def Xiw(hN:1000000<N){v:Int}(f:0<=v)(o:v<=18446744073709551615):Qgq N v [2,2,12,32]=some (if v / 281474976710656=0 then([v % 4,v / 4 % 4,v / 16 % 4096,v / 65536 % 4294967296],0)else([],2)):=by
 obtain⟨m,rfl⟩:∃m,N=m+5:=⟨N-5,aa⟩
 have e:([(2:Int),2,12,32].length:Nat)=4:=rfl;have i1:wI (0+1)=1:=Xf aa aa;have i2:wI (1+1)=2:=Xf aa aa;have g:wI (2+1)=3:=Xf aa aa;have j:wI (3+1)=4:=Xf aa aa;have p:wI (64-2)=62:=Xf aa aa;have q:wI (62-2)=60:=Xf aa aa;have r:wI (60-12)=48:=Xf aa aa;have s:wI (48-32)=16:=Xf aa aa;have t:QbT (m+5) v [2,2,12,32] (m+5) 64 0=some (.nxt ()):=by rw[QbT,e,XsG];simp only[Xa,i1,p];rw[QbT,e,XsH];simp only[Xa,i2,q];rw[QbT,e,XsI];simp only[Xa,g,r];rw[QbT,e,XsJ];simp only[Xa,j,s];rw[QbT,e];rfl
 have l:QeN (m+5) 2=some 3:=XcS aa aa aa;have u:QeN (m+5) 12=some 4095:=XcS aa aa aa;have y:QeN (m+5) 32=some 4294967295:=XcS aa aa aa;have z:Y5 .u64 v 2=v / 4:=ZN v 2 aa f;have A:Y5 .u64 (v / 4) 2=v / 4 / 4:=ZN (v / 4) 2 aa aa;have s3:Y5 .u64 (v / 4 / 4) 12=v / 4 / 4 / 4096:=ZN (v / 4 / 4) 12 aa aa;have s4:Y5 .u64 (v / 4 / 4 / 4096) 32=v / 4 / 4 / 4096 / 4294967296:=ZN (v / 4 / 4 / 4096) 32 aa aa;have B:ZI .u64 v 3=v % 4:=ZT v 2 aa f o;have D:ZI .u64 (v / 4) 3=v / 4 % 4:=ZT (v / 4) 2 aa aa aa;have E:ZI .u64 (v / 4 / 4) 4095=v / 4 / 4 % 4096:=ZT (v / 4 / 4) 12 aa aa aa;have G:ZI .u64 (v / 4 / 4 / 4096) 4294967295=v / 4 / 4 / 4096 % 4294967296:=ZT (v / 4 / 4 / 4096) 32 aa aa aa;have H:QbU (m+5) [2,2,12,32] (m+5) v 0 []=some (v / 4 / 4 / 4096 / 4294967296,[v % 4,v / 4 % 4,v / 4 / 4 % 4096,v / 4 / 4 / 4096 % 4294967296]):=by rw[QbU,e,XsG];rw[Wi aa,Wc,Xa,l,Xa,Xe ab,Xe aa,z,B,i1];rw[QbU,e,XsH];rw[Wi aa,Wc,Xa,l,Xa,Xe ab,Xe aa,A,D,i2];rw[QbU,e,XsI];rw[Wi aa,Wc,Xa,u,Xa,Xe ab,Xe aa,s3,E,g];rw[QbU,e,XsJ];rw[Wi aa,Wc,Xa,y,Xa,Xe ab,Xe aa,s4,G,j];rw[QbU,e];rw[Wh aa,Wa];rfl
 rw[Qgq,t,Xa,Xo,H,Xa];have I:v / 4 / 4=v / 16:=aa;have J:v / 16 / 4096=v / 65536:=aa;have K:v / 65536 / 4294967296=v / 281474976710656:=aa;rw[I,J,K];by_cases h:v / 281474976710656=0
 .rw[Wj h,h];rfl
 rw[Wg h,Xn h,Wc]
def Xm4(hN:1000000<N){w:Int}(hw:tU w):Qft N w=some (Z0 w,okH w):=by
 obtain⟨e,f⟩:=hw;rw[Qft,Xiw hN e f,Xa];unfold Z0;rw[Xm3 ⟨e,f⟩];by_cases h:w / 281474976710656=0
 .have j:Xd [w % 4,w / 4 % 4,w / 16 % 4096,w / 65536 % 4294967296] 0=some (w % 4):=by unfold Xd;rfl
  have g1:Xd [w % 4,w / 4 % 4,w / 16 % 4096,w / 65536 % 4294967296] 1=some (w / 4 % 4):=by unfold Xd;rfl
  have g2:Xd [w % 4,w / 4 % 4,w / 16 % 4096,w / 65536 % 4294967296] 2=some (w / 16 % 4096):=by unfold Xd;rfl
  have g3:Xd [w % 4,w / 4 % 4,w / 16 % 4096,w / 65536 % 4294967296] 3=some (w / 65536 % 4294967296):=by unfold Xd;rfl
  rw[Wj h];simp only[j,g1,g2,g3,Xa,show((0:Int) != 0)=false from rfl,Wa,Xf (n:=w / 4 % 4) aa aa,Xf (n:=w / 16 % 4096) aa aa,XqC (n:=w / 65536 % 4294967296) aa aa];rw[VC aa,Xa,←XcT ⟨e,f⟩,Wi h,WI];by_cases g:w % 4=1
  .rw[g,show((1:Int) != 1)=false from rfl,Wa,Wi rfl,OA];cases XM (Xb3 w)<;>rfl
  rw[show(w % 4 != 1)=true by simpa using g,Wc,Wh g,Bool.and_false];rfl
 rw[Wg h,Wh h,Uh,Bool.and_false];rfl
def Xe2{ws:List Int}(f:ws.length<=1000000){a:Int}(g:a<=18446744073709551615)(n:Int):QfE N ws a n=QdA N ws a n:=by
 rw[QfE,QdA];by_cases e:a<4096
 .rw[Wi e,Wc,Wc]
 rw[X0 e,Wa,Wa,Xz (n:=a-4096) aa aa,Xz (n:=(ws.length:Int)) aa aa,Xz (n:=4096+(ws.length:Int)) aa aa];rw[show decide (a-4096>(ws.length:Int))=decide (a>4096+(ws.length:Int))from decide_eq_decide.2 aa]
def Xhk{ws:List Int}(e:ws.length<=1000000){a:Int}(f:a<=18446744073709551615):Qga N ws a=Qbn N ws a:=by rw[Qga,Qbn,QgZ,Qfz,Xe2 e f]
def Xhl{ws:List Int}(f:ws.length<=1000000){a:Int}(h:a<=18446744073709551615)(n:Int):Qgb N ws a n=QcY N ws a n:=by
 rw[Qgb,QcY,Xe2 f h];by_cases e:n<0
 .rw[Wi e,Wc,Wc]
 rw[X0 e,Wa,Wa];congr 1;funext y;cases y.2 with
 |false=>rfl
 |true=>
  simp only[Wl,Wa,QcG,Xa];unfold grd;by_cases g:0<=y.1/\y.1<=wI (y.1+n)/\wI (y.1+n)<=(ws.length:Int)
  .rw[Wj g,Wj g,Wj aa]
  rw[Wg g,Wg g]
structure HT(h:Wp):Prop where
 hb:HB h
 tw:XY h
def HT.word{h:Wp}(t:HT h){i w:Int}(e:Xd h.w i=some w):tU w:=by have:=t.tw;exact this w (YI e)
def XdV(hN:NB N){h:Wp}(ht:HT h){a:Int}(y:tU a):QeO N h a=Qax N h a:=by
 have f:1000000<N:=by unfold NB at hN;omega
 have hb:=ht.hb;unfold HB at hb;rw[QeO,Qax,YU aa f];obtain⟨b,eb,o⟩:=Y2 (N:=N) aa (h:=h) aa aa;rw[eb,Xa,Xa];cases b with
 |false=>rfl
 |true=>
 have hp:=o rfl;rw[Wl,Wa,Wa,Xm0 _ _ _ y.2,VK,Wg (by rw[hp.conf];simp)];by_cases j:4096<=a/\a<4096+h.c.p*h.c.W;case neg=>rw[Wg j,Xa,Xa];rfl
 rw[Wj j,Xa,Xa];simp only[show((0:Int) != 0)=false from rfl,Wa];have po:=XfK hp.conf j.1 j.2;have B:=hp.pages;generalize (a-4096) / h.c.W=pn at *;generalize (a-4096) % h.c.W=e at *;have r:=hp.pgs pn aa aa;have g:=r.small;rw[XQ aa aa,Xa,Xa];generalize pg h.p pn=p at g⊢;rw[Qgu,Xhk aa y.2];have D:=Xi.1 hp.conf;have E:=XV hp.conf (i:=0) aa aa;have t:∃w,Qbn N h.w a=some (w,0)/\tU w:=by rw[Qbn,Qfz,QdA,X0 (show¬a<4096 by omega),Wa,Xz (n:=(h.w.length:Int)) aa aa,Xz (n:=4096+(h.w.length:Int)) aa aa,X0 (show¬a>4096+(h.w.length:Int) by have:=hp.words;omega),Wa,Xz (n:=a-4096) aa aa,Xf (n:=a-4096) aa aa,Xf aa aa,Xa];rw[Wi (show 1<=(h.w.length:Int)-(a-4096) by have:=hp.words;omega),Wl,Wa,Xa];simp only[show((0:Int) != 0)=false from rfl,Wa];have A:=X7 (l:=h.w) (i:=a-4096) aa (by have:=hp.words;omega);exact⟨_,by rw[A,Xa],ht.word A⟩
 obtain⟨w,t,tw⟩:=t;rw[t,Xa,Xa,Xa,Xm4 f tw,K9,Xa,Xa];simp only[Vi (show 1000<N by omega),Yr,Xa,Xr];have H:=XeK w;generalize Z0 w=d at *;generalize Xy d=s at *;cases okH w with
 |false=>simp only[WY,Wc,OC]
 |true=>
  simp only[Wl,Wa];by_cases k1:p.k=1
  .have k2:(p.k==2)=false:=by rw[k1];rfl
   simp only[show(p.k != 1)=false by simpa using k1,show(p.k==1)=true by simpa using k1,k2,Wc,Wa];by_cases u:e>=p.u
   .rw[Wi u,Wc,Wc];rfl
   rw[X0 u,Wa,Wa];have G:e<=64:=aa;by_cases z:wI (e+s)>p.u
   .rw[Wi z,Wc];rw[Xf (n:=e+s) aa aa]at z;have:¬s<=wI (p.u-e):=by rw[Xf aa aa];omega
    rw[X0 this];rfl
   rw[X0 z,Wa];rw[Xf (n:=e+s) aa aa]at z;have:=g k1;rw[Xf (n:=p.u-e) aa aa,Wi aa];rfl
  rw[show(p.k != 1)=true by simpa using k1,show(p.k==1)=false by simpa using k1];simp only[Wc,Wa];by_cases k2:p.k=2
  .simp only[show(p.k != 2)=false by simpa using k2,show(p.k==2)=true by simpa using k2,Wc,Wa];by_cases u:e>=p.u
   .rw[Wi u,Wc,Wc];rfl
   rw[X0 u,Wa,Wa];by_cases z:e=0
   .rw[show(e==0)=true by simpa using z,show(e != 0)=false by simpa using z,Wc,Wa];by_cases q:s=p.u
    .rw[show(s==p.u)=true by simpa using q,show(s != p.u)=false by simpa using q];rfl
    rw[show(s==p.u)=false by simpa using q,show(s != p.u)=true by simpa using q];rfl
   rw[show(e==0)=false by simpa using z,show(e != 0)=true by simpa using z];rfl
  simp only[show(p.k != 2)=true by simpa using k2,show(p.k==2)=false by simpa using k2,Wc,Wa,WY,OC]
end
section
variable {N:Nat}
def fnd(h:Wp)(a:Int):U8:=⟨a,hdA h.w a⟩
def Xhm(l:List U8)(f:l.length<=1000000):∀(n k:Nat) (v:List Int),k<=l.length->l.length-k<n->v.length=k->Qda N l n (k:Int) v=some (v++(l.drop k).map (·.addr))
 |0,k,v,_,h,_=>by omega
 |n+1,k,v,j,o,g=>by
  rw[Qda];by_cases e:k<l.length
  .rw[Wi aa,Wc,Xc,Wb e,Xa,Xe aa,Xg aa,Xhm l f n (k+1) _ aa aa (by simp[g]),Wm e,W0,UA];rfl
  rw[Wh aa,Wa,WN aa];simp
def XdW(l:List U8)(e:l.length<=1000000)(hN:1000000<N):Qcj N l=some (l.map (·.addr)):=by rw[Qcj,show(0:Int)=((0:Nat):Int)from rfl,Xhm l e N 0 [] aa aa rfl,Xa];simp
def XpA(h:Wp)(l:List Int):(l.map (fnd h)).map (·.addr)=l:=by rw[List.map_map];exact List.map_id'' (λ_=>rfl) l
def XtP(h:Wp):Ex (List Int×Int) (List Int)->List U8×Int
 |.ret r=>([],19)
 |.nxt l=>(l.map (fnd h),0)
def Xe3(hN:NB N){h:Wp}(ht:HT h)(hp:UP h){i:Int}(E:0<=i)(H:i<h.p.length)(f:(pg h.p i).k=1\/(pg h.p i).k=2):∀(n:Nat) (o:Int) (l:List Int),0<=o->(66-o).toNat<n->(l.length:Int)<=o->((pg h.p i).k=1->o<=64)->((pg h.p i).k=2->o=0) ->
 ∃e,Qau N h i (pg h.p i) n o l=some e/\QbV N h i (pg h.p i) n o (l.map (fnd h))=some (XtP h e)/\(∀r,e=.ret r->r=([],19))
 |0,o,l,I,K,L,k1,k2=>by
  rcases f with f|f
  .have:=k1 f;omega
  have:=k2 f;omega
 |n+1,o,l,I,K,L,k1,k2=>by
  have M:1000000<N:=by unfold NB at hN;omega
  have V:=Xi.1 hp.conf;have O:=hp.pages;have t:=(hp.pgs i E H).small;have J:o<=64:=by rcases f with f|f;exact k1 f;have:=k2 f;omega
  rw[Qau,QbV];by_cases z:o<(pg h.p i).u;case neg=>rw[X0 z,Wa,Wa];exact⟨_,rfl,rfl,λr e=>by cases e⟩
  have A:o<h.c.W:=by
   rcases f with f|f
   .have:=t f;omega
   have:=k2 f;omega
  rw[Wi z,Wc,Wc,Xhi,KK,hp.conf,Xa,Xa,Wg ab,Wj aa];dsimp only;have Q:=XV hp.conf (i:=i) E aa;have R:tU (Xb h.c i o):=by unfold Xb;exact⟨aa,aa⟩
  rw[show((0:Int)==0)=true from rfl,Wc,XdV hN ht R];obtain⟨y,S,T⟩:=Xdx hN ht.hb (Xb h.c i o);rw[S,Xa,Xa];by_cases g:y.2=0;case neg=>
   rw[show(y.2 != 0)=true by simpa using g,show(y.2==0)=false by simpa using g,Wc,Wa]
   exact⟨_,rfl,rfl,λr e=>by cases e;rfl⟩
  obtain⟨_,_,B,G⟩:=T g;have D:=XJ h.w (Xb h.c i o);have j:=Yu hp.conf (p:=i) I A;rw[show(y.2 != 0)=false by simpa using g,show(y.2==0)=true by simpa using g,Wc,Wa,G,Xe aa];rw[Vi aa,Xa,D.1,Xe (by rw[UK];omega)];rw[show U8.mk (Xb h.c i o) (hdA h.w (Xb h.c i o))=fnd h (Xb h.c i o)from rfl];have U:l.map (fnd h)++[fnd h (Xb h.c i o)]=(l++[Xb h.c i o]).map (fnd h):=by simp
  rw[U];rcases f with f|f
  .have Y:=t f;rw[show((pg h.p i).k==2)=false by rw[f];rfl,Wa,Yr,Xa,D.1];have q:=B.small;rw[j.1,j.2]at q;have:=q f;rw[Xf (n:=o+szA h.w (Xb h.c i o)) aa aa];exact Xe3 hN ht hp E H (.inl f) n _ _ aa aa ah (λ_=>aa) (λk=>aa)
  rw[show((pg h.p i).k==2)=true by rw[f];rfl,Wc];have s:=B.large;rw[j.1,j.2]at s;have:=s f;refine⟨_,rfl,?_,λr e=>by cases e⟩;rw[Xf (n:=o+szA h.w (Xb h.c i o)) aa aa];obtain⟨m,rfl⟩:∃m,n=m+1:=⟨n-1,aa⟩
  rw[QbV,X0 aa,Wa];rfl
def XL{h:Wp}(hN:NB N)(hb:HB h)(ep:Qab N h=some true):UP h:=by obtain⟨b,eb,e⟩:=Y2 (N:=N) (by unfold NB at hN;omega) hb.1 hb.2;rw[ep]at eb;cases eb;exact e rfl
def XaG(hN:NB N){h:Wp}(hb:HB h):∃b,Qab N h=some b:=by obtain⟨b,eb,_⟩:=Y2 (N:=N) (by unfold NB at hN;omega) hb.1 hb.2;exact⟨b,eb⟩
def XdX(hN:NB N){h:Wp}(ht:HT h)(ep:Qab N h=some true){i:Int}(f:0<=i)(g:i<h.p.length):∃r,Qal N h i=some r/\QfF N h i=some (r.1.map (fnd h),r.2)/\(r.2≠0->r=([],19)):=by
 have hb:=ht.hb;have hp:=XL hN hb ep;rw[Qal,QfF,ep,Xa,XQ f g,Xa,Xa,Wl,Wa,X0 (show¬i<0 by omega),Wa,X0 (show¬i>=_ by omega),Wa];have o:=(hp.pgs i f g).kind;have main:((pg h.p i).k=1\/(pg h.p i).k=2)->∃r,(bnd (Qau N h i (pg h.p i) N 0 []) λe=>exK e (λr=>some r) λq=>some (q,0))=some r/\QbV N h i (pg h.p i) N 0 []=some (r.1.map (fnd h),r.2)/\(r.2≠0->r=([],19)):=by
  intro s;obtain⟨e,t,j,e3⟩:=Xe3 hN ht hp f g s N 0 [] aa (by unfold NB at hN;omega) ab (λ_=>aa) (λ_=>rfl);rw[t,Xa];rw[U9]at j;rw[j];cases e with
  |ret r=>rw[e3 r rfl];rw[Xs];exact⟨_,rfl,rfl,λ_=>rfl⟩
  |nxt l=>rw[Xo];exact⟨_,rfl,rfl,λh=>absurd rfl h⟩
 by_cases k1:(pg h.p i).k=1
 .have:=main (.inl k1);rw[show((pg h.p i).k==0)=false by rw[k1];rfl,show((pg h.p i).k==3)=false by rw[k1];rfl,show((pg h.p i).k != 1)=false by rw[k1];rfl];exact this
 by_cases k2:(pg h.p i).k=2
 .have:=main (.inr k2);rw[show((pg h.p i).k==0)=false by rw[k2];rfl,show((pg h.p i).k==3)=false by rw[k2];rfl,show((pg h.p i).k != 1)=true by rw[k2];rfl,show((pg h.p i).k != 2)=false by rw[k2];rfl];exact this
 rw[show((pg h.p i).k != 1)=true by simpa using k1,show((pg h.p i).k != 2)=true by simpa using k2];simp only[Wc];refine⟨([],0),?_,rfl,λh=>absurd rfl h⟩;by_cases k0:(pg h.p i).k=0
 .rw[show((pg h.p i).k==0)=true by simpa using k0,Wc]
 rw[show((pg h.p i).k==0)=false by simpa using k0,show((pg h.p i).k==3)=true by simp;omega];rfl
def QmS(hN:NB N){h:Wp}(hb:HB h)(i:Int){r:List Int×Int}(e:Qal N h i=some r):r.1.length<=64:=by have:=(Qk8 hN hb i).get_eq e;exact this.2.1
def Xhn(hN:NB N){h:Wp}(ht:HT h)(i:Int):QfY N h i=Qal N h i:=by
 have hb:=ht.hb;rw[QfY,YU (by have:=hb.2;omega) (by unfold NB at hN;omega)];obtain⟨b,eb⟩:=XaG (N:=N) hN hb;rw[eb,Xa];cases b with
 |false=>rw[Qal,eb,Xa];rfl
 |true=>
 by_cases e:i<0
 .rw[Qal,eb,Xa,Wi e];rfl
 by_cases f:i>=h.p.length
 .rw[Qal,eb,Xa,X0 e,Wi f];rfl
 obtain⟨r,g,j,e3⟩:=XdX hN ht eb (i:=i) aa aa;rw[Wl,Wa,X0 e,Wa,X0 f,Wa,j,Xa,g];have l:=QmS hN hb i g;by_cases z:r.2=0
 .dsimp only;rw[show(r.2 != 0)=false by simpa using z,Wa,XdW _ (by rw[UK];omega) (by unfold NB at hN;omega),Xa,XpA];congr 1;exact Prod.ext rfl z.symm
 dsimp only;rw[show(r.2 != 0)=true by simpa using z,Wc,e3 z]
def XjD(hN:NB N){h:Wp}(ht:HT h)(ep:Qab N h=some true):∀(n k:Nat) (l:List Int),k<=h.p.length->h.p.length-k<n->l.length<=64*k ->
 ∃e,QaP N h n (k:Int) l=some e/\QfH N h n (k:Int) (l.map (fnd h))=some (match e with|.ret r=>.ret (r.1.map (fnd h),r.2)|.nxt l=>.nxt (l.map (fnd h)))/\(∀r,e=.ret r->r=([],19))/\(∀f,e=.nxt f->f.length<=64*h.p.length)
 |0,k,l,_,h,_=>by omega
 |n+1,k,l,s,t,u=>by
  have hb:=ht.hb;have j:=hb.2;rw[QaP,QfH];by_cases o:k<h.p.length;case neg=>rw[Wh (show¬(k:Int)<_ by omega),Wa,Wa];refine⟨_,rfl,rfl,?_,?_⟩<;>intro r e<;>cases e;omega
  rw[Wi (show(k:Int)<_ by omega),Wc,Wc];obtain⟨r,g,q,e3⟩:=XdX hN ht ep (i:=(k:Int)) aa aa;rw[g,q,Xa,Xa];have y:=QmS hN hb (k:Int) g;dsimp only;by_cases z:r.2=0
  .rw[show(r.2 != 0)=false by simpa using z,Wa,Wa,Xe aa,Xe (by simp only[UK];omega),Xg aa,←UV];exact XjD hN ht ep n (k+1) _ aa aa (by rw[Wu];omega)
  rw[show(r.2 != 0)=true by simpa using z,Wc,Wc,e3 z];refine⟨_,rfl,rfl,?_,?_⟩<;>intro r e<;>cases e;rfl
def XpB(hN:NB N){h:Wp}(ht:HT h):∃r,Qb4 N h=some r/\Qhh N h=some (r.1.map (fnd h),r.2)/\(r.2≠0->r.1=[])/\r.1.length<=6400000:=by
 have hb:=ht.hb;have g:=hb.2;rw[Qb4,Qhh,YU aa (by unfold NB at hN;omega)];obtain⟨b,eb⟩:=XaG (N:=N) hN hb;rw[eb,Xa,Xa];cases b with
 |false=>exact⟨_,rfl,rfl,λ_=>rfl,ab⟩
 |true=>
 rw[Wl,Wa,Wa];obtain⟨e,j,f,e3,e4⟩:=XjD hN ht eb N 0 [] aa (by unfold NB at hN;omega) ab;rw[U9]at f;rw[show(0:Int)=((0:Nat):Int)from rfl,j,f,Xa,Xa];cases e with
 |ret r=>rw[Xs];dsimp only;rw[Xs,e3 r rfl];exact⟨_,rfl,rfl,λ_=>rfl,ab⟩
 |nxt l=>have:=e4 l rfl;rw[Xo];dsimp only;rw[Xo];exact⟨_,rfl,rfl,λh=>absurd rfl h,by dsimp only;omega⟩
end
section
variable {N:Nat}
def Kv(f:U8):Bool:=!(f.hd.k==0)
def Y7(h:Wp)(l:List Int):List Int:=l.filter λa=>Kv (fnd h a)
def Xix(e:List U8)(s:e.length<=1000000):∀(n i j:Nat) (v:List U8),i<=j->j<=e.length->e.length-j<n->v.length=e.length->v.drop j=e.drop j ->
 ∃(f:Nat) (g:List U8),Qcp N n (i:Int) (j:Int) v=some ((f:Int),g)/\g.length=e.length/\f<=e.length/\g.take f=v.take i++(e.drop j).filter Kv
 |0,i,j,v,_,_,h,_,_=>by omega
 |n+1,i,j,v,u,A,B,p,hd=>by
  rw[Qcp,Xe aa];by_cases q:j<e.length;case neg=>
   rw[Wh aa,Wa]
   refine⟨i,v,rfl,p,aa,?_⟩
   rw[WN aa];simp
  have r:v[j]'aa=e[j]:=by have a:=Wm (l:=v) (i:=j) aa;have b:=Wm (l:=e) (i:=j) aa;rw[hd,b]at a;exact(IC a).1.symm
  have o:v.drop (j+1)=e.drop (j+1):=by have a:=Wm (l:=v) (i:=j) aa;have b:=Wm (l:=e) (i:=j) aa;rw[hd,b]at a;exact(IC a).2.symm
  rw[Wi aa,Wc,Xc,Wb aa,Xa,Qel,Xa,r,Wm q];cases t:(e[j].hd.k==0)with
  |true=>rw[Wl,Wa,Xg aa,UL (by unfold Kv;rw[t];simp)];exact Xix e s n i (j+1) v aa aa aa p o
  |false=>rw[WY,Wc,Xc,Wb aa,Xa,Xg aa,Xg aa,UH (by unfold Kv;rw[t];rfl)];rw[show((i:Int)).toNat=i from rfl];obtain⟨f,g,y,z,e3,e4⟩:=Xix e s n (i+1) (j+1) (v.set i e[j]) aa aa aa (by rw[Ww];exact p) (by rw[UZ aa];exact o);refine⟨f,g,y,z,e3,?_⟩;rw[e4,List.take_succ,Ip aa,IH (Uu _)];simp
def XpC(l:List U8)(g:l.length<=1000000)(hN:1000000<N):Qah N l=some (Zj (λf=>f.hd.k==0) l):=by
 rw[Qah];exact JE (p:=λf:U8=>f.hd.k==0) g hN (λn k x e=>by
  have h:=Xq e
  rw[Qag,Xm h,Wc,Xc,e,Xa,Qel,Xa,Xg aa]) (λn=>by rw[Qag,Xv,Wa])
def XkT(l:List U8)(o:l.length<=1000000)(hN:1000000<N):(bnd (Qah N l) λp=>
 bif (p==(-1))then(bnd (Qcj N l) λq=>
  some (q,(0:Int)))
 else bnd (Qcp N N p (wI (p+1)) l) λe=>
 grd (0<=e.1/\e.1<=(e.2.length:Int)/\(e.2.length:Int)<=(e.2.length:Int)) <|
 grd (0<=e.1/\e.1<=(((((min e.1.toNat e.2.length)+(e.2.length-e.1.toNat))+(e.2.length-(e.1.toNat+(e.2.length-e.1.toNat)))):Nat):Int)) <|
 bnd (Qcj N ((((e.2.take e.1.toNat)++(List.replicate (e.2.length-e.1.toNat) (U8.mk 0 (WH.mk 0 0 0))))++(e.2.drop (e.1.toNat+(e.2.length-e.1.toNat)))).take e.1.toNat)) λr=>
 some (r,0))=some ((l.filter Kv).map (·.addr),0):=by
 rw[XpC l o hN,Xa];unfold Zj;cases s:l.findIdx? (λf=>f.hd.k==0)with
 |none=>
  have g:l.filter Kv=l:=by rw[List.findIdx?_eq_none_iff]at s;rw[IF];intro x t;unfold Kv;rw[s x t];rfl
  dsimp only;rw[show((-1:Int)==-1)=true from rfl,Wc,XdW l o hN,Xa,g]
 |some j=>
  obtain⟨u,hp,hb⟩:=U0.1 s;dsimp only;rw[show((j:Int)==-1)=false by simp,Wa,Xg aa];obtain⟨i',h,y,D,e3,e4⟩:=Xix (N:=N) l o N j (j+1) l aa aa aa rfl rfl;rw[y,Xa];dsimp only;rw[Xe aa,Xe aa,show((i':Int)).toNat=i' from rfl];have et:(((h.take i')++(List.replicate (h.length-i') (U8.mk 0 (WH.mk 0 0 0))))++(h.drop (i'+(h.length-i')))).take i'=h.take i':=by rw[W0,IN (by rw[Wx];omega),List.take_take,UX]
  have z:l.filter Kv=l.take j++(l.drop (j+1)).filter Kv:=by
   conv=>lhs;rw[←Ig j l,Oe,Wm u,UL (by unfold Kv;rw[hp];simp)]
   congr 1;rw[IF];intro x t;obtain⟨k,A,rfl⟩:=Wv t;rw[Wx]at A;rw[ID];have:=hb k aa;unfold Kv;simpa using this
  rw[et,e4,←z];have B:(l.filter Kv).length<=l.length:=List.length_filter_le _ _;rw[XdW _ aa hN,Xa]
def XbJ{h:Wp}(y:List Int×Int)(j:y.1.length<=1000000)(e:∀a∈y.1,Qax N h a=some (hdA h.w a,0)):∀(n k:Nat) (v:List Int),k<=y.1.length->y.1.length-k<n->v.length<=k ->
 QaT N h y n (k:Int) v=some (v++Y7 h (y.1.drop k))
 |0,k,v,_,l,_=>by omega
 |n+1,k,v,g,l,o=>by
  rw[QaT];by_cases f:k<y.1.length
  .rw[Wi aa,Wc,Xc,Wb f,Xa,e _ (Wt f),Xa,Xg aa,Wm f,Y7];dsimp only;by_cases g:(hdA h.w y.1[k]).k=0
   .rw[show((hdA h.w y.1[k]).k != 0)=false by simpa using g,Wa,XbJ y j e n (k+1) v aa aa aa,UL (by simp[Kv,fnd,g])];rfl
   rw[show((hdA h.w y.1[k]).k != 0)=true by simpa using g,Wc,Xa,Xe aa,XbJ y j e n (k+1) _ aa aa (by rw[Wu];simp;omega),UH (by simp[Kv,fnd,g])];simp[Y7]
  rw[Wh aa,Wa,WN aa];simp[Y7]
def Xab(hN:NB N){h:Wp}(ht:HT h):Qep N h=Qaj N h:=by
 have e:1000000<N:=by unfold NB at hN;omega
 obtain⟨r,f,l,e3,_⟩:=XpB hN ht;obtain⟨g,hp,_⟩:=(Xav hN ht.hb).get_eq f;have j:=g.len;rw[Qep,Qaj,f,l,Xa,Xa];dsimp only;rw[show(0:Int)=((0:Nat):Int)from rfl,XbJ r aa g.obj.ev N 0 [] aa aa ab,Xa,WL,Um];by_cases z:r.2=0
 .rw[show(r.2 != ((0:Nat):Int))=false by simpa using z,Wa];have:=XkT (N:=N) (r.1.map (fnd h)) (by rw[UK];omega) e;rw[show((0:Nat):Int)=0 from rfl,this,z];congr 2;rw[List.filter_map,List.map_map];unfold Y7;exact List.map_id'' (λ_=>rfl) _
 rw[show(r.2 != ((0:Nat):Int))=true by simpa using z,Wc,e3 z];rfl
end
section
variable {N:Nat}
def exM{α β γ:Type}(f:α->γ):Ex α β->Ex γ β
 |.ret a=>.ret (f a)
 |.nxt b=>.nxt b
def I5.tu{h:Wp}(hp:UP h){a:Int}(e:I5 h a):tU a:=by have:=e.rng;have:=XV hp.conf (i:=0) aa (by have:=Xi.1 hp.conf;omega);exact⟨aa,aa⟩
def Xe4(hN:NB N){h:Wp}(ht:HT h)(hp:UP h){i:Int}(r:0<=i)(s:i<h.p.length)(l:List Int)(t:l.length<=4096)(f:∀a∈l,I5 h a)(g:∀a∈l,Qax N h a=some (hdA h.w a,0)):∀(n k:Nat),k<=l.length->l.length-k<n ->
 ∃e,QaQ N h i l n (k:Int)=some e/\Qck N h i l n (k:Int)=some (exM (λa=>(a,true)) e)/\∀a,e=.ret a->a∈l
 |0,k,_,u=>by omega
 |n+1,k,y,u=>by
  rw[QaQ,Qck];by_cases j:k<l.length;case neg=>rw[Wh aa,Wa,Wa];exact⟨_,rfl,rfl,λa e=>by cases e⟩
  have o:=Wt j;have q:1000<N:=by unfold NB at hN;omega
  have nx:=Xe4 hN ht hp r s l t f g n (k+1) aa aa;simp only[Wi (show(k:Int)<(l.length:Int) by omega),Wc,Xc,Wb j,Xa,XdV hN ht ((f _ o).tu hp),g _ o,Vi q,Yr,XmY,XgQ,XQ r s,Xg (show k<=140737488355328 by omega)];cases ((pg h.p i).k==1)<;>cases ((pg h.p i).k==2)<;>cases (decide (Xy (hdA h.w l[k])<=smC h.c))<;>cases ((hdA h.w l[k]).k==0);all_goals simp only[Wc,Wa,Wl,WY]
  all_goals first
   |exact nx
   |exact⟨_,rfl,rfl,λa e=>by cases e;exact o⟩
def XkU(hN:NB N){h:Wp}(ht:HT h)(hp:UP h){i:Int}(j:0<=i)(o:i<h.p.length)(l:List Int)(q:l.length<=4096)(f:∀a∈l,I5 h a)(g:∀a∈l,Qax N h a=some (hdA h.w a,0)):
 ∃a,Qea N h i l=some a/\∃b,QfG N h i l=some (b,a != 0):=by
 obtain⟨e,r,s,e3⟩:=Xe4 hN ht hp j o l q f g N 0 aa (by unfold NB at hN;omega);rw[Qea,QfG,show(0:Int)=((0:Nat):Int)from rfl,r,s,Xa,Xa];cases e with
 |ret a=>have:=(f a (e3 a rfl)).rng;simp only[exM,Xs];exact⟨a,rfl,a,by rw[show(a != ((0:Nat):Int))=true by simp;omega]⟩
 |nxt u=>simp only[exM,Xo];exact⟨_,rfl,_,rfl⟩
def Xho{h:Wp}(e:(pg h.p 0).k≠3)(f:h.p.length<=100000):∀(n i:Nat),i<h.p.length->i<n->Qez N h n (i:Int)=QcB N h n (i:Int)
 |0,i,_,g=>by omega
 |n+1,i,l,g=>by
  rw[Qez,QcB,XQ aa aa,Xa,Xa];cases i with
  |zero=>rw[show decide (((0:Nat):Int)>0)=false from rfl,Wa,show((pg h.p ((0:Nat):Int)).k==3)=false by simpa using e,Wa]
  |succ j=>rw[Wi aa,Wc,Xf aa aa,show((j+1:Nat):Int)-1=(j:Int) by omega,Xho e f n j aa aa]
def Xm5(hN:NB N){h:Wp}(hb:HB h)(hp:UP h){i:Int}(e:0<=i)(f:i<h.p.length):QgJ N h i=QeG N h i:=by
 obtain⟨k,rfl⟩:∃k:Nat,i=(k:Int):=⟨i.toNat,aa⟩
 have:=hb.2;rw[QgJ,QeG,Xho hp.first this N k aa (by unfold NB at hN;omega)]
def Kw(h:Wp)(a:Int):Int:=if(hdA h.w a).k=0 then 1 else szA h.w a
def Xiy(h:Wp)(i:Int)(l:List Int)(k:Int):Bool:=l.any λa=>decide (a-Xb h.c i 0<=k/\k<a-Xb h.c i 0+Kw h a)
def XjE(h:Wp)(hp:UP h)(i:Int)(z:0<=i)(B:i<h.p.length)(l:List Int)(k:Nat)(a:Int)(A:l[k]? = some a)(x:Int)(D:x<=256)(E:4096<=a/\a<=8192):∀(n:Nat) (w:Int) (u:List Bool),0<=w->(x-w).toNat<n->u.length<=1000 ->
 ∃e,QbJ N h i l (k:Int) x n w u=some e/\e.length=u.length/\∀j,j<u.length->e.getD j false=(u.getD j false||decide (a-Xb h.c i 0+w<=j/\(j:Int)<a-Xb h.c i 0+x))
 |0,w,u,_,G,_=>by omega
 |n+1,w,u,hw,G,K=>by
  have H:=hp.pages;have L:=Xi.1 hp.conf;have M:=XV hp.conf (i:=i) z aa;rw[QbJ];by_cases f:w<x;case neg=>
   rw[X0 f,Wa]
   exact⟨u,rfl,rfl,λj g=>by rw[X0 (show¬_ by omega),Bool.or_false]⟩
  have O:Xb h.c i 0=4096+i*h.c.W:=by unfold Xb;omega
  rw[Wi f,Wc,Xc,A,Xa];rw[Xf (n:=a) aa aa,Xf (n:=a-4096) aa aa,Xf (n:=a-4096+w) aa aa,Xf (n:=i*h.c.W) aa aa,Xf (n:=a-4096+w-i*h.c.W) aa aa,Xf (n:=w+1) aa aa];generalize Q:a-4096+w-i*h.c.W=q;have step:∀v:List Bool,v.length=u.length->(∀j,j<u.length->v.getD j false=(u.getD j false||decide ((j:Int)=q)))->∃e,QbJ N h i l (k:Int) x n (w+1) v=some e/\e.length=u.length/\∀j,j<u.length->e.getD j false=(u.getD j false||decide (a-Xb h.c i 0+w<=j/\(j:Int)<a-Xb h.c i 0+x)):=by intro v r s;obtain⟨e,I,J,e3⟩:=XjE h hp i z B l k a A x D E n (w+1) v aa aa aa;refine⟨e,I,J.trans r,λj g=>?_⟩;rw[e3 j aa,s j g,Bool.or_assoc];congr 1;rw[←Bool.decide_or];exact decide_eq_decide.2 aa
  by_cases t:q>=0;case neg=>
   rw[X0 t,Wa]
   exact step u rfl λj g=>by rw[X0 (show¬(j:Int)=q by omega),Bool.or_false]
  rw[Wi t,Wc,Xe aa];by_cases y:q<u.length;case neg=>
   rw[X0 y,Wa]
   exact step u rfl λj g=>by rw[X0 (show¬(j:Int)=q by omega),Bool.or_false]
  rw[Wi y,Wc,X7 t y,Xa];refine step _ (by rw[Ww]) λj g=>?_;rw[We,UJ];by_cases o:q.toNat=j
  .rw[Wj o,Wj aa,Wi (show(j:Int)=q by omega),Bool.or_true];rfl
  rw[Wg o,X0 (show¬(j:Int)=q by omega),Bool.or_false,We]
end
section
variable {N:Nat}
def XkV(h:Wp)(i k a:Int):Bool:=decide (a-Xb h.c i 0<=k/\k<a-Xb h.c i 0+Kw h a)
def XfS(h:Wp)(i:Int)(l:List Int)(k:Int):Xiy h i l k=l.any (XkV h i k):=rfl
def XfT(h:Wp)(a:Int):1<=Kw h a/\Kw h a<=256:=by have:=XJ h.w a;unfold Kw;split<;>omega
def XjF(hN:NB N){h:Wp}(hp:UP h)(i:Int)(y:0<=i)(z:i<h.p.length)(l:List Int)(D:l.length<=4096)(o:∀a∈l,I5 h a)(r:∀a∈l,Qax N h a=some (hdA h.w a,0)):∀(n k:Nat) (u:List Bool),k<=l.length->l.length-k<n->u.length<=1000 ->
 ∃s,Qdb N h i l n (k:Int) u=some s/\s.length=u.length/\∀j:Nat,j<u.length->s.getD j false=(u.getD j false||(l.drop k).any (XkV h i (j:Int)))
 |0,k,u,_,E,_=>by omega
 |n+1,k,u,L,E,G=>by
  have M:=Xi.1 hp.conf;have O:=XV hp.conf (i:=0) aa aa;have H:1000000<N:=by unfold NB at hN;omega
  rw[Qdb];by_cases f:k<l.length;case neg=>
   rw[Wh aa,Wa,WN aa]
   exact⟨u,rfl,rfl,λj A=>ab⟩
  have g:=Wt f;have Q:=(o _ g).rng;have I:=XfT h l[k];have t:=XJ h.w l[k];have e:∀kk:Int->Option (List Bool),(jn kk λB=>bif ((hdA h.w l[k]).k==0)then B 1 else B (Xy (hdA h.w l[k])))=kk (Kw h l[k]):=by
   intro kk;rw[Xr];unfold Kw;rw[t.1];by_cases q:(hdA h.w l[k]).k=0
   .rw[Wj q,show((hdA h.w l[k]).k==0)=true by simpa using q,Wc]
   rw[Wg q,show((hdA h.w l[k]).k==0)=false by simpa using q,Wa]
  rw[Wi aa,Wc,Xc,Wb f,Xa,r _ g,Xa,Yr,Xa];dsimp only;rw[e];obtain⟨J,f1,f2,K⟩:=XjE (N:=N) h hp i y z l k l[k] (Wb f) (Kw h l[k]) I.2 aa N 0 u aa aa G;rw[f1,Xa,Xg aa];obtain⟨s,g1,g2,g3⟩:=XjF hN hp i y z l D o r n (k+1) J aa aa aa;refine⟨s,g1,g2.trans f2,λj A=>?_⟩;rw[g3 j aa,K j A,Bool.or_assoc,Wm f,List.any_cons];congr 2;unfold XkV;exact decide_eq_decide.2 aa
def XjG(hN:NB N){h:Wp}(hp:UP h)(i:Int)(o:0<=i)(q:i<h.p.length)(l:List Int)(r:l.length<=4096)(e:∀a∈l,I5 h a)(f:∀a∈l,Qax N h a=some (hdA h.w a,0)):
 ∃u,QgG N h i l=some u/\u.length=h.c.W.toNat/\∀j:Nat,j<u.length->u.getD j false=Xiy h i l (j:Int):=by have t:=Xi.1 hp.conf;rw[QgG,Xe aa,show(0:Int)=((0:Nat):Int)from rfl];obtain⟨u,s,g,e3⟩:=XjF hN hp i o q l r e f N 0 (List.replicate h.c.W.toNat false) aa (by unfold NB at hN;omega) (by rw[WO];omega);rw[s,Xa];rw[WO]at g e3;refine⟨u,rfl,g,λj y=>?_⟩;rw[e3 j aa,WL,XfS,show(List.replicate h.c.W.toNat false).getD j false=false by rw[We,UG];split<;>rfl,U1]
def wdP(h:Wp)(i:Int)(k:Nat):Int:=wd h.w (Xb h.c i 0+k)
def XpD(hN:NB N){h:Wp}(hb:HB h)(hp:UP h){i:Int}(e:0<=i)(j:i<h.p.length){k:Nat}(l:(k:Int)<h.c.W):Qfi N h i (k:Int)=some (wdP h i k):=by
 have o:=Xi.1 hp.conf;have f:=hp.pages;have q:=XV hp.conf (i:=i) e aa;rw[Qfi,QgH,KK,hp.conf,Wg ab,Wj aa,Xa,YX (by unfold BIG;have:=hb.1;omega),Xa,Xa];have g:Xb h.c i (k:Int)=Xb h.c i 0+k:=by unfold Xb;omega
 have hw:=hp.words;rw[g,Wj (by unfold inW Xb;simp;omega)];rfl
def XfU(hN:NB N){h:Wp}(hb:HB h)(hp:UP h){i:Int}(o:0<=i)(s:i<h.p.length)(u:List Bool)(z:u.length=h.c.W.toNat):∀(n k:Nat),k<=u.length->u.length-k<n ->
 ∃e,QcC N h i u n (k:Int)=some e/\((∃j,k<=j/\j<u.length/\u.getD j false=false/\wdP h i j≠0)->∃a,e=.ret a/\a≠0)/\((¬∃j,k<=j/\j<u.length/\u.getD j false=false/\wdP h i j≠0)->e=.nxt ())
 |0,k,_,A=>by omega
 |n+1,k,G,A=>by
  have H:=Xi.1 hp.conf;have B:=hp.pages;have I:=XV hp.conf (i:=i) o aa;rw[QcC];by_cases f:k<u.length;case neg=>
   rw[Wh aa,Wa]
   exact⟨_,rfl,λ⟨j,a,b,_⟩=>aa,λ_=>rfl⟩
  rw[Wi aa,Wc,Xc,Wb f,Xa,XpD hN hb hp o s aa,Xa,Xg aa];have t:u.getD k false=u[k]:=by rw[We,Wb f];rfl
  have skip:(u[k]=true\/wdP h i k=0)->∃e,QcC N h i u n ((k+1:Nat):Int)=some e/\((∃j,k<=j/\j<u.length/\u.getD j false=false/\wdP h i j≠0)->∃a,e=.ret a/\a≠0)/\((¬∃j,k<=j/\j<u.length/\u.getD j false=false/\wdP h i j≠0)->e=.nxt ()):=by
   intro g;obtain⟨e,D,E,e3⟩:=XfU hN hb hp o s u z n (k+1) aa aa;refine⟨e,D,λ⟨j,a,b,c,d⟩=>E ⟨j,?_,b,c,d⟩,λq=>e3 λ⟨j,a,b⟩=>q ⟨j,aa,b⟩⟩;by_cases r:j=k
   .subst r;rw[t]at c;rcases g with g|g
    .rw[g]at c;cases c
    exact absurd g d
   omega
  cases y:u[k]with
  |true=>rw[Wl,Wa];exact skip (.inl y)
  |false=>
   rw[WY,Wc];by_cases l:wdP h i k=0
   .rw[show(wdP h i k != 0)=false by simpa using l,Wa];exact skip (.inr l)
   rw[show(wdP h i k != 0)=true by simpa using l,Wc,Qfq,Xa];refine⟨_,rfl,λ_=>⟨_,rfl,?_⟩,λq=>absurd ⟨k,aa,f,by rw[t,y],l⟩ q⟩;rw[Xf (n:=i*h.c.W) aa aa,Xf (n:=4096+i*h.c.W) aa aa,Xf aa aa,Xz aa aa];omega
end
section
variable {N:Nat}
def Kx(L x:Int):Int:=if L<(if x<0 then 0 else x)then L else(if x<0 then 0 else x)
def XfV{v:List Int}{lo hi:Nat}(e:lo<=hi)(f:hi<=v.length):(((v.take lo)++(List.replicate (hi-lo) 0))++(v.drop (lo+(hi-lo)))).length=v.length:=by simp only[Wu,Wx,WO,WR];omega
def XpE{v:List Int}{lo e:Nat}(f:lo<=e)(g:e<=v.length)(j:Nat):(((v.take lo)++(List.replicate (e-lo) 0))++(v.drop (lo+(e-lo)))).getD j 0=if lo<=j/\j<e then 0 else v.getD j 0:=by
 simp only[We,Oo,Wu,Wx,WO,Ua,UG,UC];by_cases a:j<lo
 .rw[Wj aa,Wj aa,Wj a,Wg aa]
 by_cases b:j<e
 .rw[Wj aa,Wg aa,Wj aa,Wj aa];rfl
 rw[Wg aa,Wg aa];congr 2;omega
def Xhp(hN:NB N){h:Wp}(ht:HT h)(hp:UP h)(i:Int)(u:0<=i)(B:i<h.p.length)(f:List Int×Int)(D:f.1.length<=4096)(l:∀a∈f.1,I5 h a)(r:∀a∈f.1,Qax N h a=some (hdA h.w a,0)):∀(n k:Nat) (v:List Int),k<=f.1.length->f.1.length-k<n->v.length<=1000 ->
 ∃s,QdZ N h (Xb h.c i 0,0) f n (k:Int) v=some s/\s.length=v.length/\∀j:Nat,j<v.length->s.getD j 0=if(f.1.drop k).any (XkV h i (j:Int))=true then 0 else v.getD j 0
 |0,k,v,_,E,_=>by omega
 |n+1,k,v,Q,E,G=>by
  have H:=Xi.1 hp.conf;have I:=hp.pages;have R:=XV hp.conf (i:=i) u aa;have J:1000000<N:=by unfold NB at hN;omega
  rw[QdZ];by_cases o:k<f.1.length;case neg=>
   rw[Wh aa,Wa,WN aa]
   exact⟨v,rfl,rfl,λj y=>ab⟩
  have g:=Wt o;have S:=(l _ g).rng;have T:=XfT h f.1[k];have t:=XJ h.w f.1[k];have e:∀kk:Int->Option (List Int),(jn kk λz=>bif ((hdA h.w f.1[k]).k != 0)then(bnd (some (Xy (hdA h.w f.1[k]))) λK=>z K)else z 1)=kk (Kw h f.1[k]):=by
   intro kk;rw[Xr];unfold Kw;rw[t.1];by_cases q:(hdA h.w f.1[k]).k=0
   .rw[Wj q,show((hdA h.w f.1[k]).k != 0)=false by simpa using q,Wa]
   rw[Wg q,show((hdA h.w f.1[k]).k != 0)=true by simpa using q,Wc,Xa]
  rw[Wi (show(k:Int)<(f.1.length:Int) by omega),Wc,Xc,Wb o,Xa,XdV hN ht ((l _ g).tu hp),r _ g,Xa,Vi aa];dsimp only;rw[e];have U:Xb h.c i 0=4096+i*h.c.W:=by unfold Xb;omega
  have w0:wI f.1[k]=f.1[k]:=Xf aa aa;have w1:wI (Xb h.c i 0)=Xb h.c i 0:=Xf aa aa;have w2:wI (f.1[k]-Xb h.c i 0)=f.1[k]-Xb h.c i 0:=Xf aa aa;have L:wI (f.1[k]-Xb h.c i 0+Kw h f.1[k])=f.1[k]-Xb h.c i 0+Kw h f.1[k]:=Xf aa aa;simp only[w0,w1,w2,L,Xg (show k<=140737488355328 by omega)];rw[Xe aa,Xe aa];have cl:∀x:Int,(if(v.length:Int)<(if x<0 then 0 else x)then(v.length:Int)else(if x<0 then 0 else x))=Kx v.length x:=λ_=>rfl;simp only[cl];have c1:∀x:Int,0<=Kx v.length x/\Kx v.length x<=v.length:=by intro x;unfold Kx;split<;>split<;>omega
  generalize M:f.1[k]-Xb h.c i 0=A at *;have V:=c1 A;have Y:=c1 (A+Kw h f.1[k]);have Z:Kx v.length A<=Kx v.length (A+Kw h f.1[k]):=by
   unfold Kx;repeat' split
   all_goals omega
  rw[Xe aa];obtain⟨s,g1,g2,g3⟩:=Xhp hN ht hp i u B f D l r n (k+1) _ aa aa (by rw[XfV (v:=v) (lo:=(Kx v.length A).toNat) (hi:=(Kx v.length (A+Kw h f.1[k])).toNat) aa aa];exact G);refine⟨s,g1,by rw[g2,XfV aa aa],λj y=>?_⟩;rw[g3 j (by rw[XfV aa aa];exact y),XpE aa aa,Wm o,List.any_cons];have O:XkV h i (j:Int) f.1[k]=decide ((Kx v.length A).toNat<=j/\j<(Kx v.length (A+Kw h f.1[k])).toNat):=by
   unfold XkV;rw[M];refine decide_eq_decide.2 ?_;unfold Kx;repeat' split
   all_goals omega
  rw[O];by_cases q:(Kx v.length A).toNat<=j/\j<(Kx v.length (A+Kw h f.1[k])).toNat
  .rw[Wj q,Wi q,I7,Wj rfl];exact ite_self _
  rw[Wg q,Wh q,U1]
def XpF(l:List Int)(f:l.length<=1000000)(hN:1000000<N):QaM N l=some (Zj (λx=>x != 0) l):=by
 rw[QaM];exact JE (p:=λx:Int=>x != 0) f hN (λn k x e=>by
  have g:=Xq e
  rw[Qav,Xm g,Wc,Xc,e,Xa,QgK,Xa,Xg aa]) (λn=>by rw[Qav,Xv,Wa])
def Xm6(hN:NB N){h:Wp}(ht:HT h)(ep:Qab N h=some true){i:Int}(q:0<=i)(s:i<h.p.length):
 ∃a,Qd4 N h i=some a/\∃b,Qgc N h i=some (b,a != 0):=by
 have H:1000000<N:=by unfold NB at hN;omega
 have hb:=ht.hb;have hp:=XL hN hb ep;have Y:=Xi.1 hp.conf;have Z:=hp.pages;have hm:=XV hp.conf (i:=i) q aa;have ad:Xb h.c i 0=4096+i*h.c.W:=by unfold Xb;omega
 have hw:=hp.words;obtain⟨pw,I⟩:∃pw:Nat,h.c.W=(pw:Int):=⟨h.c.W.toNat,aa⟩
 have t:YZ h.w (Xb h.c i 0) pw:=by unfold YZ;omega
 have erd:QcY N h.w (Xb h.c i 0) h.c.W=some ((h.w.drop (ix (Xb h.c i 0))).take pw,0):=by rw[I,XcK (by unfold BIG;have:=hb.1;omega) N _ pw aa,Wj t]
 have eadr:Qcb N h.c i 0=some (Xb h.c i 0,0):=by rw[KK,hp.conf,Wg ab,Wj aa]
 have J:Xb h.c i 0<=18446744073709551615:=aa;obtain⟨hd,eh,K,L⟩:=XfM N (h:=h) hp.first N i q s hb.2 (by have:=hb.2;unfold NB at hN;omega);have y:QeG N h i=some hd:=by rw[QeG,eh,Xa]
 obtain⟨r,U,hr,V⟩:=Qf2 hN hb hp hd K L;obtain⟨⟨z,A,_⟩,_,_⟩:=hr;obtain⟨u,eu,B,D⟩:=XjG hN hp i q s r.1 aa z A;obtain⟨e,e1,M,e3⟩:=XfU hN hb hp q s u B N 0 aa aa;rw[Qd4,y,Xa,U,Xa,eu,Xa,show(0:Int)=((0:Nat):Int)from rfl,e1,Xa];rw[Qgc,Xhi,eadr,Xa,Xhl (by have:=hb.1;omega) J];dsimp only;rw[erd,Xa,Xm5 hN hb hp q s,y,Xa,Xhn hN ht,U,Xa];dsimp only;have O:((h.w.drop (ix (Xb h.c i 0))).take pw).length=pw:=by rw[Wx,WR];unfold ix;unfold YZ at t;omega
 obtain⟨v,g1,g2,g3⟩:=Xhp hN ht hp i q s r aa z A N 0 ((h.w.drop (ix (Xb h.c i 0))).take pw) aa aa aa;have Q:QdZ N h (Xb h.c i 0,0) r N 0 ((h.w.drop (ix (Xb h.c i 0))).take pw)=some v:=g1;have hul:u.length=pw:=by clear M e3;omega
 have hvL:v.length=pw:=by rw[g2,O]
 rw[Q,Xa,XpF v (by clear M e3;omega) H,Xa];have E:decide (Zj (λx=>x != 0) v>=0)=v.any (λx=>x != 0):=KH _ v;rw[E];have f:∀j,j<pw->((h.w.drop (ix (Xb h.c i 0))).take pw).getD j 0=wdP h i j:=by intro j G;unfold wdP wd ix;rw[We,Ua,Wj G,UC,We];congr 2;omega
 clear B;have iff1:v.any (λx=>x != 0)=true↔∃j,0<=j/\j<u.length/\u.getD j false=false/\wdP h i j≠0:=by
  rw[Io];constructor
  .rintro⟨x,hx,R⟩;obtain⟨j,G,rfl⟩:=Wv hx;have g:j<pw:=aa;have:=g3 j aa;rw[We,Wb G,Ie,f j g,WL,←XfS]at this;have l:v[j]≠0:=by simpa using R
   refine⟨j,UY _,aa,?_,?_⟩
   .rw[D j aa];cases S:Xiy h i r.1 (j:Int)with
    |false=>rfl
    |true=>rw[S,Wj rfl]at this;exact absurd this l
   intro T;rw[T,ite_self]at this;exact l this
  rintro⟨j,_,G,S,T⟩;have g:j<v.length:=aa;refine⟨v[j],Wt g,?_⟩;have:=g3 j aa;rw[We,Wb g,Ie,f j aa,WL,←XfS,←D j G,S,Wg ab]at this;rw[this];simpa using T
 by_cases o:∃j,0<=j/\j<u.length/\u.getD j false=false/\wdP h i j≠0
 .obtain⟨a,rfl,ha⟩:=M o;rw[Xs,iff1.2 o];exact⟨a,rfl,_,by rw[show(a != ((0:Nat):Int))=true by simpa using ha]⟩
 have l:=e3 o;subst l;rw[Xo,show v.any (λx=>x != 0)=false by rw[←In];exactλhh=>o (iff1.1 hh)];exact⟨_,rfl,_,rfl⟩
end
def JM{α β:Type}{L:Nat}{F:Nat->Int->Option (Ex α β)}{p:Nat->Prop}{Q:α->Prop}{u:β}(g:∀n k,k<L->p k->∃a,F (n+1) (k:Int)=some (.ret a)/\Q a)(l:∀n k,k<L->¬p k->F (n+1) (k:Int)=F n ((k+1:Nat):Int))(f:∀n,F (n+1) (L:Int)=some (.nxt u)):∀(n k:Nat),k<=L->L-k<n ->
 ∃e,F n (k:Int)=some e/\((∃j,k<=j/\j<L/\p j)->∃a,e=.ret a/\Q a)/\((¬∃j,k<=j/\j<L/\p j)->e=.nxt u)
 |0,k,_,r=>by omega
 |n+1,k,z,r=>by
  by_cases h:k<L;case neg=>
   obtain rfl:k=L:=aa
   exact⟨_,f n,λ⟨j,a,b,_⟩=>aa,λ_=>rfl⟩
  by_cases hp:p k
  .obtain⟨a,e,s⟩:=g n k h hp;exact⟨_,e,λ_=>⟨a,rfl,s⟩,λo=>absurd ⟨k,Uu _,h,hp⟩ o⟩
  obtain⟨e,t,y,e3⟩:=JM g l f n (k+1) aa aa;refine⟨e,(l n k h hp).trans t,λ⟨j,a,b,c⟩=>y ⟨j,?_,b,c⟩,λo=>e3 λ⟨j,a,b⟩=>o ⟨j,aa,b⟩⟩;by_cases q:j=k
  .subst q;exact absurd c hp
  omega
section
variable {N:Nat}
def Xm7(l:List Int)(x:Int)(r:l.length<=1000000)(p:l.Pairwise (·<·)):∀(n lo hi:Nat),lo<=hi->hi<=l.length->hi-lo<n->(∀i(h:i<l.length),i<lo->l[i]<x)->(∀i(h:i<l.length),hi<=i->x<=l[i]) ->
 ∃k:Nat,Qap N l x n (lo:Int) (hi:Int)=some (k:Int)/\k<=l.length/\(∀i(h:i<l.length),i<k->l[i]<x)/\(∀i(h:i<l.length),k<=i->x<=l[i])
 |0,lo,hi,_,_,t,_,_=>by omega
 |n+1,lo,hi,A,u,t,s,hb=>by
  rw[Qap];by_cases y:lo<hi;case neg=>
   rw[Wh aa,Wa]
   exact⟨lo,rfl,aa,s,λi h f=>hb i h aa⟩
  have g:wI (Y5 .u64 (wU (wI ((lo:Int)+hi))) 1)=(((lo+hi) / 2:Nat):Int):=by rw[Xf (n:=(lo:Int)+hi) aa aa,Xz aa aa,show Y5 .u64 ((lo:Int)+hi) 1=((lo:Int)+hi) / 2 from ZN _ 1 aa aa,Xf aa aa];omega
  have q:(lo+hi) / 2<l.length:=aa;have z:lo<=(lo+hi) / 2/\(lo+hi) / 2<hi:=aa;generalize (lo+hi) / 2=m at *;rw[Wi aa,Wc,g,Xc,Wb q,Xa,QfL,Qeq,Xa,show(l[m] != l[m])=false by simp,Wa,Xa];have j:=Uf.1 p;by_cases o:l[m]<x
  .rw[Wi o,Wc,Xg aa];refine Xm7 l x r p n (m+1) hi aa u aa (λi h f=>?_) hb;by_cases e:i=m
   .subst e;exact o
   exact Int.lt_trans (j i m h q aa) o
  rw[Wh o,Wa];refine Xm7 l x r p n lo m aa aa aa s (λi h f=>?_);by_cases e:i=m
  .subst e;omega
  have:=j m i q h aa;omega
def Xm8(l:List Int)(x:Int)(u:l.length<=1000000)(hN:1000000<N)(s:l.Pairwise (·<·)):∃k:Int,Qay N l x=some (k,l.contains x):=by
 obtain⟨k,e,z,t,y⟩:=Xm7 (N:=N) l x u s N 0 l.length aa aa aa (λi h g=>aa) (λi h g=>aa);rw[Qay,show(0:Int)=((0:Nat):Int)from rfl,e,Xa];by_cases f:k<l.length
 .rw[Wi aa,Wc,Xc,Wb f,Xa];by_cases j:l[k]=x
  .refine⟨k,?_⟩;rw[show(l[k]==x)=true by simpa using j,Wc,show l.contains x=true by rw[Ub,←j];exact Wt f]
  refine⟨k,?_⟩;rw[show(l[k]==x)=false by simpa using j,Wa,Xa,Qdj,Xa,show(l[k] != l[k])=false by simp,Wa];have:l.contains x=false:=by
   rw[←In,Ub];intro o;obtain⟨i,g,rfl⟩:=Wv o;have p:=Uf.1 s;by_cases q:i<k
   .have:=t i g q;omega
   have a:=y k f (Uu _);by_cases r:i=k
   .subst r;exact j rfl
   have:=p k i f g aa;omega
  rw[this]
 refine⟨k,?_⟩;rw[Wh aa,Wa];have:l.contains x=false:=by rw[←In,Ub];intro o;obtain⟨i,g,rfl⟩:=Wv o;have:=t i g aa;omega
 rw[this]
def OT.asc{h:Wp}{l:List Int}(o:OT N h l):l.Pairwise (·<·):=
 o.pw.imp λ{a b} e=>by have:=(XJ h.w a).2;omega
def XaW{d:WH}:∀{k:Nat} {i x:Int},i<=x->x<i+k->ZP d x=true->x∈Yd d k i
 |0,i,x,f,g,_=>by omega
 |k+1,i,x,f,g,e=>by
  simp only[Yd,Ws];by_cases h:x=i
  .subst h;left;rw[Wj e];simp
  right;exact XaW aa aa e
def Y4{d:WH}(e:XM d=true){x:Int}:x∈XN d↔0<=x/\x<d.n/\ZP d x=true:=by
 have hb:=XO e;unfold XN;rw[Wj e];constructor
 .intro h;have:=Ja h;exact⟨aa,aa,this.2.2⟩
 intro h;exact XaW aa aa h.2.2
end
section
variable {N:Nat}
def Xrz(h:Wp)(l:List Int)(a i:Int):Prop:=wd h.w (a+1+i)≠0/\l.contains (wd h.w (a+1+i))=false
def Xac(h:Wp)(l:List Int)(a:Int):Prop:=∃i,i∈XN (hdA h.w a)/\Xrz h l a i
def Yy(h:Wp)(a:Int):XM (hdA h.w a)=true:=Jy _
def XpG{h:Wp}(hp:UP h){a:Int}(e:I5 h a){i:Int}(f:0<=i)(g:i<(hdA h.w a).n):4096<=a+1+i/\a+1+i<4096+h.w.length/\a+1+i<=8192/\(hdA h.w a).n<=255:=by have:=JK hp e;have:=e.rng;have:=XJ h.w a;have j:=Xi.1 hp.conf;have:=XV hp.conf (i:=0) aa aa;have:=hp.words;unfold szA at *;omega
def XsK(hN:NB N){h:Wp}(ht:HT h)(hp:UP h)(f:List Int×Int)(M:f.1.length<=1000000)(O:f.1.Pairwise (·<·))(s:Int){a:Int}(I:I5 h a):
 ∃e,QaK N h f s a (XN (hdA h.w a)) N 0=some e/\(Xac h f.1 a->∃b,e=.ret b/\b≠0)/\(¬Xac h f.1 a->e=.nxt ()):=by
 have B:1000000<N:=by unfold NB at hN;omega
 have hb:=ht.hb;have D:=Yy h a;have E:=XO D;have R:(XN (hdA h.w a)).length<=255:=by unfold XN;rw[Wj D];have:=Vv (d:=hdA h.w a) (k:=(hdA h.w a).n.toNat) (i:=0);omega
 have l:∀k(g:k<(XN (hdA h.w a)).length),0<=(XN (hdA h.w a))[k]/\(XN (hdA h.w a))[k]<(hdA h.w a).n:=λk g=>by have:=(Y4 D).1 (Wt g);exact⟨this.1,this.2.1⟩
 generalize t:XN (hdA h.w a)=ps at *;have Y:=I.rng;have step:∀n k(g:k<ps.length),QaK N h f s a ps (n+1) (k:Int)=bif (wd h.w (a+1+ps[k]) != 0)then(bif (!f.1.contains (wd h.w (a+1+ps[k])))then some (.ret (a+1+ps[k]))else QaK N h f s a ps n ((k+1:Nat):Int))else QaK N h f s a ps n ((k+1:Nat):Int):=by
  intro n k g;have J:=l k g;have Z:=XpG hp I J.1 J.2;have S:(h.w.length:Int)<=100000:=by have:=hb.1;omega
  have w1:wU (wU (a+1)+wU ps[k])=a+1+ps[k]:=by rw[Xz (n:=a+1) aa aa,Xz (n:=ps[k]) aa aa,Xz aa aa]
  rw[QaK,Wi aa,Wc,Xc,Wb g,Xa,w1,Xhk (by have:=hb.1;omega) aa,YX (by unfold BIG;have:=hb.1;omega),Wj (by unfold inW;omega),Xa];dsimp only;obtain⟨q,eq⟩:=Xm8 (N:=N) f.1 (h.w.getD (ix (a+1+ps[k])) 0) M B O;rw[eq,Xa,Xg aa];rfl
 have key:=JM (L:=ps.length) (F:=QaK N h f s a ps) (p:=λk=>∃g:k<ps.length,Xrz h f.1 a ps[k]) (Q:=λb=>b≠0) (u:=())
  (λn k g y=>by
   obtain⟨T,z,G⟩:=y
   refine⟨a+1+ps[k],?_,?_⟩
   .rw[step n k g,show(wd h.w (a+1+ps[k]) != 0)=true by simpa using z,Wc,G];rfl
   .have:=l k g;omega)
  (λn k g H=>by
   rw[step n k g]
   by_cases z:wd h.w (a+1+ps[k])=0
   .rw[show(wd h.w (a+1+ps[k]) != 0)=false by simpa using z,Wa]
   .rw[show(wd h.w (a+1+ps[k]) != 0)=true by simpa using z,Wc]
    cases G:f.1.contains (wd h.w (a+1+ps[k]))with
    |true=>rfl
    |false=>exact absurd ⟨g,z,G⟩ H)
  (λn=>by rw[QaK,Wh aa,Wa]) N 0 aa aa
 obtain⟨e,U,V,e3⟩:=key;refine⟨e,U,λo=>?_,λo=>?_⟩
 .obtain⟨i,K,r⟩:=o;rw[t]at K;obtain⟨j,A,rfl⟩:=Wv K;exact V ⟨j,UY _,A,A,r⟩
 refine e3 λ⟨j,_,A,W,r⟩=>o ⟨ps[j],?_,r⟩;rw[t];exact Wt A
def XqH(hN:NB N){h:Wp}(ht:HT h)(hp:UP h)(f:List Int×Int)(u:f.1.length<=1000000)(y:f.1.Pairwise (·<·))(j:∀a∈f.1,I5 h a)(p:∀a∈f.1,Qax N h a=some (hdA h.w a,0)):∀(n k:Nat),k<=f.1.length->f.1.length-k<n ->
 ∃r,Qcn N h f n (k:Int)=some r/\((∃a∈f.1.drop k,Xac h f.1 a)->r≠0)/\((¬∃a∈f.1.drop k,Xac h f.1 a)->r=0)
 |0,k,_,z=>by omega
 |n+1,k,I,z=>by
  have A:1000000<N:=by unfold NB at hN;omega
  rw[Qcn];by_cases l:k<f.1.length;case neg=>
   rw[Wh aa,Wa,WN aa]
   exact⟨0,rfl,λ⟨a,o,_⟩=>by simp at o,λ_=>rfl⟩
  have q:=Wt l;rw[Wi aa,Wc,Xc,Wb l,Xa,XdV hN ht ((j _ q).tu hp),p _ q,Xa,XeW aa _ (Yy h _),Xa];obtain⟨e,B,D,e3⟩:=XsK hN ht hp f u y (k:Int) (j _ q);rw[B,Xa,Wm l];by_cases g:Xac h f.1 f.1[k]
  .obtain⟨b,rfl,s⟩:=D g;rw[Xs];exact⟨b,rfl,λ_=>s,λt=>absurd ⟨_,IM,g⟩ t⟩
  have:=e3 g;subst this;rw[Xo,Xg aa];obtain⟨r,E,G,H⟩:=XqH hN ht hp f u y j p n (k+1) aa aa;refine⟨r,E,λ⟨a,o,hb⟩=>G ⟨a,?_,hb⟩,λt=>H λ⟨a,o,hb⟩=>t ⟨a,WC _ o,hb⟩⟩;rcases Us.1 o with rfl|o
  .exact absurd hb g
  exact o
def Xcf(hN:NB N){h:Wp}(hb:HB h)(ep:Qab N h=some true){a:Int}(f:I5 h a)(e:Qax N h a=some (hdA h.w a,0))(g:(hdA h.w a).k≠0):Qb0 N h a=some (hdA h.w a,0):=by have:=f.rng;rw[Qb0,ep,Xa,Wl,Wa,show(a==0)=false by simp;omega,Wa,e,Xa];dsimp only;rw[show((0:Int)==0)=true from rfl,Wc,show((hdA h.w a).k==0)=false by simpa using g,Wa]
def XaH(hN:NB N){h:Wp}(hb:HB h)(ep:Qab N h=some true){a:Int}(f:I5 h a)(g:Qax N h a=some (hdA h.w a,0))(q:(hdA h.w a).k≠0):∃l,QcZ N h a=some (l,0)/\(l.length:Int)=(hdA h.w a).n/\∀(j:Nat) (o:j<l.length),l[j]=wd h.w (a+1+j):=by
 have hp:=XL hN hb ep;have s:=XO (Yy h a);have t:=f.rng;have e:=JK hp f;have u:=XV hp.conf (i:=0) aa (by have:=Xi.1 hp.conf;omega);have hw:=hp.words;unfold szA at e;obtain⟨m,p⟩:∃m:Nat,(hdA h.w a).n=(m:Int):=⟨(hdA h.w a).n.toNat,aa⟩
 rw[QcZ,Xcf hN hb ep f g q,Xa];dsimp only;rw[show((0:Int) != 0)=false from rfl,Wa,Xz (n:=a+1) aa aa,p,XcK (by unfold BIG;have:=hb.1;omega) N _ m aa,Wj (by unfold YZ;omega),Xa];refine⟨_,rfl,?_,λj o=>?_⟩
 .rw[Wx,WR];unfold ix;omega
 have r:j<m:=by rw[Wx]at o;omega
 rw[ID,On];unfold wd;rw[We,show ix (a+1+(j:Int))=ix (a+1)+j by unfold ix;omega,Wb (by rw[Wx,WR]at o;omega)];rfl
end
section
variable {N:Nat}
def XsL(hN:NB N){h:Wp}(hb:HB h)(hp:UP h)(g l:List Int×Int)(U:g.1.length<=1000000)(o:Int){a:Int}(z:Xd g.1 o=some a)(V:I5 h a)(W:(l.1.length:Int)=(hdA h.w a).n)(J:∀(j:Nat) (K:j<l.1.length),l.1[j]=wd h.w (a+1+j)):
 ∃e,Qaw N h g l o (hdA h.w a,0) N 0=some e/\(Xac h g.1 a->∃f,e=.ret f/\f.Fault≠0)/\(¬Xac h g.1 a->e=.nxt ()):=by
 have M:1000000<N:=by unfold NB at hN;omega
 have A:=Yy h a;have B:=XO A;have step:∀n k(q:k<l.1.length),Qaw N h g l o (hdA h.w a,0) (n+1) (k:Int)=bif ZP (hdA h.w a) (k:Int)then(bif (wd h.w (a+1+k) != 0)then(bif (!g.1.contains (wd h.w (a+1+k)))then(bnd (QcI N h.c (wU ((wU (a+1))+(wU (k:Int))))) λD=>some (.ret (Ut.mk 6 D.1 (wU ((wU (a+1))+(wU (k:Int)))))))else Qaw N h g l o (hdA h.w a,0) n ((k+1:Nat):Int))else Qaw N h g l o (hdA h.w a,0) n ((k+1:Nat):Int))else Qaw N h g l o (hdA h.w a,0) n ((k+1:Nat):Int):=by intro n k q;rw[Qaw,Wi aa,Wc,JI,Xa,Xc,Wb q,J k q,Xg aa];simp only[Xa,Ym (wd h.w (a+1+(k:Int))) (show g.1.length<=1000000000 by omega) (show g.1.length<N by omega),z]
 have key:=JM (L:=l.1.length) (F:=Qaw N h g l o (hdA h.w a,0)) (p:=λk=>ZP (hdA h.w a) (k:Int)=true/\Xrz h g.1 a (k:Int)) (Q:=λf=>f.Fault≠0) (u:=())
  (λn k q t=>by
   obtain⟨E,y,G⟩:=t
   rw[step n k q,E,Wc,show(wd h.w (a+1+(k:Int)) != 0)=true by simpa using y,Wc,G,WY,Wc,VK,Xa]
   exact⟨_,rfl,by show(6:Int)≠0;omega⟩)
  (λn k q H=>by
   rw[step n k q]
   cases E:ZP (hdA h.w a) (k:Int)with
   |false=>rfl
   |true=>
   rw[Wc]
   by_cases y:wd h.w (a+1+(k:Int))=0
   .rw[show(wd h.w (a+1+(k:Int)) != 0)=false by simpa using y,Wa]
   .rw[show(wd h.w (a+1+(k:Int)) != 0)=true by simpa using y,Wc]
    cases G:g.1.contains (wd h.w (a+1+(k:Int)))with
    |true=>rfl
    |false=>exact absurd ⟨E,y,G⟩ H)
  (λn=>by rw[Qaw,Wh aa,Wa]) N 0 aa aa
 obtain⟨e,O,R,e3⟩:=key;refine⟨e,O,λr=>?_,λr=>?_⟩
 .obtain⟨i,S,s⟩:=r;have T:=(Y4 A).1 S;obtain⟨j,rfl⟩:∃j:Nat,i=(j:Int):=⟨i.toNat,aa⟩
  exact R ⟨j,UY _,aa,T.2.2,s⟩
 exact e3 λ⟨j,_,K,I,s⟩=>r ⟨(j:Int),(Y4 A).2 ⟨aa,aa,I⟩,s⟩
def Xm9(hN:NB N){h:Wp}(hb:HB h)(ep:Qab N h=some true)(g:List Int×Int)(A:g.1.length<=1000000)(j:∀a∈g.1,I5 h a)(p:∀a∈g.1,Qax N h a=some (hdA h.w a,0))(q:∀a∈g.1,(hdA h.w a).k≠0):∀(n k:Nat),k<=g.1.length->g.1.length-k<n ->
 ∃e,Qbs N h g n (k:Int)=some e/\((∃a∈g.1.drop k,Xac h g.1 a)->∃f,e=.ret f/\f.Fault≠0)/\((¬∃a∈g.1.drop k,Xac h g.1 a)->e=.nxt ())
 |0,k,_,D=>by omega
 |n+1,k,M,D=>by
  have E:1000000<N:=by unfold NB at hN;omega
  have hp:=XL hN hb ep;rw[Qbs];by_cases s:k<g.1.length;case neg=>
   rw[Wh aa,Wa,WN aa]
   exact⟨_,rfl,λ⟨a,t,_⟩=>by simp at t,λ_=>rfl⟩
  have u:=Wt s;have B:Xd g.1 (k:Int)=some g.1[k]:=by rw[Xc,Wb s]
  obtain⟨l,f1,f2,G⟩:=XaH hN hb ep (j _ u) (p _ u) (q _ u);rw[Wi aa,Wc,B,Xa,Xcf hN hb ep (j _ u) (p _ u) (q _ u),Xa,Xa,f1,Xa];obtain⟨e,H,I,e3⟩:=XsL hN hb hp g (l,0) A (k:Int) B (j _ u) f2 G;rw[H,Xa,Wm s];by_cases o:Xac h g.1 g.1[k]
  .obtain⟨f,rfl,y⟩:=I o;rw[Xs];exact⟨_,rfl,λ_=>⟨f,rfl,y⟩,λz=>absurd ⟨_,IM,o⟩ z⟩
  have:=e3 o;subst this;rw[Xo,Xg aa];obtain⟨r,J,K,L⟩:=Xm9 hN hb ep g A j p q n (k+1) aa aa;refine⟨r,J,λ⟨a,t,hb⟩=>K ⟨a,?_,hb⟩,λz=>L λ⟨a,t,hb⟩=>z ⟨a,WC _ t,hb⟩⟩;rcases Us.1 t with rfl|t
  .exact absurd hb o
  exact t
def KN(hN:NB N){h:Wp}(hb:HB h):∃y,Qaj N h=some y/\y.1.length<=4096/\y.1.Pairwise (·<·)/\(∀a∈y.1,I5 h a)/\(∀a∈y.1,Qax N h a=some (hdA h.w a,0))/\(∀a∈y.1,(hdA h.w a).k≠0):=by obtain⟨y,e,f,_,_⟩:=KF hN hb;refine⟨y,e,f.len,f.obj.asc,f.obj.at_,f.obj.ev,?_⟩;obtain⟨r,l,g,_,_⟩:=Xav hN hb;have j:=g.len;rw[Qaj,l,Xa,show(0:Int)=((0:Nat):Int)from rfl,XbJ r aa g.obj.ev N 0 [] aa (by unfold NB at hN;omega) ab,Xa,WL,Um]at e;cases e;intro a o;have:=(W6.1 o).2;simpa [Kv,fnd]using this
def zF:Ut:=⟨0,0,0⟩
def XpH(P:Prop)(o:Option Ut):Prop:=∃f,o=some f/\(P->f.Fault≠0)/\(¬P->f=zF)
def Xhq(hN:NB N){h:Wp}(ht:HT h)(ep:Qab N h=some true){y:List Int×Int}(z:Qaj N h=some y):XpH (∃a∈y.1,Xac h y.1 a) (Qfc N h)/\XpH (∃a∈y.1,Xac h y.1 a) (Qdn N h):=by
 have hb:=ht.hb;have hp:=XL hN hb ep;obtain⟨I,o,J,E,s,t,A⟩:=KN hN hb;rw[z]at o;cases o;have D:y.1.length<N:=by unfold NB at hN;omega
 constructor
 .obtain⟨r,B,u,e3⟩:=XqH hN ht hp y aa E s t N 0 aa aa;rw[Qfc,Xab hN ht,z,Xa];have j:Qcn N h y N 0=some r:=B;rw[j,Xa];rw[WL]at u e3;by_cases g:∃a∈y.1,Xac h y.1 a
  .rw[show(r==0)=false by simpa using u g,Wa];have:∃q,Qf9 N h.c r=some q:=by
    rw[Qf9,KI,Xa];cases G:X5 h.c with
    |false=>exact⟨_,rfl⟩
    |true=>
     have:=Xi.1 G;rw[Wl,Wa];cases decide (r<4096)
     .rw[Wa];cases decide (wU (r-4096)>=wU (wI (h.c.W*h.c.p)))
      .rw[Wa,Xe aa,Xe aa];exact⟨_,rfl⟩
      exact⟨_,rfl⟩
     exact⟨_,rfl⟩
   obtain⟨q,eq⟩:=this;rw[eq,Xa];exact⟨_,rfl,λ_=>by show(6:Int)≠0;omega,λl=>absurd g l⟩
  rw[e3 g];exact⟨_,rfl,λl=>absurd l g,λ_=>rfl⟩
 obtain⟨e,B,u,e3⟩:=Xm9 hN hb ep y aa s t A N 0 aa aa;rw[Qdn,z,Xa];have j:Qbs N h y N 0=some e:=B;rw[j,Xa];rw[WL]at u e3;by_cases g:∃a∈y.1,Xac h y.1 a
 .obtain⟨f,rfl,H⟩:=u g;rw[Xs];exact⟨_,rfl,λ_=>H,λl=>absurd g l⟩
 rw[e3 g,Xo];exact⟨_,rfl,λl=>absurd l g,λ_=>rfl⟩
end
section
variable {N:Nat}
def XfW(hN:NB N){h:Wp}(ht:HT h)(ep:Qab N h=some true){i:Nat}(Q:i<h.p.length):
 ∃f,Qd5 N h (i:Int)=some f/\((f.Fault≠0/\∀n,∃q,Qa3 N h (n+1) (i:Int)=some (.ret q)/\q.Fault≠0)\/(f.Fault=0/\∀n,Qa3 N h (n+1) (i:Int)=Qa3 N h n ((i+1:Nat):Int))):=by
 have hb:=ht.hb;have hp:=XL hN hb ep;have H:h.p.length<=100000:=hb.2;have t:Xd h.p (i:Int)=some (pg h.p (i:Int)):=XQ aa aa;have g:∀n,Qa3 N h (n+1) (i:Int)=jn (λ(_:Unit)=>
  bnd (QfY N h (i:Int)) λu=>
  bif (u.2 != 0)then some (.ret (Ut.mk 3 (i:Int) 0))
  else bnd (QfG N h (i:Int) u.1) λz=>
  bif z.2 then some (.ret (Ut.mk 5 (i:Int) z.1))
  else bnd (Qgc N h (i:Int)) λA=>
  bif A.2 then some (.ret (Ut.mk 4 (i:Int) A.1))
  else Qa3 N h n ((i+1:Nat):Int)) λB=>
  bif ((pg h.p (i:Int)).k != 0)then(bif ((pg h.p (i:Int)).s != h.s)then some (.ret (Ut.mk 2 (i:Int) 0))
   else B ())
  else B ():=by
  intro n
  rw[Qa3,Wi aa,Wc,t,Xa,Xg aa]
 simp only[g,Xr];rw[Qd5,Xr,t];simp only[Xa];by_cases e:(pg h.p (i:Int)).k≠0/\(pg h.p (i:Int)).s≠h.s
 .rw[show((pg h.p (i:Int)).k != 0)=true by simpa using e.1,show((pg h.p (i:Int)).s != h.s)=true by simpa using e.2];exact⟨_,rfl,.inl ⟨by show(2:Int)≠0;omega,λn=>⟨_,rfl,by show(2:Int)≠0;omega⟩⟩⟩
 have I:∀{α:Type} (x y:α),(bif ((pg h.p (i:Int)).k != 0)then(bif ((pg h.p (i:Int)).s != h.s)then x else y)else y)=y:=by
  intro α x y;by_cases k0:(pg h.p (i:Int)).k=0
  .rw[show((pg h.p (i:Int)).k != 0)=false by simpa using k0,Wa]
  have:(pg h.p (i:Int)).s=h.s:=Classical.byContradiction λJ=>e ⟨k0,J⟩;rw[show((pg h.p (i:Int)).s != h.s)=false by simpa using this,Wa,OC]
 simp only[I];obtain⟨r,K,L,D⟩:=Qf2 hN hb hp (i:Int) aa aa;simp only[Xhn hN ht,K,Xa];by_cases E:r.2=0;case neg=>
  rw[show(r.2 != 0)=true by simpa using E]
  exact⟨_,rfl,.inl ⟨by show(3:Int)≠0;omega,λn=>⟨_,rfl,by show(3:Int)≠0;omega⟩⟩⟩
 rw[show(r.2 != 0)=false by simpa using E];simp only[Wa];obtain⟨⟨j,l,_⟩,_,_⟩:=L;obtain⟨a,M,b,eb⟩:=XkU hN ht hp (i:=(i:Int)) aa aa r.1 aa j l;simp only[M,eb,Xa];by_cases G:a=0;case neg=>
  rw[show(a != 0)=true by simpa using G]
  exact⟨_,rfl,.inl ⟨by show(5:Int)≠0;omega,λn=>⟨_,rfl,by show(5:Int)≠0;omega⟩⟩⟩
 rw[show(a != 0)=false by simpa using G];simp only[Wa];obtain⟨d,O,R,o⟩:=Xm6 hN ht ep (i:=(i:Int)) aa aa;simp only[O,o,Xa];by_cases hd:d=0;case neg=>
  rw[show(d != 0)=true by simpa using hd]
  exact⟨_,rfl,.inl ⟨by show(4:Int)≠0;omega,λn=>⟨_,rfl,by show(4:Int)≠0;omega⟩⟩⟩
 rw[show(d != 0)=false by simpa using hd];simp only[Wa]
 first
  |exact⟨_,rfl,.inr ⟨rfl,λn=>rfl⟩⟩
  |exact⟨_,rfl,.inr ⟨rfl,trivial⟩⟩
  |exact⟨_,rfl,.inr rfl⟩
  |simp
def Xna(hN:NB N){h:Wp}(ht:HT h)(ep:Qab N h=some true):∃P:Prop,XpH P (Qgr N h)/\∃e,Qbj N h N 0=some e/\(P->∃f,e=.ret f/\f.Fault≠0)/\(¬P->e=.nxt ()):=by
 have hb:=ht.hb;have E:h.p.length<=100000:=hb.2;have D:h.p.length<N:=by unfold NB at hN;omega
 let p:Nat->Prop:=λk=>∃f,Qd5 N h (k:Int)=some f/\f.Fault≠0;refine⟨∃j,0<=j/\j<h.p.length/\p j,?_,?_⟩
 .have key:=JM (L:=h.p.length) (F:=Qa3 N h) (p:=p) (Q:=λ f=>f.Fault≠0) (u:=())
   (λn k r o=>by
    obtain⟨f,z,s⟩:=o
    obtain⟨f2,l,g⟩:=XfW hN ht ep r
    rw[z]at l;cases l
    rcases g with g|g
    .obtain⟨G,H,A⟩:=g.2 n;exact⟨G,H,A⟩
    .exact absurd g.1 s)
   (λn k r q=>by
    obtain⟨f2,l,g⟩:=XfW hN ht ep r
    rcases g with g|g
    .exact absurd ⟨f2,l,g.1⟩ q
    .exact g.2 n)
   (λn=>by rw[Qa3,Wh aa,Wa]) N 0 aa aa
  obtain⟨e,I,J,e3⟩:=key;have B:Qa3 N h N 0=some e:=I;unfold XpH;rw[Qgr,B,Xa];by_cases y:∃j,0<=j/\j<h.p.length/\p j
  .obtain⟨f,rfl,s⟩:=J y;rw[Xs];exact⟨_,rfl,λ_=>s,λt=>absurd y t⟩
  rw[e3 y,Xo];exact⟨_,rfl,λt=>absurd t y,λ_=>rfl⟩
 have key:=JM (L:=h.p.length) (F:=Qbj N h) (p:=p) (Q:=λ f=>f.Fault≠0) (u:=())
  (λn k r o=>by
   obtain⟨f,z,s⟩:=o
   rw[Qbj,Wi aa,Wc,z,Xa,show(f.Fault != 0)=true by simpa using s]
   exact⟨f,rfl,s⟩)
  (λn k r q=>by
   obtain⟨f2,l,g⟩:=XfW hN ht ep r
   have K:f2.Fault=0:=Classical.byContradiction λt=>q ⟨f2,l,t⟩
   rw[Qbj,Wi aa,Wc,l,Xa,show(f2.Fault != 0)=false by simpa using K,Wa,Xg aa])
  (λn=>by rw[Qbj,Wh aa,Wa]) N 0 aa aa
 exact key
def XfX{f:Ut}(e:f.Fault≠0):((f.Fault==0)&&((f.Page==0)&&(f.Addr==0)))=false:=by rw[show(f.Fault==0)=false by simpa using e,Uh]
def Xhr(hN:NB N){h:Wp}(ht:HT h):Qgd N h=Qb2 N h:=by
 have hb:=ht.hb;have r:h.p.length<=100000:=hb.2;rw[Qgd,Qb2,Qg0,QfA,YU r (by unfold NB at hN;omega)];obtain⟨b,eb⟩:=XaG (N:=N) hN hb;simp only[eb,Xa];cases b with
 |false=>rfl
 |true=>
 rw[Wl,Wa,Wa];obtain⟨P,⟨f,E,s,t⟩,e,G,H,e3⟩:=Xna hN ht eb;obtain⟨y,I,_⟩:=KN hN hb;obtain⟨⟨g,J,u,z⟩,⟨K,A,j,l⟩⟩:=Xhq hN ht eb I;simp only[E,G,Xa];by_cases q:P
 .obtain⟨M,rfl,B⟩:=H q;simp only[Xs,XfX (s q),WY,Wc,Xa,XfX B]
 rw[e3 q,t q];simp only[Xo,J,A,Xa,zF,show((0:Int)==0)=true from rfl,Bool.and_self,Wl,Wa];by_cases o:∃a∈y.1,Xac h y.1 a
 .simp only[XfX (u o),WY,Wc,Xa,show(K.Fault != 0)=true by simpa using j o,XfX (j o)]
 rw[z o,l o];simp only[zF,show((0:Int)==0)=true from rfl,show((0:Int) != 0)=false from rfl,Bool.and_self,Wl,Wa];have D:∀(n:Nat) (c i:Int),Qcl N h n c i=Qa1 N h n c i:=by
  intro n;induction n with
  |zero=>intro c i;rw[Qcl,Qa1]
  |succ n L=>
   intro c i;rw[Qcl,Qa1];simp only[L];cases O:Xd h.p i with
   |none=>simp only[V4]
   |some p=>simp only[Xa]
 rw[D]
def XkW(hN:NB N){h:Wp}(ht:HT h){l:List Int}(D:l.length<=1000000):QfZ N h l=Qb5 N h l:=by
 have o:1000000<N:=by unfold NB at hN;omega
 have hb:=ht.hb;rw[QfZ,Qb5,Xhr hN ht];obtain⟨b,eb,_⟩:=Jd hN hb;rw[eb,Xa,Xa];cases b with
 |false=>rfl
 |true=>
 obtain⟨y,E,T,G,_⟩:=KN hN hb;rw[Wl,Wa,Wa,Xab hN ht,E,Xa,Xa];have s:∀x:Int,Qes N x y.1=some (x != 0&&!y.1.contains x):=by intro x;obtain⟨k,H⟩:=Xm8 (N:=N) y.1 x aa o G;rw[Qes,H,Xa];cases (x != 0)<;>rfl
 rw[QaV,Qa9];rw[JE (p:=λx:Int=>x != 0&&!y.1.contains x) D o (λn k x e=>by
  have f:=Xq e
  rw[Qaq,Xm f,Wc,Xc,e,Xa,s,Xa,Xg aa]) (λn=>by rw[Qaq,Xv,Wa])]
 rw[Xa,Xa,KH]
 have key:=JM (L:=l.length) (F:=QaC N l y) (p:=λk=>∃f:k<l.length,(l[k] != 0&&!y.1.contains l[k])=true) (Q:=λb=>b=false) (u:=())
  (λn k f q=>by
   obtain⟨I,g⟩:=q
   simp only[Wr]at g
   refine⟨false,?_,rfl⟩
   rw[QaC,Wi aa,Wc,Xc,Wb f,Xa,g.1,Wc,Xa,Ym _ aa aa,Xa,g.2,Wc])
  (λn k f t=>by
   rw[QaC,Wi aa,Wc,Xc,Wb f,Xa,Xa,Ym _ aa aa,Xa,Xg aa]
   have:(l[k] != 0&&!y.1.contains l[k])=false:=by rw[←In];exactλJ=>t ⟨f,J⟩
   cases K:(l[k] != 0)with
   |false=>rfl
   |true=>rw[K,WI]at this;rw[this];rfl)
  (λn=>by rw[QaC,Wh aa,Wa]) N 0 aa aa
 obtain⟨e,M,O,e3⟩:=key;have z:QaC N l y N 0=some e:=M;rw[z,Xa];cases A:l.any (λx=>x != 0&&!y.1.contains x)with
 |true=>obtain⟨x,R,g⟩:=Io.1 A;obtain⟨j,r,rfl⟩:=Wv R;obtain⟨b,rfl,B⟩:=O ⟨j,UY _,r,r,g⟩;rw[Xs,B];rfl
 |false=>
  have:=e3 λ⟨j,_,r,S,g⟩=>by rw[Iu]at A;exact A _ (Wt r) g
  subst this;rw[Xo];rfl
def Xad(hN:NB N){h:Wp}(ht:HT h){l:List Int}(S:l.length<=10000000 / 4)(G:Qb2 N h=some true){y:List Int×Int}(D:Qaj N h=some y):Qb5 N h l=some (l.all λx=>x==0||y.1.contains x):=by
 have hb:=ht.hb;obtain⟨T,g,U,V,_⟩:=KN hN hb;rw[D]at g;cases g;have E:l.length<N:=by unfold NB at hN;omega
 have H:1000000<N:=by unfold NB at hN;omega
 rw[Qb5,G,Xa,Wl,Wa,D,Xa]
 have key:=JM (L:=l.length) (F:=QaC N l y) (p:=λk=>∃o:k<l.length,(l[k]==0||y.1.contains l[k])=false) (Q:=λb=>b=false) (u:=())
  (λn k o q=>by
   obtain⟨I,f⟩:=q
   simp only[Bool.or_eq_false_iff]at f
   refine⟨false,?_,rfl⟩
   rw[QaC,Wi aa,Wc,Xc,Wb o,Xa,show(l[k] != 0)=true by simpa using f.1,Wc,Xa,Ym _ aa aa,Xa,f.2];rfl)
  (λn k o s=>by
   rw[QaC,Wi aa,Wc,Xc,Wb o,Xa,Xa,Ym _ aa aa,Xa,Xg aa]
   have:(l[k]==0||y.1.contains l[k])=true:=by rw[←Bool.not_eq_false];exactλJ=>s ⟨o,J⟩
   by_cases t:l[k]=0
   .rw[show(l[k] != 0)=false by simpa using t,Wa]
   .rw[show(l[k]==0)=false by simpa using t,U1]at this
    rw[show(l[k] != 0)=true by simpa using t,this];rfl)
  (λn=>by rw[QaC,Wh aa,Wa]) N 0 aa aa
 obtain⟨e,K,M,e3⟩:=key;have z:QaC N l y N 0=some e:=K;rw[z,Xa];cases A:l.all (λx=>x==0||y.1.contains x)with
 |false=>obtain⟨x,O,f⟩:=List.all_eq_false.1 A;obtain⟨j,r,rfl⟩:=Wv O;obtain⟨b,rfl,B⟩:=M ⟨j,UY _,r,r,by simpa using f⟩;rw[Xs,B]
 |true=>
  have:=e3 λ⟨j,_,r,R,f⟩=>by rw[WP]at A;rw[A _ (Wt r)]at f;cases f
  subst this;rw[Xo]
end
section
variable {N:Nat}
def XfY(l:List UQ)(r:Int)(f:l.length<=1000000)(hN:1000000<N):QfT N l r=some (Zj (λp=>p.a==r) l):=by
 rw[QfT];exact JE (p:=λp:UQ=>p.a==r) f hN (λn k x e=>by
  have g:=Xq e
  rw[QeS,Xm g,Wc,Xc,e,Xa,Xg aa]) (λn=>by rw[QeS,Xv,Wa])
def Xnb(l:List UQ)(r:Int)(f:l.length<=1000000)(hN:1000000<N):Qfu N l r=some (Zj (λp=>p.a==r) l):=by
 rw[Qfu,Qa5];rw[JE (p:=λp:UQ=>p.a==r) f hN (λn k x e=>by
  have g:=Xq e
  rw[Qao,Xm g,Wc,Xc,e,Xa,Qe2,Xa,Xg aa]) (λn=>by rw[Qao,Xv,Wa]),Xa]
def Xa8(hN:NB N){h:Wp}(ht:HT h)(hp:UP h)(pins:List UQ)(g:pins.length<=1000000)(y:List Int×Int)(H:y.1.length<=4096)(D:y.1.Pairwise (·<·))(l:∀a∈y.1,I5 h a):∀(n k:Nat) (v:List Int),k<=pins.length->pins.length-k<n->v.length=h.p.length ->
 ∃e,Qbk N h pins y n (k:Int) v=some e/\Qb8 N pins h y n (k:Int) v=some (match e with|.ret _=>.ret ([],false)|.nxt v=>.nxt v)/\(∀b,e=.ret b->b=false)/\(∀f,e=.nxt f->f.length=h.p.length/\∀p∈pins.drop k,y.1.contains p.a=true)
 |0,k,v,_,I,_=>by omega
 |n+1,k,v,T,I,E=>by
  have j:1000000<N:=by unfold NB at hN;omega
  rw[Qbk,Qb8];by_cases r:k<pins.length;case neg=>
   rw[Wh aa,Wa,Wa]
   refine⟨_,rfl,rfl,?_,?_⟩<;>intro f e<;>cases e
   exact⟨E,λp hp=>by rw[WN aa]at hp;cases hp⟩
  obtain⟨q,eq⟩:=Xm8 (N:=N) y.1 pins[k].a aa j D;have fin:∀(o:Option (Ex (List Int×Bool) (List Int))),o=some (.ret ([],false))->∃e:Ex Bool (List Int),some (.ret false)=some e/\o=some (match e with|.ret _=>.ret ([],false)|.nxt v=>.nxt v)/\(∀b,e=.ret b->b=false)/\(∀f,e=.nxt f->f.length=h.p.length/\∀p∈pins.drop k,y.1.contains p.a=true):=by
   intro o J
   refine⟨_,rfl,J,?_,?_⟩<;>intro b e<;>cases e
   rfl
  have K:Xd pins (k:Int)=some pins[k]:=by rw[Xc,Wb r]
  simp only[Wi (show(k:Int)<(pins.length:Int) by omega),Wc,K,Xa,Ym pins[k].a (show y.1.length<=1000000000 by omega) (show y.1.length<N by omega),eq,XfY pins pins[k].a g j,Xnb pins pins[k].a g j];cases t:y.1.contains pins[k].a with
  |false=>exact fin _ rfl
  |true=>
  have u:=l _ (by rw[Ub]at t;exact t);have z:=u.tu hp;obtain⟨L,A,O⟩:=Je (N:=N) hp u;have Q:QcI N h.c pins[k].a=some (pgi h.c pins[k].a,pgo h.c pins[k].a,0):=by rw[VK,Wg (by rw[hp.conf];simp),Wj u.rng];rfl
  obtain⟨c,B⟩:∃c,Xd v (pgi h.c pins[k].a)=some c:=⟨_,X7 A aa⟩
  simp only[Wl,Wa,L,Xm0 N h.c pins[k].a z.2,Q,Xa,B,Xg (show k<=140737488355328 by omega)];obtain⟨e,n1,n2,R,G⟩:=Xa8 hN ht hp pins g y H D l n (k+1) (v.set (pgi h.c pins[k].a).toNat (wI (c+pins[k].M))) aa aa (by rw[Ww];exact E);have S:∀f,e=.nxt f->f.length=h.p.length/\∀p∈pins.drop k,y.1.contains p.a=true:=λf s=>⟨(G f s).1,λp hp=>by
   rw[Wm r]at hp
   rcases Us.1 hp with rfl|hp
   .exact t
   .exact(G f s).2 p hp⟩
  cases (Zj (λp:UQ=>p.a==pins[k].a) pins != (k:Int))<;>cases (decide (pins[k].M<1))<;>cases (decide (pins[k].M>1000));all_goals simp only[Wc,Wa]
  all_goals first
   |exact⟨e,n1,n2,R,S⟩
   |exact fin _ rfl
def XkX(hN:NB N){h:Wp}(ht:HT h){pins:List UQ}(f:pins.length<=1000000):Qg3 N h pins=Qcc N h pins:=by
 have q:1000000<N:=by unfold NB at hN;omega
 have hb:=ht.hb;have r:h.p.length<=100000:=hb.2;rw[Qg3,Qcc,Xhr hN ht];obtain⟨b,eb,g⟩:=Jd hN hb;rw[eb,Xa,Xa];cases b with
 |false=>rfl
 |true=>
 rw[Wl,Wa,Wa];cases decide ((pins.length:Int)>64)with
 |true=>rfl
 |false=>
 have hp:UP h:=(g rfl).prop;obtain⟨y,s,t,u,j,_⟩:=KN hN hb;rw[Wa,Wa,QfM,Xab hN ht,s,Xa,Xa];rw[Xe aa];obtain⟨e,z,A,e3,e4⟩:=Xa8 hN ht hp pins f y t u j N 0 (List.replicate (h.p.length:Int).toNat 0) aa aa (by rw[WO];rfl);have l:Qbk N h pins y N 0 (List.replicate (h.p.length:Int).toNat 0)=some e:=z;have o:Qb8 N pins h y N 0 (List.replicate (h.p.length:Int).toNat 0)=_:=A;rw[Xe aa,l,o,Xa,Xa];cases e with
 |ret b=>dsimp only;rw[e3 b rfl,Xs,Xs,Xa];rfl
 |nxt v=>
  dsimp only;rw[Xo,Xo,Xa];have B:∀(n:Nat) (i:Int),Qer N h (v,true) n i=QbC N h v n i:=by
   intro n;induction n with
   |zero=>intro i;rw[Qer,QbC]
   |succ n D=>intro i;rw[Qer,QbC];simp only[D]
  simp only[B,Wl,Wa]
def Xiz(hN:NB N){h:Wp}(ht:HT h){pins:List UQ}(j:pins.length<=1000000)(f:Qcc N h pins=some true):Qb2 N h=some true/\pins.length<=64/\∀y,Qaj N h=some y->∀p∈pins,y.1.contains p.a=true:=by
 have hb:=ht.hb;have t:h.p.length<=100000:=hb.2;rw[Qcc]at f;obtain⟨b,eb,l⟩:=Jd hN hb;rw[eb,Xa]at f;cases b with
 |false=>cases f
 |true=>
 rw[Wl,Wa]at f;refine⟨eb,?_,λy s p o=>?_⟩
 .cases hd:decide ((pins.length:Int)>64)with
  |true=>rw[hd]at f;cases f
  |false=>have:=W5 hd;omega
 have hp:UP h:=(l rfl).prop;obtain⟨B,g,u,z,q,_⟩:=KN hN hb;rw[s]at g;cases g;cases hd:decide ((pins.length:Int)>64)with
 |true=>rw[hd]at f;cases f
 |false=>
 rw[hd,Wa,s,Xa,Xe aa]at f;obtain⟨e,A,D,e3,e4⟩:=Xa8 hN ht hp pins j y u z q N 0 (List.replicate (h.p.length:Int).toNat 0) aa (by unfold NB at hN;omega) (by rw[WO];rfl);have r:Qbk N h pins y N 0 (List.replicate (h.p.length:Int).toNat 0)=some e:=A;rw[r,Xa]at f;cases e with
 |ret b=>rw[e3 b rfl,Xs]at f;cases f
 |nxt v=>exact(e4 v rfl).2 p (by rw[WL];exact o)
def Xa9{x:Uw}(hp:x.P.length<=1000000):∀(n k:Nat) (v:List Int),k<=x.P.length->x.P.length-k<n->v.length<=10000000+k ->
 QeA N x n (k:Int) v=some (v++(x.P.drop k).map (·.a))/\Qbm N x n (k:Int) v=some (v++(x.P.drop k).map (·.a))
 |0,k,v,_,f,_=>by omega
 |n+1,k,v,g,f,h=>by
  rw[QeA,Qbm];by_cases e:k<x.P.length
  .rw[Wi aa,Wc,Wc,Xc,Wb e,Xa,Xa,Xe aa,Xe aa,Xg aa];obtain⟨a,b⟩:=Xa9 hp n (k+1) (v++[x.P[k].a]) aa aa (by rw[Wu];simp;omega);rw[a,b,Wm e,W0,UA];exact⟨rfl,rfl⟩
  rw[Wh aa,Wa,Wa,WN aa];simp
def JF(x:Uw):List Int:=((x.R++(bif Yn x.l then XC x.l.S else[]))++(bif X8 x.g.e then Xp x.g.e else[]))++x.P.map (·.a)
def Xhs{x:Uw}(f:EB x):(JF x).length<=104160+x.P.length:=by have h:=ZW f.loc;have j:=YD x.g.e;have l:=f.pins;have o:=f.roots;unfold JF;simp only[Wu,UK];omega
def XdY(hN:NB N){x:Uw}(f:EB x):QcW N x=some (JF x):=by
 have o:=ZW f.loc;have p:=YD x.g.e;have j:=f.pins;have q:=f.roots;have h:1000000<N:=by unfold NB at hN;omega
 rw[QcW,Xe aa,Zw f.loc h,Xa,Xe aa,Yk f.glo h,Xa,Xe aa];have:=(Xa9 (N:=N) j N 0 ((x.R++(bif Yn x.l then XC x.l.S else[]))++(bif X8 x.g.e then Xp x.g.e else[])) aa aa (by simp only[Wu];omega)).2;rw[show(0:Int)=((0:Nat):Int)from rfl,this,Xa,WL];rfl
def XiA(hN:NB N){x:Uw}(h:EB x):QgL N x=some (JF x):=by
 have l:=ZW h.loc;have o:=YD x.g.e;have j:=h.pins;have p:=h.roots;have f:1000000<N:=by unfold NB at hN;omega
 rw[QgL,XeV h.loc f,Xa,Vh h.glo f,Xa,Qhd];have:=(Xa9 (N:=N) j N 0 [] aa aa ab).1;rw[show(0:Int)=((0:Nat):Int)from rfl,this,Xa,Xa,WL,Um,Qge,Xce _ ab (by simp only[XbH,UK];omega) f,Xa,Xa];unfold JF;simp[W0]
structure ET(x:Uw):Prop where
 eb:EB x
 tw:XY x.h
def ET.ht{x:Uw}(t:ET x):HT x.h:=⟨t.eb.heap,t.tw⟩
end
section
variable {N:Nat}
def Xnc(l:List Int):(!l.all λp=>!(p==0))=l.contains 0:=by
 cases h:l.contains 0 with
 |true=>rw[Ub]at h;rw[show(l.all λp=>!(p==0))=false from List.all_eq_false.2 ⟨0,h,ab⟩];rfl
 |false=>
  have f:¬(0:Int)∈l:=by rw[←Ub,h];simp
  rw[show(l.all λp=>!(p==0))=true from WP.2 λx g=>by
   by_cases e:x=0
   .subst e;exact absurd g f
   .simpa using e];rfl
def XpI(hN:NB N){x:Uw}(ht:ET x):Qf0 N x=Qcd N x:=by
 have f:1000000<N:=by unfold NB at hN;omega
 have h:=ht.eb;have z:=ZW h.loc;have A:=YD x.g.e;have B:=YD x.v.e;have j:=h.pins;have I:=h.roots;rw[Qf0,Qcd,XkX hN ht.ht j];obtain⟨b,eb,_⟩:=V7 hN h.heap j;rw[eb,Xa,Xa];cases b with
 |false=>rfl
 |true=>
 obtain⟨s,t,o⟩:=Xiz hN ht.ht j eb;simp only[Wl,Wa,XdS h.loc f,Kc h.loc f,V8 h.glo f,ZF h.glo f,V8 h.wea f,ZF h.wea f,Vh h.glo f,Yk h.glo f,Vh h.wea f,Yk h.wea f,Zw h.loc f,Xa,XiA hN h];cases el:Yn x.l with
 |false=>rfl
 |true=>
 cases et:X8 x.g.e with
 |false=>rfl
 |true=>
 cases D:X8 x.v.e with
 |false=>rfl
 |true=>
 have E:JF x=((x.R++XC x.l.S)++Xp x.g.e)++x.P.map (·.a):=by unfold JF;rw[el,et];rfl
 have u:=Xhs h;rw[el,Wc]at z;rw[et,Wc]at A;rw[D,Wc]at B;simp only[Wl,Wa,Wc];rw[XbG aa f,Xa,Xnc,Ym 0 aa aa,Xa];cases (Xp x.g.e).contains 0 with
 |true=>rfl
 |false=>
 rw[Wa,Wa,Xe aa,Xe aa,Xe aa,Xe aa];rw[Qge,Xce _ ab (by simp only[XbH];omega) f,Xa,Xa];obtain⟨y,q,J,_⟩:=KN hN h.heap;have G:[JF x,Xp x.v.e].flatten=JF x++Xp x.v.e:=by simp
 rw[G,XkW hN ht.ht (by rw[Wu];omega),Xad hN ht.ht (by rw[Wu];omega) s q,Xad hN ht.ht (by simp only[Wu];omega) s q,Xa,Xa,E];simp only[I4];have hp:(x.P.map (·.a)).all (λx=>x==0||y.1.contains x)=true:=by rw[WP];intro r H;obtain⟨p,hp,rfl⟩:=WG.1 H;rw[o y q p hp,Bool.or_true]
 rw[hp,OA]
end
section
variable {N:Nat}
def Xht(p:WJ):Bool:=p.k != 0
def KZ(ps l:List WJ)(i:Nat):List WJ:=(ps.take i++l)++ps.drop (i+l.length)
def Xae{ps l:List WJ}{i:Nat}(h:i+l.length<=ps.length):(KZ ps l i).length=ps.length:=by unfold KZ;simp only[Wu,Wx,WR];omega
def XjH(l i k:Nat)(f r:WJ)(ps:List WJ)(e:ps.length<=100000)(g:i+k<=ps.length):∀(n m:Nat),m<=k->k-m<n ->
 QdV N (i:Int) (k:Int) f r n (m:Int) (KZ ps (List.replicate m r) i)=some (if((ps.drop (i+m)).take (k-m)).any Xht=true then .ret ([],20)else .nxt (KZ ps (List.replicate k r) i))
 |0,m,_,h=>by omega
 |n+1,m,s,t=>by
  rw[QdV];by_cases o:m<k;case neg=>
   obtain rfl:m=k:=aa
   rw[Wh aa,Wa,IE,Ot,List.any_nil,Wg ab]
  have j:(KZ ps (List.replicate m r) i).length=ps.length:=Xae (by rw[WO];omega);have p:(KZ ps (List.replicate m r) i)[i+m]? = some (ps[i+m]'aa):=by unfold KZ;rw[Ug ah,UC];simp only[Wu,Wx,WO];rw[show i+m+(i+m-(min i ps.length+m))=i+m by omega];exact Wb aa
  have q:(KZ ps (List.replicate m r) i).set (i+m) r=KZ ps (List.replicate (m+1) r) i:=by unfold KZ;rw[List.set_append_right _ _ ah];simp only[Wu,Wx,WO];rw[show i+m-(min i ps.length+m)=0 by omega,Wm (show i+m<ps.length by omega),Od,List.replicate_succ',←W0 (ps.take i),W0 (ps.take i++List.replicate m r)];rfl
  have hw:wI ((i:Int)+(m:Int))=((i+m:Nat):Int):=by rw[Xf aa aa];omega
  rw[Wi aa,Wc,hw,Xc,p,Xa,Xa,Xg aa,show(((i+m:Nat):Int)).toNat=i+m from rfl,q];have hd:(ps.drop (i+m)).take (k-m)=ps[i+m]'aa::(ps.drop (i+(m+1))).take (k-(m+1)):=by rw[Wm (show i+m<ps.length by omega),show k-m=(k-(m+1))+1 by omega,List.take_succ_cons];rfl
  rw[hd,List.any_cons];cases hb:((ps[i+m]'aa).k != 0)with
  |true=>rw[Wc,show Xht (ps[i+m]'aa)=true from hb,I7,Wj rfl]
  |false=>rw[Wa,show Xht (ps[i+m]'aa)=false from hb,U1];exact XjH l i k f r ps e g n (m+1) aa aa
end
section
variable {N:Nat}
def XpJ{α:Type}(q:α->Bool)(l:List α)(j:Nat)(x:α)(h:∀y,l[j]? = some y->q y=q x):(l.set j x).all q=l.all q:=by
 by_cases e:j<l.length
 .have f:l.set j x=l.take j++x::l.drop (j+1):=Ic▸(Wj e);have g:l=l.take j++l[j]::l.drop (j+1):=by rw[List.getElem_cons_drop,Ig]
  rw[f];conv=>rhs;rw[g]
  simp only[I4,U7];rw[h _ (Wb e)]
 rw[List.set_eq_of_length_le aa]
def Xet{α:Type}(l:List α)(i k j:Nat)(x:α):((l.set j x).drop i).take k=if i<=j then((l.drop i).take k).set (j-i) x else(l.drop i).take k:=by
 by_cases h:i<=j
 .rw[Wj h,List.drop_set,Wg aa,List.take_set]
 rw[Wg h,List.drop_set,Wj aa]
def Xnd{c:Uj}{ps:List WJ}{j:Nat}(l:j<ps.length){x:WJ}(o:∀sp,Ye sp x=Ye sp ps[j])(q:Yf c ps j x=Yf c ps j ps[j])(i:Nat)(r:i<ps.length):
 Yf c (ps.set j x) i ((ps.set j x)[i]'(by rw[Ww];exact r))=Yf c ps i ps[i]:=by
 have f:∀sp k,(((ps.set j x).drop (i+1)).take k).all (Ye sp)=((ps.drop (i+1)).take k).all (Ye sp):=by
  intro sp k;rw[Xet];split
  .refine XpJ _ _ _ _ λy g=>?_;rw[Ua]at g;split at g
   .rw[UC,show i+1+(j-(i+1))=j by omega,Wb l]at g;cases g;exact(o sp).symm
   cases g
  rfl
 have e:∀p,Yf c (ps.set j x) i p=Yf c ps i p:=by intro p;unfold Yf;simp only[Ww,f]
 rw[e];by_cases h:i=j
 .subst h;rw[List.getElem_set_self];exact q
 rw[List.getElem_set_ne aa]
def XcA{h:Wp}(l:h.p.length<=100000)(hN:1000000<N)(e:List WJ)(f:e.length=h.p.length)(j:∀i(q:i<h.p.length),Yf h.c e i (e[i]'aa)=Yf h.c h.p i h.p[i])(ws:List Int)(b:Int):∀(n i:Nat),i<=h.p.length->Qac N ⟨h.c,ws,e,h.s,b⟩ n (i:Int)=Qac N h n (i:Int)
 |0,i,_=>by rw[Qac,Qac]
 |n+1,i,q=>by
  rw[Qac,Qac];dsimp only;rw[f];by_cases g:i<h.p.length;case neg=>rw[Wh (show¬(i:Int)<_ by omega),Wa,Wa]
  rw[Wi (show(i:Int)<_ by omega),Wc,Wc,Ku aa hN aa,Ku l hN g,j i g,Xa,Xa];have r:=Xaa (c:=h.c) g (p:=h.p[i]);generalize Yf h.c h.p i h.p[i]=s at *;by_cases o:s=0
  .subst o;rfl
  rw[show((s:Int)==0)=false by simpa using o,Wa,Wa,Xf aa aa,show(i:Int)+(s:Int)=((i+s:Nat):Int) by omega];exact XcA l hN e f j ws b n (i+s) aa
structure O1(h:Wp):Prop where
 conf:X5 h.c=true
 words:(h.w.length:Int)=h.c.p*h.c.W
 pages:(h.p.length:Int)=h.c.p
 space:0<=h.s/\h.s<=1
 bump:h.b = -1\/(0<=h.b/\h.b<h.p.length/\(pg h.p h.b).k=1)
def UP.pre{h:Wp}(hp:UP h):O1 h:=⟨hp.conf,hp.words,hp.pages,hp.space,hp.bump⟩
def KJ{h:Wp}(hp:O1 h):Qcx N h=bnd (Qac N h N 0) λe=>exK e (λr=>some r) λ_=>some true:=by
 have q:=Xi.1 hp.conf;have t:=XV hp.conf (i:=0) aa aa;have hw:=hp.words;have f:=hp.pages;have g:((h.w.length:Int) != wI (h.c.W*h.c.p))=false:=by rw[Int.mul_comm,Xf aa aa];simpa using hw
 have j:((h.p.length:Int) != h.c.p)=false:=by simpa using f
 have e3:∀{α:Type} (x y z:α),(bif h.s != 0 then(bif h.s != 1 then x else y)else y)=y:=by
  intro α x y z;by_cases l:h.s=0
  .rw[l];rfl
  have o:h.s=1:=by have:=hp.space;omega
  rw[o];rfl
 rw[Qcx];simp only[Xr,KI,Xa,hp.conf,Wl,Wa,g,j];rw[e3 _ _ (some true)];rcases hp.bump with hb|⟨b0,b1,b2⟩
 .rw[hb];rfl
 rw[show(h.b != -1)=true by simp;omega,Wc,X0 (show¬h.b<0 by omega),Wa,X0 (show¬h.b>=(h.p.length:Int) by omega),Wa,XQ b0 b1,Xa,b2];rfl
def Xaf{h:Wp}(hN:NB N)(hb:HB h)(ep:Qab N h=some true){e:List WJ}(f:e.length=h.p.length)(l:∀i(o:i<h.p.length),Yf h.c e i (e[i]'aa)=Yf h.c h.p i h.p[i]){ws:List Int}(hw:ws.length=h.w.length){b:Int}(g:b = -1\/(0<=b/\b<e.length/\(pg e b).k=1)):Qab N ⟨h.c,ws,e,h.s,b⟩=some true:=by
 have j:1000000<N:=by unfold NB at hN;omega
 have hp:=XL hN hb ep;rw[←YU (by show e.length<=_;rw[f];exact hb.2) j,KJ (h:=⟨h.c,ws,e,h.s,b⟩) ⟨hp.conf,by show(ws.length:Int)=_;rw[hw];exact hp.words,by show(e.length:Int)=_;rw[f];exact hp.pages,hp.space,g⟩];have:=XcA hb.2 j e f l ws b N 0 aa;rw[show((0:Nat):Int)=0 from rfl]at this;rw[this,←KJ hp.pre,YU hb.2 j,ep]
end
section
variable {N:Nat}
def XjI(hN:1000000<N){ps:List WJ}(h:ps.length<=100000){i:Int}(f r:WJ)(k:Nat)(y:1<=k)(o:k<=1000)(q:RunOK ps i (k:Int)):QeH N ps i (k:Int) f r=some (KZ ps (f::List.replicate (k-1) r) i.toNat,0):=by
 obtain⟨z,_,A,s⟩:=q;obtain⟨j,rfl⟩:∃j:Nat,i=(j:Int):=⟨i.toNat,aa⟩
 have g:((ps.drop j).take k).any Xht=false:=by
  rw[Iu];intro p hp hb;obtain⟨m,t,rfl⟩:=Wv hp;rw[Wx,WR]at t;rw[ID,On]at hb;have:=s (m:Int) aa aa;have e:pg ps ((j:Int)+(m:Int))=ps[j+m]'aa:=by unfold pg;rw[show((j:Int)+(m:Int)).toNat=j+m by omega,We,Wb aa];rfl
  rw[e]at this;unfold Xht at hb;rw[this]at hb;cases hb
 have ht:=XjH (N:=N) 0 j k f r ps h aa N 0 aa aa;have l:KZ ps (List.replicate 0 r) j=ps:=by unfold KZ;simp
 rw[l,Oc,Nat.sub_zero,show((0:Nat):Int)=0 from rfl,g,Wg ab]at ht;rw[QeH,X0 (show¬(j:Int)<0 by omega),Wa,X0 (show¬(j:Int)>=(ps.length:Int) by omega),Wa,Xf (n:=(ps.length:Int)-(j:Int)) aa aa,X0 (show¬(k:Int)>(ps.length:Int)-(j:Int) by omega),Wa,Xe aa,ht,Xa,Xo];have u:(KZ ps (List.replicate k r) j).length=ps.length:=Xae (by rw[WO];omega);rw[Xc,Wb aa,Xa,show(j:Int).toNat=j from rfl];congr 2;unfold KZ;obtain⟨m,rfl⟩:∃m,k=m+1:=⟨k-1,aa⟩
 rw[WO,Of,Uq,WO,List.replicate_succ,List.set_append_left _ _ ah,List.set_append_right _ _ ah];simp only[Wx];rw[show j-min j ps.length=0 by omega,Od]
end
section
variable {N:Nat}
def Xe5{c:Uj}{ps:List WJ}{j:Nat}{p:WJ}(e:p.k=1)(g:0<=p.s/\p.s<=1)(hp:0<=p.P/\p.P<=2147483647)(f:0<=p.u/\p.u<=c.W):Yf c ps j p=1:=by unfold Yf;rw[Wg aa,Wj aa,Wj e,Wj f]
def XiB{c:Uj}{ps:List WJ}{j:Nat}:Yf c ps j Z8=1:=rfl
def XbK{ps:List WJ}{j:Nat}(e:j<ps.length):pg ps (j:Int)=ps[j]:=by unfold pg;rw[show(j:Int).toNat=j from rfl,We,Wb e];rfl
def Xhu(hN:NB N){h:Wp}(hb:HB h)(ep:Qab N h=some true){j:Nat}(l:j<h.p.length){x:WJ}(o:x.k=1)(t:0<=x.s/\x.s<=1)(q:0<=x.P/\x.P<=2147483647)(y:0<=x.u/\x.u<=h.c.W)(f:h.p[j].k=0\/h.p[j].k=1){b:Int}(g:b=(j:Int)):Qab N ⟨h.c,h.w,h.p.set j x,h.s,b⟩=some true:=by
 have hp:=XL hN hb ep;have e:=hp.pgs (j:Int) aa aa;have z:Yf h.c h.p j h.p[j]=1:=by
  rcases f with f|f
  .have:=e.free (by rw[XbK l];exact f);rw[XbK l]at this;rw[this];rfl
  have a:=e.space;have b:=e.pins;have c:=e.small (by rw[XbK l];exact f);rw[XbK l]at a b c;exact Xe5 f a b c
 have r:∀(p:WJ) (sp:Int),p.k=0\/p.k=1->Ye sp p=false:=by intro p sp h;unfold Ye Kt;rw[show(p.k==3)=false by rcases h with h|h<;>rw[h]<;>rfl];rfl
 refine Xaf hN hb ep (by rw[Ww]) (λi A=>Xnd l (λsp=>by rw[r x sp (.inr o),r _ sp f]) ?_ i A) rfl (.inr ⟨aa,by rw[Ww];omega,?_⟩)
 .rw[z];exact Xe5 o t q y
 rw[g];unfold pg;rw[show(j:Int).toNat=j from rfl,We,Ip l];exact o
def XkY(N:Nat)(h:Wp)(n u first:Int):Option (Nat×Int):=
 if 0<=h.b/\u<=VO h.c/\(pg h.p h.b).s=h.s/\(pg h.p h.b).u+n<=h.c.W then some (h.b.toNat,(pg h.p h.b).u)
 else if 0<=first/\u<VO h.c then some (first.toNat,0)else none
def ZG(h:Wp)(n:Int)(j:Nat)(at_:Int):Wp:=⟨h.c,h.w,h.p.set j ⟨1,h.s,at_+n,(pg h.p (j:Int)).P⟩,h.s,(j:Int)⟩
def XkZ(hN:NB N){h:Wp}(hb:HB h)(hp:UP h){n u f:Int}(U:0<=n/\n<=300)(L:QfD N h.p=some u)(H:QcR N h.p 1=some f):
 Qef N h n=some (match XkY N h n u f with|some (j,a)=>(ZG h n j a,Xb h.c (j:Int) a,true)|none=>(zHp,0,false)):=by
 have t:1000000<N:=by unfold NB at hN;omega
 have y:=hb.2;have hpages:=hp.pages;have M:=Xi.1 hp.conf;have fresh:(bif decide (f<0)then some (zHp,(0:Int),false)else bif decide (u>=VO h.c)then some (zHp,0,false)else bnd (QdD N h.p f h.s) λr=>bnd (Xd r.1 f) λz=>bnd (Xd r.1 f) λA=>bnd (Xd r.1 f) λo=>some ((Wp.mk h.c h.w (r.1.set f.toNat (WJ.mk o.k o.s (wI (A.u+n)) o.P)) h.s f),(wU (wI ((wI (4096+(wI (f*h.c.W))))+z.u))),true))=some (match (if 0<=f/\u<VO h.c then some (f.toNat,(0:Int))else none)with|some (j,a)=>(ZG h n j a,Xb h.c (j:Int) a,true)|none=>(zHp,0,false)):=by
  by_cases B:f<0
  .rw[Wi B,Wc,Wg aa]
  by_cases I:u>=VO h.c
  .rw[X0 B,Wa,Wi I,Wc,Wg aa]
  rw[X0 B,Wa,X0 I,Wa,Wj aa]
  have g:RunOK h.p f 1:=by
   rcases(KR (N:=N) (ps:=h.p) 1 aa aa).get_eq H with l|l
   .omega
   .exact l
  obtain⟨j,rfl⟩:∃j:Nat,f=(j:Int):=⟨f.toNat,aa⟩
  have J:j<h.p.length:=by have:=g.2.2.1;omega
  have O:=hp.space
  have Q:=XV hp.conf (i:=(j:Int)) aa aa
  have et:=XjI t y (WJ.mk 1 h.s 0 0) (WJ.mk 0 0 0 0) 1 aa aa g
  have D:QeH N h.p (j:Int) 1 (WJ.mk 1 h.s 0 0) (WJ.mk 0 0 0 0)=_:=et
  have q:KZ h.p (WJ.mk 1 h.s 0 0::List.replicate (1-1) (WJ.mk 0 0 0 0)) j=h.p.set j (WJ.mk 1 h.s 0 0):=by
   unfold KZ
   rw[Ic,Wj J];simp
  rw[QdD,X0 (show¬h.s<0 by omega),Wa,X0 (show¬h.s>1 by omega),Wa,D,show(j:Int).toNat=j from rfl,q,Xa,Xa]
  have R:Xd (h.p.set j (WJ.mk 1 h.s 0 0)) (j:Int)=some (WJ.mk 1 h.s 0 0):=by
   rw[Xc,Ip J]
  dsimp only
  have S:(pg h.p (j:Int)).P=0:=by
   have:=(hp.pgs (j:Int) aa aa).free (by have:=g.2.2.2 0 aa aa;simpa using this)
   rw[this];rfl
  simp only[R,Xa]
  unfold ZG Xb
  rw[List.set_set,S,Xf (n:=0+n) aa aa,Xf (n:=(j:Int)*h.c.W) aa aa,Xf (n:=4096+(j:Int)*h.c.W) aa aa,Xf (n:=4096+(j:Int)*h.c.W+0) aa aa,Xz aa aa]
 rw[Qef,Xe aa,XfJ,Xa,L,Xa,Xr,H];simp only[Xa];rw[fresh];unfold XkY;by_cases b0:h.b<0
 .rw[Wi b0,Wc,Wg (c:=0<=h.b/\u<=VO h.c/\_) (λl=>aa)]
 have e:0<=h.b/\h.b<h.p.length/\(pg h.p h.b).k=1:=by
  rcases hp.bump with l|l
  .omega
  exact l
 have E:=hp.pgs h.b e.1 e.2.1;have T:=E.small e.2.2;have Q:=XV hp.conf (i:=h.b) aa aa;rw[X0 b0,Wa,XQ e.1 e.2.1];simp only[Xa];rw[Xf (n:=(pg h.p h.b).u+n) aa aa];by_cases b1:(pg h.p h.b).s=h.s;case neg=>rw[show((pg h.p h.b).s != h.s)=true by simpa using b1,Wc,Wg (c:=0<=h.b/\u<=VO h.c/\_) (λl=>b1 l.2.2.1)]
 rw[show((pg h.p h.b).s != h.s)=false by simpa using b1,Wa];by_cases b2:(pg h.p h.b).u+n>h.c.W
 .rw[Wi b2,Wc,Wg (c:=0<=h.b/\u<=VO h.c/\_) (λl=>aa)]
 by_cases K:u>VO h.c
 .rw[X0 b2,Wa,Wi K,Wc,Wg (c:=0<=h.b/\u<=VO h.c/\_) (λl=>aa)]
 rw[X0 b2,Wa,X0 K,Wa,Wj (c:=0<=h.b/\u<=VO h.c/\_) aa];dsimp only;unfold ZG Xb;have G:(h.b.toNat:Int)=h.b:=aa;rw[G,e.2.2,b1,Xf (n:=h.b*h.c.W) aa aa,Xf (n:=4096+h.b*h.c.W) aa aa,Xf (n:=4096+h.b*h.c.W+(pg h.p h.b).u) aa aa,Xz aa aa]
end
section
variable {N:Nat}
def XrA(hN:NB N){h:Wp}(hb:HB h)(ep:Qab N h=some true){n u f:Int}(G:1<=n/\n<=h.c.W)(D:QcR N h.p 1=some f){j:Nat}{a:Int}(g:XkY N h n u f=some (j,a)):j<h.p.length/\0<=a/\a+n<=h.c.W/\Qab N (ZG h n j a)=some true:=by
 have hp:=XL hN hb ep;have H:=hb.2;have y:=hp.space;unfold XkY at g;split at g
 .rename_i I;cases g;have e:0<=h.b/\h.b<h.p.length/\(pg h.p h.b).k=1:=by
   rcases hp.bump with z|z
   .omega
   exact z
  have l:=hp.pgs h.b e.1 e.2.1;have A:=l.small e.2.2;have q:(h.b.toNat:Int)=h.b:=aa;have r:h.b.toNat<h.p.length:=aa;refine⟨r,A.1,aa,?_⟩;unfold ZG;rw[q];refine Xhu (x:=⟨1,h.s,(pg h.p h.b).u+n,(pg h.p h.b).P⟩) hN hb ep r rfl y l.pins (by show 0<=(pg h.p h.b).u+n/\_;exact⟨aa,by show(pg h.p h.b).u+n<=_;omega⟩) (.inr ?_) q.symm;rw[←XbK r,q];exact e.2.2
 split at g
 .rename_i E;cases g;have o:RunOK h.p f 1:=by
   rcases(KR (N:=N) (ps:=h.p) 1 aa (by unfold NB at hN;omega)).get_eq D with z|z
   .omega
   exact z
  have J:=o.2.2.1;have t:(f.toNat:Int)=f:=aa;have r:f.toNat<h.p.length:=aa;have B:(pg h.p f).k=0:=by have:=o.2.2.2 0 aa aa;simpa using this
  refine⟨r,aa,aa,?_⟩;unfold ZG;have l:=hp.pgs f aa aa;rw[t];refine Xhu (x:=⟨1,h.s,0+n,(pg h.p f).P⟩) hN hb ep r rfl y l.pins (by show 0<=0+n/\_;exact⟨aa,by show 0+n<=_;omega⟩) (.inl ?_) t.symm;rw[←XbK r,t];exact B
 cases g
end
section
variable {N:Nat}
def Xne(hN:1000000<N)(c:Uj)(d:WH):Qc3 N c d=some (XM d&&(d.k != 0&&XI c (Xy d) != -1)):=by rw[Qc3,ZV,Xa,Yr];simp only[Xa,Jb (show 10<=N by omega)];cases XM d<;>cases (d.k != 0)<;>rfl
def Xnf{h:Wp}(hb:HB h)(n:Int)(j:Nat)(a:Int):HB (ZG h n j a):=⟨hb.1,by show(h.p.set j _).length<=_;rw[Ww];exact hb.2⟩
end
section
variable {N:Nat}
def Xhv{ps l:List WJ}{j:Nat}(h:j+l.length<=ps.length)(i:Nat):(KZ ps l j)[i]? = if i<j then ps[i]? else if i<j+l.length then l[i-j]? else ps[i]?:=by
 unfold KZ;by_cases a:i<j
 .rw[Wj a,WU ah,WU ah,Ua,Wj a]
 rw[Wg a];by_cases b:i<j+l.length
 .rw[Wj b,WU ah,Ug ah];congr 1;simp;omega
 rw[Wg b,Ug ah,UC];congr 1;simp;omega
def Xk0{α:Type}(q:α->Bool){l e:List α}(f:l.length=e.length)(h:(∀i:Nat,l[i]? = e[i]?)\/∃(i:Nat) (x y:α),l[i]? = some x/\e[i]? = some y/\q x=false/\q y=false):l.all q=e.all q:=by
 rcases h with h|⟨i,x,y,g,j,o,p⟩
 .rw[Om h]
 have a:l.all q=false:=List.all_eq_false.2 ⟨x,WW g,by rw[o];simp⟩;have b:e.all q=false:=List.all_eq_false.2 ⟨y,WW j,by rw[p];simp⟩;rw[a,b]
def Xng{c:Uj}{ps:List WJ}{i:Nat}{p:WJ}{s:Nat}(h:Yf c ps i p=s)(f:2<=s):((ps.drop (i+1)).take (s-1)).all (Ye p.s)=true/\s<=ps.length-i:=by
 unfold Yf at h;split at h
 .split at h<;>omega
 split at h
 .split at h
  .split at h<;>omega
  split at h
  .split at h
   .rename_i e;subst h;exact⟨e.2.2,e.2.1⟩
   omega
  omega
 omega
def Xnh{c:Uj}{ps e:List WJ}(f:e.length=ps.length){i:Nat}(hd:∀m sp,((e.drop (i+1)).take m).all (Ye sp)=((ps.drop (i+1)).take m).all (Ye sp))(p:WJ):Yf c e i p=Yf c ps i p:=by unfold Yf;simp only[f,hd]
def XdZ{h:Wp}(e:h.p.length<=100000)(hN:1000000<N):∀(k n j:Nat),j+k<=h.p.length->(∀m,m<k->∀(g:j+m<h.p.length),h.p[j+m]=Z8)->Qac N h (n+k) (j:Int)=Qac N h n ((j+k:Nat):Int)
 |0,n,j,_,_=>rfl
 |k+1,n,j,o,f=>by rw[show n+(k+1)=(n+k)+1 from rfl,Qac,Wi aa,Wc,Ku e hN (show j<h.p.length by omega),Xa];have:=f 0 aa aa;simp only[Oc]at this;rw[this,XiB,show((((1:Nat)):Int)==0)=false from rfl,Wa,show((1:Nat):Int)=1 from rfl,Xg aa,XdZ e hN k n (j+1) aa (λm g l=>by have:=f (m+1) aa aa;simpa only[show j+(m+1)=j+1+m by omega]using this)];congr 2;omega
def XiC(hN:NB N){h:Wp}(hb:HB h)(ep:Qab N h=some true){j k:Nat}(hk:1<=k)(hr:RunOK h.p (j:Int) (k:Int)){w:Int}(hw:XI h.c w=(k:Int)):Qab N ⟨h.c,h.w,KZ h.p (WJ.mk 2 h.s w 0::List.replicate (k-1) (WJ.mk 3 h.s 0 0)) j,h.s,h.b⟩=some true:=by
 have r:1000000<N:=by unfold NB at hN;omega
 have hp:=XL hN hb ep;have J:=hb.2;have hsp:=hp.space;have hnr:=JJ h.c w;obtain⟨_,_,hfit,z⟩:=hr;generalize H:(WJ.mk 2 h.s w 0::List.replicate (k-1) (WJ.mk 3 h.s 0 0))=L;have K:L.length=k:=by rw[←H];simp;omega
 have B:j+L.length<=h.p.length:=aa;have f:(KZ h.p L j).length=h.p.length:=Xae B;have I:∀m,m<k->∀(M:j+m<h.p.length),h.p[j+m]=Z8:=by intro m M t;have:=(hp.pgs ((j:Int)+m) aa aa).free (z m aa aa);rw[show(j:Int)+(m:Int)=((j+m:Nat):Int) by omega,XbK t]at this;exact this
 generalize hq:KZ h.p L j=e at *;have l:∀i,e[i]? = if i<j then h.p[i]? else if i<j+k then L[i-j]? else h.p[i]?:=by intro i;rw[←hq,Xhv B,K]
 have u:∀i(hi:i<h.p.length),(i<j\/j+k<=i)->e[i]'aa=h.p[i]:=by
  intro i hi o;have a:=l i;rw[Wb aa,Wb hi]at a;rcases o with o|o
  .rw[Wj o]at a;exact WT a
  rw[Wg aa,Wg aa]at a;exact WT a
 have D:∀i,(i<j\/j+k<=i)->∀m sp,((e.drop (i+1)).take m).all (Ye sp)=((h.p.drop (i+1)).take m).all (Ye sp):=by
  intro i o m sp;refine Xk0 _ (by simp[f]) ?_;by_cases hcov:i<j/\j<i+1+m
  .right;refine⟨j-(i+1),WJ.mk 2 h.s w 0,Z8,?_,?_,rfl,rfl⟩
   .rw[Ua,Wj aa,UC,show i+1+(j-(i+1))=j by omega,l,Wg aa,Wj aa,IE,←H];rfl
   rw[Ua,Wj aa,UC,show i+1+(j-(i+1))=j by omega,Wb aa];have:=I 0 aa aa;simp only[Oc]at this;rw[this]
  left;intro q;rw[Ua,Ua];split
  .rw[UC,UC,l];rcases o with o|o
   .rw[Wj aa]
   rw[Wg aa,Wg aa]
  rfl
 have main:∀(m i n g:Nat),h.p.length-i<=m->i<=h.p.length->(i<=j\/j+k<=i)->h.p.length-i+200<n->h.p.length-i+200<g->Qac N ⟨h.c,h.w,e,h.s,h.b⟩ n (i:Int)=Qac N h g (i:Int):=by
  intro m;induction m with
  |zero=>
   intro i n g h1 h2 h3 h4 h5;obtain⟨n,rfl⟩:∃q,n=q+1:=⟨n-1,aa⟩
   obtain⟨g,rfl⟩:∃q,g=q+1:=⟨g-1,aa⟩
   rw[Qac,Qac];dsimp only;rw[f,Wh aa,Wa,Wa]
  |succ m ih=>
   intro i n g h1 h2 h3 h4 h5;by_cases t:i<h.p.length;case neg=>
    obtain⟨n,rfl⟩:∃q,n=q+1:=⟨n-1,aa⟩
    obtain⟨g,rfl⟩:∃q,g=q+1:=⟨g-1,aa⟩
    rw[Qac,Qac]
    dsimp only
    rw[f,Wh aa,Wa,Wa]
   by_cases O:i=j
   .subst O;obtain⟨n,rfl⟩:∃q,n=q+1:=⟨n-1,aa⟩
    obtain⟨g,rfl⟩:∃q,g=q+k:=⟨g-k,aa⟩
    rw[XdZ J r k g i aa I,Qac];dsimp only;have hx:e[i]'aa=WJ.mk 2 h.s w 0:=by have a:=l i;rw[Wb aa,Wg aa,Wj aa,IE,←H]at a;exact WT a
    have Q:((e.drop (i+1)).take (k-1)).all (Ye h.s)=true:=by
     rw[WP];intro y hy;obtain⟨q,R,rfl⟩:=Wv hy;rw[Wx,WR]at R;have a:=l (i+1+q);have S:L[i+1+q-i]? = some (WJ.mk 3 h.s 0 0):=by rw[←H,show i+1+q-i=q+1 by omega,Iz,UG,Wj aa]
     rw[Wb aa,Wg aa,Wj aa,S]at a;rw[ID,On,WT a];simp[Ye,Kt]
    have T:Yf h.c e i (e[i]'aa)=k:=by rw[hx];unfold Yf;have U:(XI h.c w).toNat=k:=aa;rw[Wg (show¬(2:Int)=0 by omega),Wj (by show(h.s=0\/h.s=1)/\(0:Int)<=0/\(0:Int)<=2147483647;omega),Wg (show¬(2:Int)=1 by omega),Wj rfl];dsimp only;rw[U,Wj ⟨aa,aa,Q⟩]
    rw[Wi aa,Wc,Ku aa r aa,T,Xa,show((k:Int)==0)=false by simp;omega,Wa,Xf aa aa,show(i:Int)+(k:Int)=((i+k:Nat):Int) by omega];exact ih (i+k) n g aa aa (.inr aa) aa aa
   have o:i<j\/j+k<=i:=aa;obtain⟨n,rfl⟩:∃q,n=q+1:=⟨n-1,aa⟩
   obtain⟨g,rfl⟩:∃q,g=q+1:=⟨g-1,aa⟩
   rw[Qac,Qac];dsimp only;rw[f,Wi aa,Wc,Wc,Ku aa r aa,Ku J r t,u i t o,Xnh f (D i o),Xa,Xa];have hs:=Xaa (c:=h.c) t (p:=h.p[i]);have E:=Xng (c:=h.c) (ps:=h.p) (i:=i) (p:=h.p[i]) rfl;generalize Yf h.c h.p i h.p[i]=s at *;by_cases h0:s=0
   .subst h0;rfl
   rw[show((s:Int)==0)=false by simpa using h0,Wa,Wa,Xf aa aa,show(i:Int)+(s:Int)=((i+s:Nat):Int) by omega];refine ih (i+s) n g aa aa ?_ aa aa;rcases o with o|o
   .left;by_cases V:2<=s
    .obtain⟨ha,_⟩:=E V;by_cases W:i+s<=j
     .exact W
     exfalso;rw[WP]at ha;have M:Z8∈(h.p.drop (i+1)).take (s-1):=by refine WW (i:=j-(i+1)) ?_;rw[Ua,Wj aa,UC,show i+1+(j-(i+1))=j by omega,Wb aa];have:=I 0 aa aa;simp only[Oc]at this;rw[this]
     have:=ha _ M;cases this
    omega
   right;omega
 have A:h.b = -1\/(0<=h.b/\h.b<e.length/\(pg e h.b).k=1):=by
  rcases hp.bump with hh|⟨b0,b1,b2⟩
  .exact .inl hh
  refine .inr ⟨b0,aa,?_⟩;obtain⟨q,Y⟩:∃q:Nat,h.b=(q:Int):=⟨h.b.toNat,aa⟩
  rw[Y]at b1 b2⊢;have G:q<h.p.length:=aa;rw[XbK G]at b2;by_cases Z:q<j\/j+k<=q
  .rw[XbK aa,u q G Z];exact b2
  exfalso;have:=I (q-j) aa aa;simp only[show j+(q-j)=q by omega]at this;rw[this]at b2;cases b2
 rw[←YU (by show e.length<=_;omega) r,KJ (h:=⟨h.c,h.w,e,h.s,h.b⟩) ⟨hp.conf,hp.words,by show(e.length:Int)=_;rw[f];exact hp.pages,hp.space,A⟩];have:=main h.p.length 0 N N aa aa (.inl aa) aa aa;rw[show((0:Nat):Int)=0 from rfl]at this;rw[this,←KJ hp.pre,YU J r,ep]
end
section
variable {N:Nat}
def Kg(h:Wp)(n:Int)(j k:Nat):Wp:=⟨h.c,h.w,KZ h.p (WJ.mk 2 h.s n 0::List.replicate (k-1) (WJ.mk 3 h.s 0 0)) j,h.s,h.b⟩
def Xni(hN:1000000<N){h:Wp}(e:h.p.length<=100000)(hp:UP h){n:Int}{j k:Nat}(f:1<=k)(g:k<=4)(hw:XI h.c n=(k:Int))(l:RunOK h.p (j:Int) (k:Int)):QeU N h.c h.p (j:Int) h.s n=some ((Kg h n j k).p,0):=by have o:=hp.space;rw[QeU,Jb aa,Xa,hw,X0 (show¬(k:Int)<1 by omega),Wa,X0 (show¬h.s<0 by omega),Wa,X0 (show¬h.s>1 by omega),Wa,XjI hN e _ _ k f aa l,Xa];rfl
def Xnj{h:Wp}(hb:HB h)(n:Int){j k:Nat}(e:1<=k)(f:j+k<=h.p.length):HB (Kg h n j k):=⟨hb.1,by
 show(KZ h.p _ j).length<=_
 rw[Xae ah];exact hb.2⟩
end
section
variable {N:Nat}
def Kh{ps:List WJ}{i:Nat}(h:i<ps.length):pg ps (i:Int)=ps[i]:=by unfold pg;simp_all
def XrB{ps:List WJ}(q:WJ->Bool){i k:Nat}(h:i+1+k<=ps.length):((ps.drop (i+1)).take k).all q=true↔∀m:Int,1<=m->m<=k->q (pg ps (i+m))=true:=by
 rw[WP];constructor
 .intro f m l o;have e:pg ps (i+m)=((ps.drop (i+1)).take k)[m.toNat-1]'(by rw[Wx,WR];omega):=by rw[ID,On,←Kh];congr 1;omega
  grind
 intro f x g;obtain⟨m,j,rfl⟩:=Wv g;rw[Wx,WR]at j;rw[ID,On,←Kh];have:=f (m+1) aa aa;grind
structure O6(c:Uj)(ps:List WJ)(i:Int):Prop where
 sp:0<=(pg ps i).s/\(pg ps i).s<=1
 pn:0<=(pg ps i).P/\(pg ps i).P<=2147483647
 k0:(pg ps i).k=0->pg ps i=Z8
 k1:(pg ps i).k=1->0<=(pg ps i).u/\(pg ps i).u<=c.W
 k2:(pg ps i).k=2->1<=XI c (pg ps i).u/\i+XI c (pg ps i).u<=ps.length/\∀m,1<=m->m<XI c (pg ps i).u->(pg ps (i+m)).k=3/\(pg ps (i+m)).s=(pg ps i).s/\(pg ps (i+m)).u=0/\(pg ps (i+m)).P=0
 kd:(pg ps i).k=0\/(pg ps i).k=1\/(pg ps i).k=2
def Xe6{s:Int}{p:WJ}:Ye s p=true↔p.k=3/\p.s=s/\p.u=0/\p.P=0:=by unfold Ye Kt;grind
def XbL{c:Uj}{ps:List WJ}{i:Nat}(z:i<ps.length):(Yf c ps i ps[i]≠0↔O6 c ps i)/\(O6 c ps i->Yf c ps i ps[i]=if ps[i].k=2 then(XI c ps[i].u).toNat else 1):=by
 have e:=Kh z;generalize hp:ps[i]=p at *;have tl:∀(h:i+XI c p.u<=ps.length) (g:1<=XI c p.u),((ps.drop (i+1)).take ((XI c p.u).toNat-1)).all (Ye p.s)=true↔∀m,1<=m->m<XI c p.u->(pg ps (i+m)).k=3/\(pg ps (i+m)).s=p.s/\(pg ps (i+m)).u=0/\(pg ps (i+m)).P=0:=λh g=>by rw[XrB _ aa];exact⟨λq m a b=>Xe6.1 (q m a aa),λq m a b=>Xe6.2 (q m a aa)⟩
 unfold Yf;constructor
 .constructor
  .intro h;by_cases o:p.k=0
   .rw[Wj o]at h;by_cases g:p.s=0/\p.u=0/\p.P=0
    .obtain⟨a,b,d⟩:=g;refine⟨?_,?_,?_,?_,?_,?_⟩<;>rw[e]
     .omega
     .omega
     .intro _;obtain⟨k,s,u,q⟩:=p;simp_all[Z8]
     .intro h;omega
     .intro h;omega
     exact .inl o
    rw[Wg g]at h;exact absurd rfl h
   rw[Wg o]at h;by_cases g:(p.s=0\/p.s=1)/\0<=p.P/\p.P<=2147483647;rotate_left
   .rw[Wg g]at h;exact absurd rfl h
   rw[Wj g]at h;by_cases r:p.k=1
   .rw[Wj r]at h;by_cases j:0<=p.u/\p.u<=c.W
    .refine⟨?_,?_,?_,?_,?_,?_⟩<;>rw[e]
     .omega
     .omega
     .intro h;omega
     .exactλ_=>j
     .intro h;omega
     exact .inr (.inl r)
    rw[Wg j]at h;exact absurd rfl h
   rw[Wg r]at h;by_cases j:p.k=2;rotate_left
   .rw[Wg j]at h;exact absurd rfl h
   by_cases t:1<=XI c p.u/\(XI c p.u).toNat<=ps.length-i/\((ps.drop (i+1)).take ((XI c p.u).toNat-1)).all (Ye p.s)=true
   .refine⟨?_,?_,?_,?_,?_,?_⟩<;>rw[e]
    .omega
    .omega
    .omega
    .omega
    .exactλ_=>⟨t.1,aa,(tl aa t.1).1 t.2.2⟩
    exact .inr (.inr j)
   simp_all
  intro b;have f:=b.kd;have y:=b.sp;have l:=b.pn;have b0:=b.k0;have b1:=b.k1;have b2:=b.k2;rw[e]at f y l b0 b1 b2;rcases f with f|f|f
  .rw[Wj f,b0 f,Wj ⟨rfl,rfl,rfl⟩];omega
  .rw[Wg aa,Wj ⟨aa,l⟩,Wj f,Wj (b1 f)];omega
  grind
 intro b;have f:=b.kd;have y:=b.sp;have l:=b.pn;have b0:=b.k0;have b1:=b.k1;have b2:=b.k2;rw[e]at f y l b0 b1 b2;rcases f with f|f|f
 .rw[Wj f,b0 f,Wj ⟨rfl,rfl,rfl⟩];rfl
 .rw[Wg aa,Wj ⟨aa,l⟩,Wj f,Wj (b1 f),Wg aa]
 grind
structure OV(c:Uj)(ps:List WJ):Prop where
 hd:∀i:Int,0<=i->i<ps.length->(pg ps i).k≠3->O6 c ps i
 tl:∀i:Int,0<=i->i<ps.length->(pg ps i).k=3->∃k:Int,0<=k/\k<i/\O6 c ps k/\(pg ps k).k=2/\i<k+XI c (pg ps k).u
def Xhw{h:Wp}(l:h.p.length<=100000)(hN:1000000<N):∀(n i:Nat),i<=h.p.length->Qac N h n (i:Int)=some (.nxt ())->∀j:Nat,i<=j->j<h.p.length->∃k s:Nat,i<=k/\k<=j/\j<k+s/\∃q:k<h.p.length,Yf h.c h.p k h.p[k]=s
 |0,i,_,e,_,_,_=>by simp_all[Qac]
 |n+1,i,r,e,j,u,o=>by
  have g:i<h.p.length:=aa;rw[Qac,Wi (show(i:Int)<_ by omega),Wc,Ku l hN g,Xa]at e;have y:=Xaa (c:=h.c) g (p:=h.p[i]);generalize z:Yf h.c h.p i h.p[i]=s at *;by_cases A:s=0
  .simp_all
  rw[show((s:Int)==0)=false by simp_all,Wa,Xf aa aa,show(i:Int)+(s:Int)=((i+s:Nat):Int) by omega]at e;by_cases B:j<i+s
  .grind
  have⟨k,t,a,b,d,f⟩:=Xhw l hN n (i+s) aa e j aa o;grind
def Xhx{h:Wp}:∀(n:Nat) (i:Int) {b:Bool},Qac N h n i=some (.ret b)->b=false
 |0,i,b,e=>by simp_all[Qac]
 |n+1,i,b,e=>by
  rw[Qac]at e;cases g:decide (i<(h.p.length:Int))with
  |false=>simp_all
  |true=>
   rw[g,Wc]at e;cases f:QgB N h.c h.p i with
   |none=>simp_all[f,V4]
   |some y=>
    rw[f,Xa]at e;cases j:y==0 with
    |true=>simp_all
    |false=>rw[j,Wa]at e;exact Xhx n _ e
def Xcg(hN:NB N){h:Wp}(hb:HB h)(ep:Qab N h=some true):OV h.c h.p:=by
 have l:1000000<N:=by unfold NB at hN;omega
 have hp:=XL hN hb ep;have e:=ep;rw[←YU hb.2 l,KJ hp.pre]at e;have z:Qac N h N 0=some (.nxt ()):=by
  cases o:Qac N h N 0 with
  |none=>simp_all[o,V4]
  |some x=>
   rw[o,Xa]at e;cases x with
   |ret a=>rw[Xs]at e;cases e;exact absurd (Xhx N 0 o) ab
   |nxt u=>rfl
 have t:=Xhw hb.2 l N 0 aa z;refine⟨λi A o y=>?_,λi A o y=>?_⟩
 .obtain⟨j,rfl⟩:∃j:Nat,i=(j:Int):=⟨i.toNat,aa⟩
  have⟨k,s,_,B,D,g,E⟩:=t j aa aa;have q:=XbL (c:=h.c) g;have hb:=q.1.1 aa;by_cases r:j=k
  .simp_all
  have:=q.2 hb;by_cases f:h.p[k].k=2
  .rw[Wj f]at this;have:=(hb.k2 (by rw[Kh g];exact f)).2.2 ((j:Int)-k) aa (by rw[Kh g];omega);rw[show(k:Int)+((j:Int)-k)=j by omega]at this;exact absurd this.1 y
  grind
 obtain⟨j,rfl⟩:∃j:Nat,i=(j:Int):=⟨i.toNat,aa⟩
 have⟨k,s,_,B,D,g,E⟩:=t j aa aa;have q:=XbL (c:=h.c) g;have hb:=q.1.1 aa;have G:=q.2 hb;have H:=hb.kd;have r:j≠k:=by rintro rfl;omega
 by_cases f:h.p[k].k=2
 .rw[Wj f]at G;exact⟨k,aa,aa,hb,by rw[Kh g];exact f,by rw[Kh g];omega⟩
 grind
def SpanS(c:Uj)(ps e:List WJ):Prop:=e.length=ps.length/\∀i(f:i<ps.length)(g:i<e.length),Yf c e i e[i]=Yf c ps i ps[i]
def SpanS.refl(c:Uj)(ps:List WJ):SpanS c ps ps:=⟨rfl,λ_ _ _=>rfl⟩
def SpanS.trans{c:Uj}{a b d:List WJ}(e:SpanS c a b)(f:SpanS c b d):SpanS c a d:=⟨f.1.trans e.1,λi g h=>(f.2 i (by rw[e.1];omega) h).trans (e.2 i g (by rw[e.1];omega))⟩
def Xd0{c:Uj}{ps qs:List WJ}(hN:OV c ps)(l:qs.length=ps.length)(h:∀i:Int,0<=i->i<ps.length->((pg ps i).k<=1/\(pg qs i).k=1/\(0<=(pg qs i).s/\(pg qs i).s<=1)/\(0<=(pg qs i).P/\(pg qs i).P<=2147483647)/\0<=(pg qs i).u/\(pg qs i).u<=c.W) \/
  ((pg qs i).k=(pg ps i).k/\(pg qs i).u=(pg ps i).u/\(pg qs i).P=(pg ps i).P/\((pg qs i).s=(pg ps i).s\/2<=(pg ps i).k/\0<=(pg qs i).s/\(pg qs i).s<=1)))(ht:∀i m:Int,0<=i->(pg ps i).k=2->1<=m->m<XI c (pg ps i).u->i+m<ps.length->(pg qs (i+m)).s=(pg qs i).s):SpanS c ps qs:=by
 refine⟨l,λi o p=>?_⟩;have t:=Kh o;have y:=Kh p;have z:=XbL (c:=c) o;have A:=XbL (c:=c) p;by_cases B:(pg ps i).k=3
 .have n1:¬O6 c ps i:=λb=>by have:=b.kd;omega
  have n2:¬O6 c qs i:=λb=>by have:=b.kd;have:=h i aa aa;omega
  simp_all
 have b:=hN.hd i aa aa B;have hb:=b.kd;have b0:=b.k0;have b1:=b.k1;have b2:=b.k2;have I:=b.sp;have J:=b.pn;have e:=h i aa aa;have D:O6 c qs i:=by
  refine⟨aa,aa,λj=>?_,λj=>?_,λj=>?_,aa⟩
  .rcases e with g|⟨g1,g2,g3,g4⟩
   .omega
   have:=b0 aa;rw[this]at g1 g2 g3 g4;have g4:(pg qs i).s=0:=by rcases g4 with g|g;exact g;exact absurd g.1 ae
   have E:pg qs i=⟨(pg qs i).k,(pg qs i).s,(pg qs i).u,(pg qs i).P⟩:=rfl;rw[E,g1,g2,g3,g4];rfl
  .omega
  rcases e with g|⟨g1,g2,g3,g4⟩
  .omega
  have f:(pg ps i).k=2:=aa;have⟨c1,G,H⟩:=b2 f;rw[g2,l];refine⟨c1,G,λm q r=>?_⟩;have⟨K,L,M,O⟩:=H m q r;have Q:=h (i+m) aa aa;refine⟨aa,ht i m aa f q r aa,aa,aa⟩
 rw[z.2 b,A.2 D];rw[t]at e hb;rw[y]at e;by_cases j:ps[i].k=2
 .simp_all
 rw[Wg j,Wg aa]
def SpanS.proper(hN:NB N){h:Wp}(hb:HB h)(ep:Qab N h=some true){f:List WJ}(g:SpanS h.c h.p f){ws:List Int}(hw:ws.length=h.w.length){b:Int}(e:b = -1\/(0<=b/\b<f.length/\(pg f b).k=1)):Qab N ⟨h.c,ws,f,h.s,b⟩=some true:=
 Xaf hN hb ep g.1 (λi j=>g.2 i j (by rw[g.1];omega)) hw e
end
section
variable {N:Nat}
def XpK{t:IT}{m:Int}(f:0<=t.at_)(o:t.at_<=m)(q:m<=1000000){a:Int}(s:a<=1000000000):Ok (Qaf N t a) λr=>0<=r.1/\(1<=a->r.1<a)/\0<=r.2.at_/\r.2.at_<=m+1:=by
 refine Wo (λ_=>Wd ⟨ab,λh=>aa,f,by grind⟩) λg=>?_;have g:=W5 g;have rest:∀x:Int,Ok (grd (a≠0) <| grd (a≠0) <| some (((wI ((x.tmod a)+a)).tmod a),(IT.mk t.L (wI (t.at_+1))))) λr=>0<=r.1/\(1<=a->r.1<a)/\0<=r.2.at_/\r.2.at_<=m+1:=by
  intro x;have b1:=Int.tmod_lt_of_pos x (show 0<a by omega);have b2:-a<x.tmod a:=by have:=Int.tmod_lt_of_pos (-x) (show 0<a by omega);rw[Int.neg_tmod]at this;omega
  have e:=Xf (n:=x.tmod a+a) aa aa;have j:=Xf (n:=t.at_+1) aa aa;have c1:=Int.tmod_lt_of_pos (x.tmod a+a) (show 0<a by omega);have l:=Int.tmod_nonneg a (show 0<=x.tmod a+a by omega);refine Uk aa (Uk aa (Wd ?_));simp only[e,j];exact⟨l,λ_=>c1,aa,aa⟩
 refine IP (Wo (λh=>Ok.get f (WA h) λp _=>rest p) λ_=>rest _)
def TA(m:Int)(t:IT):Prop:=0<=t.at_/\t.at_<=m
def nxp{t:IT}{m a:Int}(h:TA m t)(g:m<=1000000)(e:1<=a)(j:a<=1000000000):Ok (Qaf N t a) λr=>0<=r.1/\r.1<a/\TA (m+1) r.2:=(XpK h.1 h.2 g j).mono λr f=>⟨f.1,f.2.1 e,f.2.2⟩
def TA.le{t:IT}{m n:Int}(h:TA m t)(e:m<=n):TA n t:=⟨h.1,by have:=h.2;omega⟩
def XaI{p:IV}{t:IT}{m:Int}(hw:1<=p.w.length)(E:p.w.length<=1000)(h:TA m t)(H:m+5<=1000000):Ok (QbS N p t) λr=>TA (m+3) r.2:=by
 have k2:∀(l:IT) (o:Bool),TA (m+1) l->Ok (bif o then(bnd (Qaf N l (p.w.length:Int)) λA=>bnd (Xd p.w A.1) λq=>some (q,A.2))else bnd (Qaf N l (if 6<(p.w.length:Int)then 6 else(p.w.length:Int))) λg=>bnd (Xd p.w (wI ((wI ((p.w.length:Int)-1))-g.1))) λs=>some (s,g.2)) λr=>TA (m+3) r.2:=by
  intro l o B;refine Wo (λ_=>UB (nxp B aa aa aa) λy e=>Ok.get e.1 e.2.1 λ_ _=>Wd (e.2.2.le aa)) λ_=>?_;refine UB (nxp B aa aa aa) λy e=>?_;have I:y.1<(p.w.length:Int):=by have:=e.2.1;split at this<;>omega
  have J:=e.1;rw[Xf (n:=(p.w.length:Int)-1) aa aa,Xf (n:=(p.w.length:Int)-1-y.1) aa aa];exact Ok.get aa aa λ_ _=>Wd (e.2.2.le aa)
 refine UB (nxp h aa aa aa) λy e=>Wo (λ_=>UB (nxp e.2.2 aa aa aa) λz f=>Ok.get f.1 f.2.1 λ_ _=>Wd (f.2.2.le aa)) λ_=>Wo (λ_=>?_) λ_=>?_
 .exact UB (nxp e.2.2 aa aa aa) λz f=>Ok.get f.1 f.2.1 λ_ _=>UB (nxp f.2.2 aa aa aa) λu G=>Wd (G.2.2.le aa)
 refine Oz (λo=>k2 _ o e.2.2) λK D=>Uz (D _) (Oz (λL=>D _) λj h=>Uz (h _) (h _))
def XpL{p:IV}{t:IT}{m:Int}(hw:1<=p.w.length)(f:p.w.length<=1000)(h:TA m t)(R:m+30<=1000000):Ok (Qdt N p t) λr=>TA (m+20) r.2:=by
 refine UB (nxp h aa aa aa) λS g=>Ok.get g.1 g.2.1 λD _=>Wo (λ_=>?_) λ_=>?_
 .refine UB (nxp g.2.2 aa aa aa) λo B=>?_;have e:=Xz B.1 aa;refine Uk aa ?_;have T:1<=JT .i64 1 (wU o.1)/\JT .i64 1 (wU o.1)<=1000:=by rw[e];have a:=B.1;have b:=B.2.1;have c:o.1=0\/o.1=1\/o.1=2\/o.1=3:=aa;rcases c with c|c|c|c<;>rw[c]<;>decide
  exact UB (nxp B.2.2 aa aa aa) λU J=>Wd (J.2.2.le aa)
 refine Oz (λV=>Wo (λ_=>?_) λ_=>Wo (λ_=>?_) λ_=>?_) λj h=>Uz (h _) (h _)
 .exact UB (nxp g.2.2 aa aa aa) λW K=>UB (nxp K.2.2 aa aa aa) λY I=>Uz (UB (nxp I.2.2 aa aa aa) λZ L=>Wd (L.2.2.le aa)) (Wd (I.2.2.le aa))
 .exact UB (nxp g.2.2 aa aa aa) λy9 M=>Wd (M.2.2.le aa)
 refine UB (XaI hw f g.2.2 aa) λq E=>UB (nxp E aa aa aa) λG H=>UB (nxp H.2.2 aa aa aa) λO s=>?_;have k:∀(l:List Int) (at_ c:Int),TA (m+12) ⟨l,at_⟩->Ok (bif (D==10)then(bnd (QbS N p (IT.mk l at_)) λu=>
  some ((OG.mk D q.1 u.1 c),u.2))
 else some ((OG.mk D q.1 (wU G.1) c),(IT.mk l at_))) λr=>TA (m+20) r.2:=λl at_ c ht=>
  Uz (UB (XaI hw f ht aa) λy z=>Wd (z.le aa)) (Wd (ht.le aa))
 refine IP (Uz (UB (XaI hw f s.2.2 aa) λy z=>k _ _ _ (z.le aa)) (UB (nxp s.2.2 aa aa aa) λQ A=>Uz (UB (XaI hw f A.2.2 aa) λy z=>k _ _ _ (z.le aa)) (k _ _ _ (A.2.2.le aa))))
structure PB(k:Nat)(p:IV):Prop where
 env:EB p.N
 wor:WB k p.z
 ty:Xa4 p
 w1:1<=p.w.length
 w2:p.w.length<=k+1
def XrC(a b:Uw)(op v e:Int):Ok (Qdg N a b op v e) λ_=>True:=by
 have k2:∀x y:Bool,Ok (bif (op==19)then(bif (e==0)then some (OD.mk x y v)
  else some (OD.mk x y 0))
  else some (OD.mk x y 0)) λ_=>True:=λx y=>Uz (Uz (Wd trivial) (Wd trivial)) (Wd trivial)
 refine Oz (λx=>Oz (λy=>k2 x y) λj h=>Uz (h _) (h _)) λj h=>Uz (h _) (Uz (h _) (h _))
def XsM(hN:NB N){k:Nat}{p:IV}(hp:PB k p)(l:k+1<=900){d:OG}(j:Xdt d):Ok (QbN N p d) λr=>PB (k+1) r.1:=by
 have ty:=λr (e:QbN N p d=some r)=>Qj8 (N:=N) hp.ty j r e;have main:Ok (QbN N p d) λr=>EB r.1.N/\WB (k+1) r.1.z/\1<=r.1.w.length/\r.1.w.length<=k+1+1:=by
  have w1:=hp.w1;have w2:=hp.w2;have up:=hp.wor.up l;rw[QbN];refine Wo (λ_=>?_) λ_=>?_
  .refine UB (Xcx hN hp.env) λA t=>IP (Uz (UB (Xcz hN hp.wor hp.ty.2.1) λB u=>Wd ⟨t,u.up l,w1,I8 w2⟩) (Wd ⟨hp.env,up,w1,I8 w2⟩))
  refine WQ (XmO hN hp.env _ _ _ _) λf y g=>UB (XrC _ _ _ _ _) λo _=>UB (XmU hN hp.wor l hp.ty.2.1 d.Op j.1 j.2.1 j.2.2 o) λq s=>?_;have k2:∀w:WE,WB (k+1) w->Ok (α:=IV×Int×Int) (bif (f.2.2==0)then(bif (f.2.1 != 0)then(grd (p.w.length*8<=140737488355328) <| grd ((p.w.length+1)*8<=140737488355328) <| some ((IV.mk f.1 w (p.w++[f.2.1])),f.2.1,f.2.2))else some ((IV.mk f.1 w p.w),f.2.1,f.2.2))else some ((IV.mk p.N w p.w),f.2.1,f.2.2)) λr=>EB r.1.N/\WB (k+1) r.1.z/\1<=r.1.w.length/\r.1.w.length<=k+1+1:=by
   intro w hw;refine Uz (Uz (Uk aa (Uk aa (Wd ⟨g,hw,?_,?_⟩))) (Wd ⟨g,hw,w1,by grind⟩)) (Wd ⟨hp.env,hw,w1,by grind⟩)
   .simp
   simp_all
  exact IP (Uz (k2 q.1 s) (k2 p.z up))
 have⟨r,e,h⟩:=main;exact⟨r,e,h.1,h.2.1,(ty r e).1,h.2.2.1,h.2.2.2⟩
end
section
variable {N:Nat}
def Xk1{t:IT}{m:Int}(h:TA m t)(g:m+5<=1000000):Ok (Qe4 N t) λr=>TA (m+2) r.2:=by exact UB (nxp h aa aa aa) λy e=>Ok.get e.1 e.2.1 λ_ _=>UB (nxp e.2.2 aa aa aa) λz f=>Ok.get f.1 f.2.1 λ_ _=>Wd (f.2.2.le aa)
def Xnk(c:Uj):Ok (QeD N c) λr=>EB r.1:=by
 rw[QeD,QfS,YQ,Xa];refine WQ (Q:=λr:Wp×Int=>HB r.1) ?_ λy _ g=>Wd ⟨g,Ka,Xbx,Xbx,ab,ab⟩;refine Wo (λ_=>Wd KB) λf=>?_;have f:X5 c=true:=by simpa using f
 have h:=Xi.1 f;have j:=XV f (i:=0) aa aa;have e:=Xf (n:=c.p*c.W) aa aa;refine Uk aa (Uk aa (Wd ⟨?_,?_⟩))
 .rw[WO,e];omega
 grind
def Xnl(c:Uj):Ok (QeE N c) λr=>WB 0 r.1:=by
 rw[QeE,YQ,Xa];have z:∀c:Uj,WB 0 ⟨c,[],zL,zT,zT,[],[]⟩:=λc=>⟨aa,ab,λx e=>by simp_all,Ka,by simp[zT],by simp[zT],ab,ab⟩
 exact Uz (Wd (z _)) (Wd (z _))
def Xnm{t:IT}{m:Int}(h:TA m t)(o:m+5<=1000000):Ok (Qbl N t) λr=>PB 0 r.1/\TA (m+3) r.2:=by
 have main:Ok (Qbl N t) λr=>EB r.1.N/\WB 0 r.1.z/\1<=r.1.w.length/\r.1.w.length<=1/\TA (m+3) r.2:=by rw[Qbl];refine UB (Xk1 h o) λq j=>UB (Xnk _) λs g=>UB (Xnl _) λu f=>UB (nxp j aa aa aa) λy l=>Wd ⟨⟨g.heap,⟨g.loc.1,ab,g.loc.2.2⟩,g.glo,g.wea,g.pins,g.roots⟩,⟨f.kk,f.things,f.fields,⟨f.loc.1,ab,f.loc.2.2⟩,f.gloK,f.weaK,f.marksK,f.rootsK⟩,ab,ab,l.2.2.le aa⟩
 have⟨r,e,j,g,f,l,p⟩:=main;exact⟨r,e,⟨j,g,Qin r e,f,l⟩,p⟩
end
end Go.Sx
