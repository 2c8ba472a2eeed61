import Derived.Test.YtgbmffljpneflaaGreatDoorBD
set_option linter.all false
namespace Go.Sx
def Og{β κ:Type}{P:β->Prop}{k:κ->Option β}{f:(κ->Option β)->Option β}(h:∀x,Ok (k x) P)(g:∀j:κ->Option β,(∀x,Ok (j x) P)->Ok (f j) P):Ok (Sx.jn k f) P:=by simp_all[Xv]
def Ua{β:Type}{P:β->Prop}{b:Bool}{x y:Option β}(e:Ok x P)(f:Ok y P):Ok (bif b then x else y) P:=by grind
def Uc{α β:Type}{P:β->Prop}{o:Option α}{Q:α->Prop}{f:α->Option β}(h:Ok o Q)(k:∀y,Q y->Ok (f y) P):Ok (Sx.bnd o f) P:=WI h λy _ e=>k y e
def Ok.t{α:Type}{o:Option α}{P:α->Prop}(h:Ok o P):Ok o λ_=>True:=h.mono λ_ _=>trivial
section
variable {N:Nat}{x:WJ}
abbrev EP(r:WJ×Int×Int):Prop:=EB r.1
def Xks(e:Int):Ok (Qae N e) EP:=by exact Wg Xdn
def XG(e:Int):Ok (bnd (Qae N e) λy=>some (y.1,y.2.1,y.2.2)) EP:=Uc (Xks e) λy f=>Wg f
def Xmz(a b c:Int):Ok (QbQ N a b c) λ_=>True:=by exact Ua (Ua (Wg trivial) (Wg trivial)) (Wg trivial)
def Xae(hN:NB N)(e:EB x)(a:Int):Ok (Qa7 N x a) EP:=by have f:=hN;unfold NB at f;refine Ua (Wg e) ?_;rw[K3 e.loc aa,Xa];exact Ua (XG _) (Uc (ZJ _) λy _=>Wg ⟨e.heap,Xjh e.loc a,e.glo,e.wea,e.pins,e.roots⟩)
def Xid(hN:NB N)(f:EB x)(a b c:Int):Ok (Qcm N x a b c) EP:=by have e:=hN;unfold NB at e;refine Ua (XG _) (Uc (Xmz _ _ _) λy _=>Il (Ua (XG _) (Uc (Xfw hN _ _) λz _=>Ua (XG _) ?_)));rw[K3 f.loc aa,Xa];exact Ua (XG _) (Uc (XbO hN f _) λj g=>Ua (XG _) (Uc (Xae hN g _) λk h=>Wg h))
def Xaf(hN:NB N)(e:EB x)(a:Int):Ok (QaN N x a) λ_=>True:=by exact Uc (ZD hN e a) λy _=>Ua (Ua (Wg trivial) (Wg trivial)) (Wg trivial)
def XeD(hN:NB N)(e:EB x)(a b:Int)(c:Bool):Ok (Qcw N x a b c) λ_=>True:=by refine Uc (Xaf hN e a) λy _=>Ua (Wg trivial) (Uc (XaJ hN e.heap _) λz _=>Ua (Wg trivial) ?_);rw[Kz,Xa];exact Ua (Wg trivial) (Wg trivial)
def Xkt(hN:NB N)(e:EB x)(a b c d:Int):Ok (Qcx N x a b c d) EP:=by
 have k:∀i j v:Int,Ok (α:=WJ×Int×Int) (bnd (Qbr N x.h i j v) λf=>some ((WJ.mk f.1 x.l x.g x.v x.P x.R),0,0)) EP:=λi j v=>
  Uc (XgE hN e.heap i j v) λy o=>Wg ⟨o,e.loc,e.glo,e.wea,e.pins,e.roots⟩
 refine Il (Ua (Uc (XeD hN e _ _ _) λy _=>?_) (Uc (XeD hN e _ _ _) λy _=>?_))<;>
 exact Ua (XG _) (Uc (Xda hN e.heap _ _) λz _=>Ua (Wg e) (Ua (Uc (Xae hN e _) λq p=>Wg p) (Il (Ua (Uc (ZD hN e _) λr _=>Ua (XG _) (k _ _ _)) (k _ _ _)))))
def Xku(hN:NB N)(e:EB x)(a b c:Int):Ok (Qcy N x a b c) EP:=by refine Og (λh=>Ua (Uc (Xaf hN e _) λy _=>Ua (XG _) (Uc (XaJ hN e.heap _) λz _=>Ua (Wg e) (Wg e))) (Ua (Uc (ZD hN e _) λy _=>Ua (XG _) (Uc (ZD hN e _) λz _=>Ua (XG _) (Ua (Wg e) (Wg e)))) (Uc (ZD hN e _) λy _=>Ua (XG _) (Uc (Xae hN e _) λz g=>Wg g)))) λj f=>Ua (f _) (f _)
def XgW(hN:NB N)(f:EB x)(a b:Int):Ok (Qcz N x a b) EP:=by
 have j:=hN;unfold NB at j;refine Uc (Xaf hN f _) λy _=>Ua (XG _) (Il (Ua ?_ ?_))
 .show Ok (bnd (QcV N ⟨x.v.e⟩ y.1) _) EP;rw[K4 (t:=⟨x.v.e⟩) f.wea aa,Xa];have h:=Xjk (t:=⟨x.v.e⟩) f.wea y.1;exact Ua (XG _) (Il (Ua (Uc (ZJ _) λz _=>Wg ⟨f.heap,f.loc,f.glo,h,f.pins,f.roots⟩) (Uc (ZJ _) λz _=>Wg ⟨f.heap,f.loc,h,f.wea,f.pins,f.roots⟩)))
 show Ok (bnd (QcV N ⟨x.g.e⟩ y.1) _) EP;rw[K4 (t:=⟨x.g.e⟩) f.glo aa,Xa];have h:=Xjk (t:=⟨x.g.e⟩) f.glo y.1;exact Ua (XG _) (Il (Ua (Uc (ZJ _) λz _=>Wg ⟨f.heap,f.loc,f.glo,h,f.pins,f.roots⟩) (Uc (ZJ _) λz _=>Wg ⟨f.heap,f.loc,h,f.wea,f.pins,f.roots⟩)))
def Xie(hN:NB N)(e:EB x)(a b:Int):Ok (Qcn N x a b) EP:=by
 have f:=hN;unfold NB at f;refine Ua (XG _) (Uc (ZD hN e _) λy _=>Ua (XG _) (Uc (XbN _) λz _=>Og (λ_=>Ua ?_ (Ua ?_ ?_)) λg h=>Og (λ_=>XG _) λj k=>?_))
 .rw[Xcy e.loc aa,Xa];exact Wg ⟨e.heap,Xji e.loc _ _,e.glo,e.wea,e.pins,e.roots⟩
 .rw[JG e.glo aa,Xa];exact Wg ⟨e.heap,e.loc,Xjl e.glo _ _,e.wea,e.pins,e.roots⟩
 .rw[JG e.wea aa,Xa];exact Wg ⟨e.heap,e.loc,e.glo,Xjl e.wea _ _,e.pins,e.roots⟩
 grind
def Xif(hN:NB N)(e:EB x)(a b:Int):Ok (Qda N x a b) EP:=by
 have f:=hN;unfold NB at f;refine Ua (Ua (XG _) ?_) (Uc (ZD hN e _) λy _=>Ua (XG _) ?_)
 .rw[VQ e.loc aa,Xa];exact Ua (XG _) (Wg ⟨e.heap,XgO e.loc _,e.glo,e.wea,e.pins,e.roots⟩)
 rw[Xbj e.loc aa,Xa];exact Ua (XG _) (Uc (Xae hN (x:=⟨x.h,(ZC x.l).1,x.g,x.v,x.P,x.R⟩) ⟨e.heap,Xbk e.loc,e.glo,e.wea,e.pins,e.roots⟩ _) λz j=>Wg j)
def XmA(hN:NB N)(e:EB x)(a b:Int):Ok (Qe1 N x a b) EP:=by refine Uc (Xaf hN e _) λy _=>Ua (XG _) (Ua (Uc (Xdm hN e.heap e.pins _) λz f=>Ua (XG _) (Wg ⟨f.1,e.loc,e.glo,e.wea,f.2,e.roots⟩)) (Uc (XeC hN e.heap e.pins _) λz f=>Ua (XG _) (Wg ⟨f.1,e.loc,e.glo,e.wea,f.2,e.roots⟩)))
def XgX(hN:NB N)(f:EB x)(op a b c:Int):Ok (Qaf N x op a b c) EP:=by
 have thr:∀{o:Option (WJ×Int×Int)},Ok o EP->Ok (bnd o λy=>some (y.1,y.2.1,y.2.2)) EP:=λh=>Uc h λy k=>Wg k;refine Uc (Zt hN f) λl _=>Ua (XG _) ?_;refine Og (λe=>Ua (thr (Xid hN f _ _ _)) ?_) λp g=>?_
 .refine Og (λe=>Ua (thr (Xkt hN f _ _ _ _)) ?_) λj h=>?_
  .refine Og (λe=>Ua (thr (Xku hN f _ _ _)) ?_) λj h=>?_
   .refine Og (λe=>Ua (thr (XgW hN f _ _)) ?_) λj h=>?_
    .refine Og (λe=>Ua (thr (Xie hN f _ _)) ?_) λj h=>?_
     .refine Og (λe=>Ua (thr (Xif hN f _ _)) ?_) λj h=>?_
      .refine Og (λe=>Ua (thr (XmA hN f _ _)) (XG _)) λj h=>Ua (h _) (h _)
      exact Ua (h _) (h _)
     exact Ua (h _) (Og (λe=>h _) λj h=>Ua (h _) (h _))
    grind
   exact Ua (h _) (Og (λe=>h _) λj h=>Ua (h _) (Og (λe=>h _) λj h=>Ua (h _) (h _)))
  exact Ua (h _) (Og (λe=>h _) λj h=>Ua (h _) (Og (λe=>h _) λj h=>Ua (h _) (h _)))
 exact Ua (g _) (Og (λe=>g _) λj h=>Ua (h _) (h _))
end
structure WB(k:Nat)(w:WX):Prop where
 kk:k<=900
 things:w.T.length<=k
 fields:∀x∈w.T,x.D.length<=1000
 loc:LBp w.l
 gloK:w.g.e.length<=1000+k
 weaK:w.v.e.length<=1000+k
 marksK:w.m.length<=100+k
 rootsK:w.R.length<=100+k
def WB.glo{k:Nat}{w:WX}(h:WB k w):TB w.g:=by have:=h.kk;have:=h.gloK;unfold TB;omega
def WB.wea{k:Nat}{w:WX}(h:WB k w):TB w.v:=by have:=h.kk;have:=h.weaK;unfold TB;omega
def WB.marks{k:Nat}{w:WX}(h:WB k w):w.m.length<=1000:=by have:=h.kk;have:=h.marksK;omega
def WB.roots{k:Nat}{w:WX}(h:WB k w):w.R.length<=1000:=by have:=h.kk;have:=h.rootsK;omega
def VR(d:WC):Nat->List Int->List Int
 |_,[]=>[]
 |k,f::e=>if KO d k then f::VR d (k+1) e else VR d (k+1) e
def XeE(x:In):List Int:=VR x.H 0 x.D
def XbP(d:WC):∀(k:Nat) (l:List Int),(VR d k l).length<=l.length
 |k,[]=>by simp[VR]
 |k,f::e=>by have:=XbP d (k+1) e;unfold VR;grind
def ZT(n:Nat)(l:List Int):Bool:=l.all λp=>!decide (p>(n:Int))
def ZL(l:List IA)(id:Int):Int:=match l.findIdx? (λm=>m.I==id)with|some k=>(k:Int)|none=>-1
def Xdq(n:Nat)(x:In):Bool:=XL x.H&&(!(x.H.k==0)&&(!((x.D.length:Int) != x.H.n)&&ZT n (XeE x)))
def Xjn(n:Nat)(l:List IA)(_:Unit)(i:Nat)(m:IA):Bool:=!decide (m.I<1)&&(!decide (m.I>(n:Int))&&(!(ZL l m.I != (i:Int))&&(!decide (m.M<1)&&!decide (m.M>1000))))
def Xfx(n:Nat)(l:List IA):Bool:=ZH (Xjn n l) (λs _=>s) () 0 l
def YT(w:WX):Bool:=X8 w.c&&(Y0 w.l&&(YZ w.g.e&&(YZ w.v.e&&(!decide ((w.m.length:Int)>64)&&(w.T.all (Xdq w.T.length)&&(((XT w.g.e).all λp=>!(p==0))&&(Xfx w.T.length w.m&&(ZT w.T.length w.R&&(ZT w.T.length (X9 w.l.S)&&(ZT w.T.length (XT w.g.e)&&ZT w.T.length (XT w.v.e)))))))))))
section
variable {N:Nat}{w:WX}
def J7(ht:w.T.length<=1000){l:List Int}(g:l.length<=1000000)(hN:1000000<N):QdR N w l=some (ZT w.T.length l):=by
 have h:=JE (l:=l) (F:=QdQ N w l) (q:=λ_ p=>!decide (p>(w.T.length:Int))) (λn k p e=>by
  have f:=XC e
  rw[QdQ,Xm f,Wb,Xe,e,Xa,Xg aa,Xw aa aa]
  cases decide (p>(w.T.length:Int))<;>rfl) (λn=>by rw[QdQ,XA,Wa]) (n:=N) aa
 rw[Z4]at h;rw[QdR,h,Xa,ZT];cases l.all λp=>!decide (p>(w.T.length:Int))
 .rw[Wa,XE]
 simp[Wb,Xp]
def Xdr{x:In}(e:x.D.length<=1000000):∀(n k:Nat) (v:List Int),k<=x.D.length->x.D.length-k<n->v.length<=k->QeG N x n (k:Int) v=some (v++VR x.H k (x.D.drop k))
 |0,k,v,_,f,_=>by omega
 |n+1,k,v,j,f,g=>by
  rw[QeG];by_cases h:k<x.D.length
  .rw[Xm h,Wb,Kz,Xa,Xg aa,Wu h,VR];cases hp:KO x.H (k:Int)
   .rw[Wa,Wk ab,Xdr e n (k+1) v aa aa aa]
   rw[Wb,Wq rfl,Xe,Wc h,Xa,Xc aa,Xdr e n (k+1) _ aa aa (by simp_all)];simp
  obtain rfl:k=x.D.length:=aa;simp[VR]
def XgY{x:In}(e:x.D.length<=1000000)(hN:1000000<N):Qhi N x=some (XeE x):=by have h:=Xdr (N:=N) (x:=x) e N 0 [] aa aa ab;rw[show((0:Nat):Int)=0 from rfl,W0,Uk]at h;rw[Qhi,h,Xa];rfl
def Xjo(id:Int)(e:w.m.length<=1000000):∀(n k:Nat),k<=w.m.length->w.m.length-k<n->Qfv N w id n (k:Int)=some (match (w.m.drop k).findIdx? (λm=>m.I==id)with|some j=>.ret ((k+j:Nat):Int)|none=>.nxt ())
 |0,k,_,f=>by omega
 |n+1,k,g,f=>by
  rw[Qfv];by_cases h:k<w.m.length
  .rw[Xm h,Wb,Xe,Wc h,Xa,Xg aa,Wu h,IT];cases l:(w.m[k].I==id)
   .rw[Wa,Xjo id e n (k+1) aa aa,Wk ab];cases (w.m.drop (k+1)).findIdx? (λm=>m.I==id)with
    |none=>rfl
    |some j=>simp only[U4];rw[show k+1+j=k+(j+1) by omega]
   simp
  grind
def Xfy(e:w.m.length<=1000000)(hN:1000000<N)(id:Int):Qgs N w id=some (ZL w.m id):=by
 have h:=Xjo (N:=N) id e N 0 aa aa;rw[show((0:Nat):Int)=0 from rfl,W0]at h;rw[Qgs,h,Xa,ZL];cases w.m.findIdx? (λm=>m.I==id)with
 |none=>simp[Xp]
 |some j=>simp[XE,UG]
def XgZ{a:Wo}(h:Y0 a=true):(X9 a.S).length<=4096:=by have e:=YW.1 h;have:=e.slots;have:=e.iss;have:=XbM a.S;omega
def Xbl{l:List WT}(h:YZ l=true):(XT l).length<=64:=by have:=Js h;have:=Xaa l;omega
def XcA{k:Nat}(hw:WB k w)(hN:1000000<N):Qe8 N w=some (YT w):=by
 have f:=hw.kk;have ht:=hw.things;have B:=hw.marks;have E:=hw.roots;rw[Qe8,Zk,Xa,YT];cases X8 w.c
 .rfl
 rw[Wi,Wa,ZI hw.loc hN,Xa,W8];cases h:Y0 w.l
 .rfl
 rw[Wi,Wa,Zv hw.glo hN,Xa,W8];cases j:YZ w.g.e
 .rfl
 rw[Wi,Wa,Zv hw.wea hN,Xa,W8];cases o:YZ w.v.e
 .rfl
 rw[Wi,Wa,W8];cases decide ((w.m.length:Int)>64);rotate_left
 .rfl
 rw[Wa,W7,W8];have r:=JE (l:=w.T) (F:=Qec N w) (q:=λ_=>Xdq w.T.length) (λn k p e=>by
  have f:=XC e
  have u:=hw.fields p (Ue e)
  have y:=XbP p.H 0 p.D
  rw[Qec,Xm f,Wb,Xe,e,Xa,Zq,Xa,XgY aa hN,Xa,J7 aa (by unfold XeE;omega) hN,Xa,Xg aa]
  unfold Xdq
  grind) (λn=>by rw[Qec,XA,Wa]) (n:=N) aa
 rw[Z4]at r;rw[r,Xa];cases w.T.all (Xdq w.T.length)
 .simp[Wa,XE]
 rw[Wb,Xp,Yt hw.glo hN,Xa,j,Wb,W8];have z:=Xbl j;have s:=JE (l:=XT w.g.e) (F:=Qed N w (XT w.g.e)) (q:=λ_ p=>!(p==0)) (λn k p e=>by
  have f:=XC e
  rw[Qed,Xc aa,Xm f,Wb,Xe,e,Xa,Xg aa]
  simp) (λn=>by rw[Qed,Xc aa,XA,Wa]) (n:=N) aa
 rw[Z4]at s;rw[s,Xa];cases (XT w.g.e).all λp=>!(p==0)
 .simp[Wa,XE]
 rw[Wb,Xp,W8];have A:=JE (l:=w.m) (F:=Qee N w (XT w.g.e)) (q:=Xjn w.T.length w.m ()) (λn k p e=>by
  have f:=XC e
  rw[Qee,Xm f,Wb,Xe,e,Xa,Xfy aa hN,Xa,Xg aa,Xw aa aa]
  unfold Xjn
  grind) (λn=>by rw[Qee,XA,Wa]) (n:=N) aa
 rw[A,Xa];show exK (bif Xfx w.T.length w.m then Ex.nxt ()else Ex.ret false) _ _=_;cases Xfx w.T.length w.m
 .simp[Wa,XE]
 rw[Wb,Xp,J7 aa aa hN,Xa,W8];cases ZT w.T.length w.R
 .rfl
 have G:=XgZ h;rw[Wb,ZB hw.loc hN,Xa,h,Wb,J7 aa aa hN,Xa,W8];cases ZT w.T.length (X9 w.l.S)
 .rfl
 rw[Wb,J7 aa aa hN,Xa,W8];cases ZT w.T.length (XT w.g.e)
 .rfl
 have s3:=Xbl o;rw[Wb,Yt hw.wea hN,Xa,o,Wb,J7 aa aa hN,Xa,W8]
end
def Yz(v:Int):UR×Int:=
 if v=0 then(⟨0,0,0⟩,5)else if 1<=v % 4/\1<=v / 262144/\v / 262144<=4294967295 then(⟨v % 4,v / 4 % 65536,v / 262144⟩,0)else(⟨0,0,0⟩,6)
def VS{N:Nat}{v:Int}(g:tU v):Qc8 N v=some (Yz v):=by
 have⟨f,j⟩:=g;rw[Qc8,Yz];by_cases k:v=0
 .simp_all
 rw[show(v==0)=false by simp_all,Wa,Wk k];have l:Y4 .u64 v 3=v % 4:=Yv v 2 aa f j;have o:YD .u64 v 2=v / 4:=YI v 2 aa f;have p:Y4 .u64 (v / 4) 65535=v / 4 % 65536:=Yv (v / 4) 16 aa aa aa;have q:YD .u64 v 18=v / 262144:=YI v 18 aa f;rw[o,l,p,q,Xd (n:=v % 4) aa aa,Xd (n:=v / 4 % 65536) aa aa,Xd (n:=v / 262144) aa aa,Qbg,Qhx];have r:∀x:Int,ZN .u64 x 2=wU (x*4):=λ_=>rfl;have s:∀x:Int,ZN .u64 x 18=wU (x*262144):=λ_=>rfl;rw[Wd (show v / 4 % 65536>=0 by omega),Wd (show v / 4 % 65536<=65535 by omega),Wd (show v % 4<=3 by omega)];simp only[Wb];by_cases g1:v % 4>=1
 .rw[Wd g1,Wb];by_cases g2:v / 262144>=1
  .rw[Wd g2,Wb,Xa];by_cases g3:v / 262144<=4294967295
   .rw[Wd g3,Wi,Wa,Xa,Wq ⟨g1,g2,g3⟩];have e:wU (wU (wU (v % 4)+ZN .u64 (wU (v / 4 % 65536)) 2)+ZN .u64 (wU (v / 262144)) 18)=v:=by rw[r,s,Xw (n:=v % 4) aa aa,Xw (n:=v / 4 % 65536) aa aa,Xw (n:=v / 262144) aa aa,Xw (n:=v / 4 % 65536*4) aa aa,Xw (n:=v / 262144*262144) aa aa,Xw (n:=v % 4+v / 4 % 65536*4) aa aa,Xw aa aa];omega
    simp_all
   rw[Wh g3,W7,Wb,Xa,Wk (λh=>g3 h.2.2)];rfl
  rw[Wh g2,Wa,Xa,W7,Wb,Xa,Wk (λh=>g2 h.2.1)];rfl
 rw[Wh g1,Wa,Xa,W7,Wb,Xa,Wk (λh=>g1 h.1)];rfl
def Z9(w:WX)(v:Int):Int×Int:=
 if v=0 then(0,0)else if(Yz v).2≠0 then(0,(Yz v).2)else
 if(Yz v).1.Tag=1 then Zh w.l (Yz v).1.Index (Yz v).1.J else
 if(Yz v).1.Tag=2 then YF w.g.e (Yz v).1.Index (Yz v).1.J else YF w.v.e (Yz v).1.Index (Yz v).1.J
def XP(w:WX)(a:Int):Int×Int:=if(Z9 w a).2=0/\(Z9 w a).1=0 then(0,5)else Z9 w a
structure WF(w:WX):Prop where
 conf:X8 w.c=true
 loc:Y0 w.l=true
 glo:YZ w.g.e=true
 wea:YZ w.v.e=true
 m64:w.m.length<=64
 thing:∀x∈w.T,XL x.H=true/\x.H.k≠0/\(x.D.length:Int)=x.H.n/\∀r∈XeE x,r<=w.T.length
 mark:Xfx w.T.length w.m=true
 roots:∀r∈w.R,r<=w.T.length
 rloc:∀r∈X9 w.l.S,r<=w.T.length
 rglo:∀r∈XT w.g.e,r<=w.T.length
 rwea:∀r∈XT w.v.e,r<=w.T.length
def Jv{n:Nat}{l:List Int}:ZT n l=true↔∀r∈l,r<=n:=by unfold ZT;simp
def Jf{w:WX}(h:YT w=true):WF w:=by unfold YT at h;simp only[W9,I7,IP]at h;have⟨j,k,l,o,u,p,v,q,r,e,f,g⟩:=h;refine⟨j,k,l,o,aa,λx s=>?_,q,Jv.1 r,Jv.1 e,Jv.1 f,Jv.1 g⟩;have:=(Ud.1 p) x s;unfold Xdq at this;simp at this;exact⟨this.1,this.2.1,this.2.2.1,Jv.1 this.2.2.2⟩
def WF.mk_{w:WX}(h:WF w){k:Nat}{m:IA}(e:w.m[k]? = some m):1<=m.I/\m.I<=w.T.length/\1<=m.M/\m.M<=1000:=by have:=(JF w.m () 0).1 h.mark k m e;unfold Xjn at this;simp_all
def Xkv{l:List UE}{p:UE}(hp:p∈l)(e:p.V=true):p.a∈X9 l:=by unfold X9;grind
def Xkw{l:List WT}{p:WT}(hp:p∈l)(e:p.V=true):p.a∈XT l:=by unfold XT;grind
def Xig(a:Wo)(i g:Int):(Zh a i g).2=0\/(Zh a i g).1=0:=by
 unfold Zh;split
 .exact .inr rfl
 split
 .exact .inr rfl
 split
 .exact .inr rfl
 split
 .exact .inr rfl
 split
 .exact .inr rfl
 split
 .exact .inr rfl
 split
 .exact .inl rfl
 omega
def Xih(l:List WT)(i g:Int):(YF l i g).2=0\/(YF l i g).1=0:=by unfold YF;grind
def Xph{w:WX}(h:WF w)(v:Int):(Z9 w v).1<=w.T.length:=by
 have g:∀i g,(Zh w.l i g).1<=w.T.length:=by
  intro i g;by_cases f:(Zh w.l i g).2=0
  .have⟨_,_,p,hp,_,j,e⟩:=Xab f;rw[e];exact h.rloc _ (Xkv (Ue hp) j)
  have:=(Xig w.l i g).resolve_left f;omega
 have t:∀(t:Ws),(∀r∈XT t.e,r<=w.T.length)->∀i g,(YF t.e i g).1<=w.T.length:=by
  intro t ht i g;by_cases f:(YF t.e i g).2=0
  .have⟨_,_,p,hp,_,j,e⟩:=Xac f;rw[e];exact ht _ (Xkw (Ue hp) j)
  have:=(Xih t.e i g).resolve_left f;omega
 unfold Z9;split
 .simp
 split
 .simp
 split
 .simp_all
 split
 .exact t _ h.rglo _ _
 exact t _ h.rwea _ _
section
variable {N:Nat}{w:WX}{k:Nat}
def JO(hw:WB k w)(hN:1000000<N)(h:YT w=true){v:Int}(j:tU v):QaS N w v=some (Z9 w v):=by
 rw[QaS,XcA hw hN,Xa,h,Wi,Wa,Z9];by_cases e:v=0
 .rw[Wq e,e];rfl
 rw[Wk e,show(v==0)=false by simpa using e,Wa,VS j,Xa];by_cases l:(Yz v).2=0
 .rw[l,show((0:Int) != 0)=false from rfl,Wa,Wk ab];by_cases f:(Yz v).1.Tag=1
  .rw[Wq f,f,show((1:Int)==1)=true from rfl,Wb,Vm hw.loc hN,Xa]
  rw[Wk f,show((Yz v).1.Tag==1)=false by simpa using f,Wa];by_cases g:(Yz v).1.Tag=2
  .rw[Wq g,g,show((2:Int)==2)=true from rfl,Wb,Kg hw.glo hN,Xa]
  rw[Wk g,show((Yz v).1.Tag==2)=false by simpa using g,Wa,Kg hw.wea hN,Xa]
 grind
def Xbm(hw:WB k w)(hN:1000000<N)(e:YT w=true){v:Int}(f:tU v):Qe9 N w v=some (XP w v):=by rw[Qe9,JO hw hN e f,Xa,XP];grind
end
def zTh:In:=⟨⟨0,0,0⟩,[]⟩
def thg(w:WX)(id:Int):In:=w.T.getD (id-1).toNat zTh
def JP(a:Wo)(id:Int):Int:=if id=0 then 0 else(Yn a id).2.2.2
def okW(op a b:Int):Prop:=a<=2147483647/\(op=1->b<=4294967295)
instance(op a b:Int):Decidable (okW op a b):=by unfold okW;infer_instance
def hdW(op a b:Int):WC:=⟨op,a,if op=1 then b else 0⟩
def Xbn(c:WW)(d:WC):Bool:=XL d&&(d.k != 0&&XD c (XF d) != -1)
def Xbo(w:WX)(op a b:Int)(failed:Bool):Int:=
 if w.m.length>0 then 15 else if¬okW op a b then 1 else if Xbn w.c (hdW op a b)=false then 1 else
 if JP w.l 1≠0 then JP w.l 1 else if failed then 3 else 0
def Xds(op:Int):Bool:=op==8||op==9
def XcB(w:WX)(op a b c:Int):Int:=
 if(XP w a).2≠0 then(XP w a).2 else if b>=(thg w (XP w a).1).H.n then 2 else
 if KO (thg w (XP w a).1).H b≠Xds op then 4 else
 if op=8 then JP w.l ((thg w (XP w a).1).D.getD b.toNat 0)else if op=9 then(Z9 w c).2 else 0
def Xdt(w:WX)(op a:Int):Int:=
 if a=0 then 5 else if(Z9 w a).2≠0 then(Z9 w a).2 else
 if(Yz a).1.Tag≠(if op=16 then 3 else if op=14 then 2 else 1)then 4 else 0
def Xii(w:WX)(op a:Int):Int:=
 if(XP w a).2≠0 then(XP w a).2 else(YG (if op=15 then w.v else w.g) (XP w a).1).2.2.2
def Xfz(w:WX)(op a:Int):Int:=
 if op=17 then(if a>64 then 1 else(KB w.l a).2)else
 if(Z9 w a).2≠0 then(Z9 w a).2 else if(ZC w.l).2≠0 then(ZC w.l).2 else JP (ZC w.l).1 (Z9 w a).1
def Xg0(l:List IA)(i:Int):IA:=l.getD i.toNat ⟨0,0,0⟩
def Xjp(w:WX)(op a:Int)(failed:Bool):Int:=
 if(XP w a).2≠0 then(XP w a).2 else
 if op=20 then(if ZL w.m (XP w a).1<0 then 12 else 0)else
 if 0<=ZL w.m (XP w a).1/\(Xg0 w.m (ZL w.m (XP w a).1)).M=1000 then 18 else
 if ZL w.m (XP w a).1<0/\w.m.length=64 then 18 else if failed then 18 else 0
def Xdu(w:WX)(op a b:Int):Int:=
 if op=4\/op=5 then(XP w a).2 else if(Z9 w a).2≠0 then(Z9 w a).2 else
 if op=10 then(Z9 w b).2 else JP w.l (Z9 w a).1
def XmB(w:WX)(op a b c:Int)(failed:Bool):Int:=
 if YT w=false then 19 else
 if op=1\/op=2\/op=3 then Xbo w op a b failed else
 if op=6\/op=7\/op=8\/op=9 then XcB w op a b c else
 if op=12\/op=14\/op=16 then Xdt w op a else
 if op=13\/op=15 then Xii w op a else
 if op=17\/op=18 then Xfz w op a else
 if op=19\/op=20 then Xjp w op a failed else
 if op=4\/op=5\/op=10\/op=11 then Xdu w op a b else 1
def Xf{a b:Int}(h:¬a=b):(a==b)=false:=by simp_all
def XQ{a b:Int}(h:a=b):(a==b)=true:=by simp_all
def Z5{a b:Int}(h:a=b):(a != b)=false:=by simp_all
def Xl{a b:Int}(h:¬a=b):(a != b)=true:=by simp_all
section
variable {N:Nat}{w:WX}{k:Nat}
def Xpi(hw:WB k w)(f:YT w=true)(tw:X2 w){v:Int}(e:tU v):tU (Z9 w v).1:=by have:=Qgy (N:=1000001) tw e;exact this _ (JO (N:=1000001) hw aa f e)
def XeF(hw:WB k w)(e:YT w=true)(tw:X2 w){v:Int}(f:tU v)(h:(XP w v).2=0):1<=(XP w v).1/\(XP w v).1<=w.T.length/\XP w v=Z9 w v:=by
 have g:=Xpi hw e tw f;have l:=Xph (Jf e) v;unfold XP at h⊢;by_cases j:(Z9 w v).2=0/\(Z9 w v).1=0
 .simp_all
 rw[Wk j]at h⊢;unfold tU at g;grind
def JI(hw:WB k w){id:Int}(g:1<=id)(h:id<=w.T.length):Xb w.T (wU (id-1))=some (thg w id)/\thg w id∈w.T:=by
 have j:=hw.kk;have ht:=hw.things;have e:=Wc (show(id-1).toNat<w.T.length by omega);have f:thg w id=w.T[(id-1).toNat]'aa:=by unfold thg;rw[Wr,e];rfl
 rw[Xw aa aa,X1 aa aa,f];simp
def Vo(e:LBp w.l)(hN:1000000<N)(id:Int):QdJ N w.l id=some (JP w.l id):=by
 rw[QdJ,JP];by_cases h:id=0
 .rw[Wq h,h];rfl
 simp[Wk,h,Xf,Wa,K3,e,hN,Xa]
def Xg1{a:Wo}(e:LBp a)(hN:1000000<N)(id:Int):QdJ N a id=some (JP a id):=Vo (w:=⟨⟨0,0⟩,[],a,zT,zT,[],[]⟩) e hN id
def Xg2(op:Int){a b:Int}(l:tU a)(o:tU b):∃d,QbQ N op a b=some (d,decide (okW op a b))/\(okW op a b->d=hdW op a b):=by
 unfold tU at l o;have f:a<=2147483647->wI (Y4 .u64 a 2147483647)=a:=λh=>by have:Y4 .u64 a 2147483647=a % 2147483648:=Yv a 31 aa l.1 l.2;rw[this,Xd aa aa];omega
 rw[QbQ];by_cases g:op=1
 .rw[XQ g,Wb];by_cases j:a<=2147483647
  .rw[Wd j,Wb];refine⟨⟨op,wI (Y4 .u64 a 2147483647),wW b⟩,?_,λh=>?_⟩
   .exact congrArg (λx=>some (_,x)) (decide_eq_decide.2 ⟨λh=>⟨j,λ_=>h⟩,λh=>h.2 g⟩)
   rw[f j,Xmf aa (by have:=h.2 g;omega),hdW,Wq g]
  rw[Wh j,Wa];refine⟨⟨op,wI (Y4 .u64 a 2147483647),wW b⟩,?_,λh=>absurd h.1 j⟩;rw[Wh (show¬okW op a b fromλh=>j h.1)]
 rw[Xf g,Wa];refine⟨⟨op,wI (Y4 .u64 a 2147483647),0⟩,?_,λh=>?_⟩
 .exact congrArg (λx=>some (_,x)) (decide_eq_decide.2 ⟨λh=>⟨h,λe=>absurd e g⟩,λh=>h.1⟩)
 rw[f h.1,hdW,Wk g]
def XcC(hN:10<=N)(c:WW)(d:WC):QcA N c d=some (Xbn c d):=by rw[QcA,Zq,Xa,Xbn,X5,Xa,ZG hN,Xa];grind
def Xij(hw:WB k w)(hN:1000000<N)(op:Int){a b:Int}(o:tU a)(p:tU b)(f:Bool):QgC N w op a b f=some (Xbo w op a b f):=by
 have⟨d,hd,g⟩:=Xg2 (N:=N) op o p;rw[QgC,Xbo];by_cases j:w.m.length>0
 .rw[Wd (show(w.m.length:Int)>0 by omega),Wb,Wq j]
 rw[Wh (show¬(w.m.length:Int)>0 by omega),Wa,Wk j,hd,Xa];by_cases h:okW op a b
 .rw[Wd h,Wi,Wa,Wk (by simpa using h),XcC aa,Xa,g h];cases q:Xbn w.c (hdW op a b)
  .rfl
  rw[Wi,Wa,Wk ab,Vo hw.loc hN,Xa];by_cases e:JP w.l 1=0
  .rw[Z5 e,Wa,Wk (by simpa using e)];cases f<;>rfl
  rw[Xl e,Wb,Wq e]
 simp_all
def Xkx(hw:WB k w)(hN:1000000<N)(e:YT w=true)(tw:X2 w)(op:Int){a b c:Int}(g:tU a)(r:tU b)(s:tU c):Qg1 N w op a b c=some (XcB w op a b c):=by
 rw[Qg1,Xbm hw hN e g,Xa,XcB];by_cases h:(XP w a).2=0;rotate_left
 .grind
 have⟨u,v,_⟩:=XeF hw e tw g h;have⟨g1,g2⟩:=JI hw u v;have⟨y,I,J,K⟩:=(Jf e).thing _ g2;have L:=XO y;unfold tU at r;rw[Z5 h,Wa,Wk aa,g1,Xa,Xw (n:=(thg w (XP w a).1).H.n) aa aa];by_cases j:b>=(thg w (XP w a).1).H.n
 .simp_all
 rw[Wh j,Wa,Wk j,Xd (n:=b) aa aa];have key:∀x:Bool,x=Xds op->(bnd (Qcs N (thg w (XP w a).1).H b) λz=>
  bif (!(z==x))then some 4
  else bif (op==8)then(bnd (Xb (thg w (XP w a).1).D b) λA=>
   bnd (QdJ N w.l A) λB=>
   some B)
  else bif (op==9)then(bnd (QaS N w c) λE=>
   some E.2)
  else some (XP w a).2)=some (if KO (thg w (XP w a).1).H b≠Xds op then 4 else
 if op=8 then JP w.l ((thg w (XP w a).1).D.getD b.toNat 0)else if op=9 then(Z9 w c).2 else 0):=by
  intro x G
  subst G
  rw[Kz,Xa]
  by_cases o:KO (thg w (XP w a).1).H b=Xds op
  .rw[show(KO (thg w (XP w a).1).H b==Xds op)=true by simpa using o,Wi,Wa,Wk (by simpa using o)]
   by_cases f:op=8
   .rw[XQ f,Wb,Wq f,X1 aa aa,Xa,Vo hw.loc hN,Xa,Wr,Wc aa];rfl
   rw[Xf f,Wa,Wk f]
   by_cases p:op=9
   .rw[XQ p,Wb,Wq p,JO hw hN e s,Xa]
   grind
  .grind
 rw[Xv];cases q:(op==8)
 .have:=key (op==9) (by unfold Xds;rw[q,Ii]);grind
 have:=key true (by unfold Xds;rw[q,Bool.true_or]);simp_all
def Xik(hw:WB k w)(hN:1000000<N)(h:YT w=true)(op:Int){a:Int}(g:tU a):QgD N w op a=some (Xdt w op a):=by
 rw[QgD,Xdt];by_cases e:a=0
 .rw[XQ e,Wb,Wq e]
 rw[Xf e,Wa,Wk e,JO hw hN h g,Xa];by_cases f:(Z9 w a).2=0;rotate_left
 .rw[Xl f,Wb,Wq f]
 rw[Z5 f,Wa,Wk (by simpa using f),VS g,Xa,Xv];grind
def XmC(hw:WB k w)(hN:1000000<N)(g:YT w=true)(op:Int){a:Int}(h:tU a):Qhy N w op a=some (Xii w op a):=by
 rw[Qhy,Xbm hw hN g h,Xa,Xii];by_cases e:(XP w a).2=0;rotate_left
 .rw[Xl e,Wb,Wq e]
 rw[Z5 e,Wa,Wk (by simpa using e),Xv];by_cases f:op=15
 .rw[Wq f,XQ f,Wb];show bnd (QcV N w.v (XP w a).1) _=_;rw[K4 hw.wea hN,Xa]
 simp[Wk,f,Xf,Wa,K4,hw.glo,hN,Xa]
def Xky(hw:WB k w)(hN:1000000<N)(h:YT w=true)(op:Int){a:Int}(g:tU a):Qg2 N w op a=some (Xfz w op a):=by
 rw[Qg2,Xfz];by_cases e:op=17
 .rw[XQ e,Wb,Wq e];by_cases f:a>64
  .simp_all
  unfold tU at g;rw[Wh f,Wa,Wk f,Xd (n:=a) aa aa,VQ hw.loc hN,Xa]
 rw[Xf e,Wa,Wk e,JO hw hN h g,Xa];by_cases f:(Z9 w a).2=0;rotate_left
 .grind
 rw[Z5 f,Wa,Wk aa,Xbj hw.loc hN,Xa];by_cases j:(ZC w.l).2=0;rotate_left
 .grind
 rw[Z5 j,Wa,Wk aa,Xg1 (Xbk hw.loc) hN,Xa]
def XbQ{l:List IA}{id:Int}(h:0<=ZL l id):ZL l id<l.length/\Xb l (ZL l id)=some (Xg0 l (ZL l id))/\(Xg0 l (ZL l id)).I=id:=by
 unfold ZL at h⊢;cases e:l.findIdx? (λm=>m.I==id)with
 |none=>simp_all
 |some j=>have f:=UK.1 e;have⟨g,hp,_⟩:=f;simp_all[Xe,Xg0,Wr,UX,Wc,g]
def Xkz(hw:WB k w)(hN:1000000<N)(o:YT w=true)(op:Int){a:Int}(p:tU a)(f:Bool):QhY N w op a f=some (Xjp w op a f):=by
 have r:=hw.marks;rw[QhY,Xbm hw hN o p,Xa,Xjp];by_cases g:(XP w a).2=0;rotate_left
 .rw[Xl g,Wb,Wq g]
 rw[Z5 g,Wa,Wk (by simpa using g),Xfy aa hN,Xa];by_cases j:op=20
 .rw[XQ j,Wb,Wq j];by_cases e:ZL w.m (XP w a).1<0
  .rw[Wd e,Wb,Wq e]
  rw[Wh e,Wa,Wk e]
 rw[Xf j,Wa,Wk j];by_cases e:0<=ZL w.m (XP w a).1
 .have⟨s,q,u⟩:=XbQ e;rw[Wd (show ZL w.m (XP w a).1>=0 from e),Wb,q,Xa,Wh (show¬ZL w.m (XP w a).1<0 by omega),Wa];rw[Wk (show¬(ZL w.m (XP w a).1<0/\w.m.length=64) by omega)];by_cases l:(Xg0 w.m (ZL w.m (XP w a).1)).M=1000
  .rw[XQ l,Wb,Wq ⟨e,l⟩]
  rw[Xf l,Wa,Wk (λh=>l h.2)];cases f<;>rfl
 grind
def XmD(hw:WB k w)(hN:1000000<N)(g:YT w=true)(op:Int){a b:Int}(l:tU a)(o:tU b):Qhz N w op a b=some (Xdu w op a b):=by
 rw[Qhz,Xdu,Xv,Xbm hw hN g l,Xa];by_cases h:op=4
 .rw[XQ h,Wb,Wq (.inl h)]
 rw[Xf h,Wa];by_cases j:op=5
 .rw[XQ j,Wb,Wq (.inr j)]
 rw[Xf j,Wa,Wk aa,JO hw hN g l,Xa];by_cases f:(Z9 w a).2=0;rotate_left
 .rw[Xl f,Wb,Wq f]
 rw[Z5 f,Wa,Wk (by simpa using f)];by_cases e:op=10
 .rw[XQ e,Wb,Wq e,JO hw hN g o,Xa]
 simp[Xf,e,Wa,Wk,Vo,hw.loc,hN,Xa]
end
def Xqk{β:Type}(K:Bool->β)(e f:Bool):(jn K λj=>bif e then j true else j f)=K (e||f):=by grind[Xv]
def b2(op a b:Int):(op==a||op==b)=decide (op=a\/op=b):=by grind
def bd(op a:Int)(p:Prop)[Decidable p]:(op==a||decide p)=decide (op=a\/p):=by grind
def Xql{β:Type}{p:Prop}[Decidable p](x y:β):(bif decide p then x else y)=if p then x else y:=by simp
def Xpj{β:Type}(o:Option β):(bnd o λy=>some y)=o:=by
 cases o
 .exact ZV _
 exact Xa _ _
def Xpk{β:Type}{p:Prop}[Decidable p](x y:β):(if p then some x else some y)=some (if p then x else y):=by grind
section
variable {N:Nat}{w:WX}{k:Nat}
def Xrb(hw:WB k w)(hN:1000000<N)(tw:X2 w)(op:Int){a b c:Int}(e:tU a)(h:tU b)(j:tU c)(f:Bool):QgE N w op a b c f=some (XmB w op a b c f):=by
 rw[QgE,XcA hw hN,Xa,XmB];cases g:YT w
 .rfl
 rw[Wi,Wa,Wk ab];simp only[Xqk,Xpj,Xij hw hN op e h f,Xkx hw hN g tw op e h j,Xik hw hN g op e,XmC hw hN g op e,Xky hw hN g op e,Xkz hw hN g op e f,XmD hw hN g op e h,b2,bd,Xql,Xpk]
end
def XbR(d:WC):∀(k:Nat) (l:List Int),∀r∈VR d k l,r∈l
 |k,[],r,h=>by assumption
 |k,f::e,r,h=>by
  unfold VR at h;split at h
  .rcases UT.1 h with h|h
   .simp_all
   exact Ul _ (XbR d (k+1) e r h)
  exact Ul _ (XbR d (k+1) e r h)
def zWo:WX:=⟨⟨0,0⟩,[],zL,zT,zT,[],[]⟩
def XmE{k:Nat}(e:k<=900):WB k zWo:=⟨e,by simp[zWo],λx f=>by simp_all[zWo],ZR,by simp[zWo,zT],by simp[zWo,zT],by simp[zWo],by simp[zWo]⟩
section
variable {N:Nat}{w:WX}{k:Nat}
def Xdv(o:w.m.length<=1000):∀(n:Nat) (i:Int) (v:List Int),0<=i->i<=w.m.length->(w.m.length-i).toNat<n->v.length<=100000+i->(∀x∈v,0<=x/\x<=w.T.length)->(∀m∈w.m,0<=m.I/\m.I<=w.T.length)->Ok (QfK N w n i v) λr=>r.length<=v.length+(w.m.length-i)/\∀x∈r,0<=x/\x<=w.T.length
 |0,i,v,_,_,q,_,_,_=>by omega
 |n+1,i,v,s,y,q,z,l,e=>by
  refine Wp (λf=>?_) λf=>Wg ⟨aa,l⟩;have f:i<w.m.length:=Ww f;rw[Xd (n:=i+1) aa aa];refine Ok.get s f λp hp=>WU aa ?_;have g:=YH hp;refine(Xdv o n (i+1) _ aa aa aa ah (λx j=>?_) e).mono λr u=>⟨?_,u.2⟩
  .rcases WH.1 j with h|h
   .exact l x h
   rw[US.1 h];exact e p g
  grind
def Xil(hN:NB N)(hw:WB k w)(l:YT w=true)(tw:X2 w):Ok (QhX N w) λr=>r.length<=10000/\∀x∈r,0<=x/\x<=w.T.length:=by
 have f:=hN;unfold NB at f;have y:=hw.roots;have o:=hw.marks;have wf:=Jf l;have⟨z,q,s,A,B,u⟩:=tw;have D:=XgZ wf.loc;have E:=Xbl wf.glo;refine WU aa ?_;rw[ZB hw.loc aa,Xa,wf.loc,Wb];refine WU aa ?_;rw[Yt hw.glo aa,Xa,wf.glo,Wb];refine WU aa (WI (Xdv o N 0 _ aa aa aa ah (λx j=>?_) λm g=>?_) λr _ h=>Wg ⟨?_,h.2⟩)
 .simp only[WH]at j;rcases j with(h|h)|h
  .exact⟨(u x h).1,wf.roots x h⟩
  .refine⟨?_,wf.rloc x h⟩;obtain⟨p,hp,rfl⟩:=UM.1 h;exact(q p (UB.1 hp).1).1
  refine⟨?_,wf.rglo x h⟩;obtain⟨p,hp,rfl⟩:=UM.1 h;exact(s p (UB.1 hp).1).1
 .have⟨i,v,e⟩:=WM g;have:=wf.mk_ (k:=i) (m:=m) (by rw[Wc v,e]);omega
 grind
def Xbp(hN:NB N)(hw:WB k w)(g:YT w=true)(tw:X2 w)(M:Nat)(l:M<=2000000):∀(n:Nat) (i:Int) (v:List Bool) (q:List Int),0<=i->i<=q.length->(M-i).toNat<n->v.length=w.T.length->(∀x∈q,0<=x/\x<=w.T.length)->q.length+1000*v.countP (λb=>!b)<=M->Ok (Qdm N w n i v q) λr=>r.length=w.T.length
 |0,i,v,q,_,_,U,_,_,_=>by omega
 |n+1,i,v,q,j,Z,U,o,s,K=>by
  have u:=hN;unfold NB at u;have hk:=hw.kk;have ht:=hw.things;refine WU aa (Wp (λf=>?_) λ_=>Wg o);have f:i<q.length:=Ww f;rw[Xd (n:=i+1) aa aa];refine Ok.get j f λp hp=>?_;have same:∀y,Xb q i=some y->y=p:=λy h=>WG (h.symm.trans hp);have V:=s p (YH hp);refine Wp (λ_=>Xbp hN hw g tw M l n (i+1) v q aa aa aa o s K) λL=>?_;have L:¬p=0:=by simpa using L
  refine Ok.get j f λO z=>?_;obtain rfl:=same O z;rw[Xw (n:=O-1) aa aa];refine Ok.get aa aa λb hb=>Wp (λ_=>Xbp hN hw g tw M l n (i+1) v q aa aa aa o s K) λA=>?_;refine Ok.get j f λR B=>?_;obtain rfl:=same R B;rw[Xw (n:=R-1) aa aa];refine Ok.get aa aa λ_ _=>Ok.get j f λe E=>?_;obtain rfl:=same e E;have⟨g1,g2⟩:=JI hw (id:=e) aa aa;have hf:=hw.fields _ g2;have⟨v1,v2,v3,W⟩:=(Jf g).thing _ g2;have G:=XbP (thg w e).H 0 (thg w e).D;have G:(XeE (thg w e)).length<=1000:=by unfold XeE;omega
  rw[g1,Xa,XgY aa aa,Xa];have I:(e-1).toNat<v.length:=aa;have J:v[(e-1).toNat]=false:=by rw[X1 aa aa]at hb;rw[WG hb];exact A
  have hcount:(v.set (e-1).toNat true).countP (λb=>!b)+1<=v.countP (λb=>!b):=by have S:0<v.countP (λb=>!b):=List.countP_pos_iff.2 ⟨v[(e-1).toNat],WL _,by simp_all⟩;rw[List.countP_set I,J];simp;omega
  refine WU aa (Xbp hN hw g tw M l n (i+1) _ _ aa (by rw[WR];omega) aa (by simp_all) (λx Y=>?_) (by rw[WR];omega));rcases WH.1 Y with h|h
  .simp_all
  refine⟨?_,W x h⟩;exact((tw.1 _ g2).2 x (XbR _ _ _ x h)).1
def Xim(hN:NB N)(hw:WB k w)(e:YT w=true)(tw:X2 w):Ok (QgB N w) λr=>r.length=w.T.length:=by have f:=hN;unfold NB at f;have j:=hw.kk;have ht:=hw.things;rw[QgB,XcA hw aa,Xa,e,Wi,Wa];refine WU aa (WI (Xil hN hw e tw) λy _ g=>WI (Xbp hN hw e tw 1100000 aa N 0 _ y aa aa aa (by rw[WV];omega) g.2 ?_) λr _ h=>Wg h);grind[WV]
def XfA(y:List Bool)(h:y.length=w.T.length)(hw:WB k w):∀(n:Nat) (i:Int) (v:List Int),0<=i->i<=v.length->(v.length-i).toNat<n->v.length<=1000->(∀x∈v,0<=x/\x<=w.T.length)->Ok (Qbh N w y n i v) λr=>r.length=v.length
 |0,i,v,_,_,q,_,_=>by omega
 |n+1,i,v,f,A,q,j,l=>by
  have B:=hw.kk;have ht:=hw.things;refine WU aa (Wp (λe=>?_) λ_=>Wg rfl);have e:i<v.length:=Ww e;rw[Xd (n:=i+1) aa aa];have next:=XfA y h hw n (i+1) v aa aa aa j l
  refine Ok.get f e λp hp=>Wp (λo=>Ok.get f e λp2 g=>?_) λ_=>next
  obtain rfl:p=p2:=WG (hp.symm.trans g);have s:=l p (YH hp);have o:¬p=0:=by simpa using o
  rw[Xw (n:=p-1) aa aa];refine Ok.get aa aa λ_ _=>Wp (λ_=>Ok.get f e λ_ _=>?_) λ_=>next
  refine(XfA y h hw n (i+1) _ aa (by rw[WO];omega) (by rw[WO];omega) (by rw[WO];exact j) λx u=>?_).mono λr z=>by rw[z,WO]
  grind
def Xcj(hN:NB N)(hw:WB k w)(tw:X2 w):Ok (Qd1 N w) λr=>WB k r.1:=by
 have f:=hN;unfold NB at f;rw[Qd1,XcA hw aa,Xa];refine Wp (λ_=>Wg (XmE hw.kk)) λe=>?_;have e:YT w=true:=by simpa using e
 have wf:=Jf e;have j:=Xbl wf.wea;refine WI (Xim hN hw e tw) λy _ h=>?_;rw[Yt hw.wea aa,Xa,wf.wea,Wb];refine WI (XfA y h hw N 0 _ aa aa aa aa λx g=>⟨?_,wf.rwea x g⟩) λz _ l=>WI (XeB hw.wea aa aa) λt _ ht=>Wg ⟨hw.kk,hw.things,hw.fields,hw.loc,hw.gloK,Uq ht hw.weaK,hw.marksK,hw.rootsK⟩;obtain⟨p,hp,rfl⟩:=UM.1 g;exact(tw.2.2.2.1 p (UB.1 hp).1).1
end
def OV{β κ:Type}{P:β->Prop}{k:κ->Option β}{f:(κ->Option β)->Option β}(Q:κ->Prop)(h:∀x,Q x->Ok (k x) P)(g:∀j:κ->Option β,(∀x,Q x->Ok (j x) P)->Ok (f j) P):Ok (Sx.jn k f) P:=by simp_all[Xv]
section
variable {N:Nat}{w:WX}{k:Nat}
def Xag(hw:WB k w)(hN:1000000<N)(id:Int):Ok (QdK N w id) λr=>WB k r.1:=by refine Ua (Wg hw) ?_;rw[K3 hw.loc hN,Xa];exact Uc (ZJ _) λy _=>Wg ⟨hw.kk,hw.things,hw.fields,Xjh hw.loc id,hw.gloK,hw.weaK,hw.marksK,hw.rootsK⟩
def Xjq(hw:WB k w){id i v:Int}(e:1<=id)(f:id<=w.T.length)(g:0<=i)(l:i<(thg w id).D.length):Ok (Qgk N w id i v) λr=>WB k r:=by
 have o:=hw.kk;have ht:=hw.things;have⟨g1,g2⟩:=JI hw e f;have p:=hw.fields _ g2;rw[Qgk,Xc aa,g1,Xa,Xc aa];refine Ok.get g aa λ_ _=>?_;rw[Xa];refine Wg ⟨hw.kk,?_,λx j=>?_,hw.loc,hw.gloK,hw.weaK,hw.marksK,hw.rootsK⟩
 .simp_all
 rcases UC j with h|h
 .exact hw.fields x h
 simp_all
def Xg3(hw:WB k w)(hN:1000000<N)(op id:Int):Ok (Qfx N w op id) λr=>WB k r.1:=by
 refine Il (Ua ?_ ?_)
 .rw[K4 hw.wea hN,Xa];exact Uc (ZJ _) λy _=>Wg ⟨hw.kk,hw.things,hw.fields,hw.loc,hw.gloK,Xdk hw.weaK id,hw.marksK,hw.rootsK⟩
 rw[K4 hw.glo hN,Xa];exact Uc (ZJ _) λy _=>Wg ⟨hw.kk,hw.things,hw.fields,hw.loc,Xdk hw.gloK id,hw.weaK,hw.marksK,hw.rootsK⟩
def Xin(hw:WB k w)(hN:1000000<N)(v:Int):Ok (Qgb N w v) λr=>WB k r:=by
 refine Uc (XbN _) λy _=>Ua ?_ (Ua ?_ ?_)
 .rw[Xcy hw.loc hN,Xa];exact Wg ⟨hw.kk,hw.things,hw.fields,Xji hw.loc _ _,hw.gloK,hw.weaK,hw.marksK,hw.rootsK⟩
 .rw[JG hw.glo hN,Xa];exact Wg ⟨hw.kk,hw.things,hw.fields,hw.loc,XgQ hw.gloK _ _,hw.weaK,hw.marksK,hw.rootsK⟩
 rw[JG hw.wea hN,Xa];exact Wg ⟨hw.kk,hw.things,hw.fields,hw.loc,hw.gloK,XgQ hw.weaK _ _,hw.marksK,hw.rootsK⟩
def XmF(hw:WB k w)(hN:1000000<N)(o:w.m.length<=64)(op id b:Int)(j:op=20->0<=ZL w.m id):Ok (Qgt N w op id b) λr=>WB k r.1:=by
 have setM:∀l:List IA,l.length<=100+k->WB k ⟨w.c,w.T,w.l,w.g,w.v,l,w.R⟩:=λl p=>⟨hw.kk,hw.things,hw.fields,hw.loc,hw.gloK,hw.weaK,p,hw.rootsK⟩
 rw[Qgt,QhZ,Xfy aa hN,Xa,Xa];refine WU aa (Wp (λh=>?_) λ_=>Wp (λh=>?_) λh=>WU aa (Wg (setM _ (by grind))))
 .have h:=j (by simp_all);have⟨f,_,_⟩:=XbQ h;refine Ok.get h f λ_ _=>Ok.get h f λ_ _=>Ok.get h (by simp_all) λ_ _=>Wp (λ_=>?_) λ_=>Wg (setM _ (by grind));have e:=Xd (n:=ZL w.m id+1) aa aa;refine WU aa (WU aa (WU aa (Wg (setM _ ?_))));simp;omega
 have h:0<=ZL w.m id:=Ww h;have⟨f,_,_⟩:=XbQ h;exact Ok.get h f λ_ _=>Ok.get h f λ_ _=>Ok.get h (by simp_all) λ_ _=>Wg (setM _ (by grind))
def WB.up(hw:WB k w)(e:k+1<=900):WB (k+1) w:=⟨e,by have:=hw.things;omega,hw.fields,hw.loc,by have:=hw.gloK;omega,by have:=hw.weaK;omega,by have:=hw.marksK;omega,by have:=hw.rootsK;omega⟩
def XmG(hN:NB N)(hw:WB k w)(hk:k+1<=900)(tw:X2 w)(op:Int){a b c:Int}(ta:tU a)(A:tU b)(tc:tU c)(ft:Ov):Ok (Qgu N w op a b c ft) λr=>WB (k+1) r.1:=by
 have hN':=hN;unfold NB at hN';have j:1000000<N:=aa;have zero:WB (k+1) zWo:=XmE hk;rw[Qgu,Xrb hw j tw op ta A tc,Xa];refine Wp (λ_=>Wg zero) λf=>?_;have f:XmB w op a b c ft.Failed=0:=by simpa using f
 have I:YT w=true:=by
  cases h:YT w
  .unfold XmB at f;rw[h]at f;cases f
  rfl
 have wf:=Jf I;unfold XmB at f;rw[I,Wk ab]at f;have thing:(XP w a).2=0->1<=(Z9 w a).1/\(Z9 w a).1<=w.T.length/\XP w a=Z9 w a:=λh=>by obtain⟨J,K,t3⟩:=XeF hw I tw ta h;rw[t3]at J K;exact⟨J,K,t3⟩
 refine OV (λx=>¬(op<=3\/op=17)->x=(Z9 w a).1) (λB hx3=>?_) λj1 s=>?_;rotate_left
 .refine Wp (λhg=>Wp (λL=>?_) λL=>s _ λh=>absurd (Or.inr (by simpa using L)) h) λhg=>s _ λh=>absurd (Or.inl (by have:=WP hg;omega)) h;rw[JO hw j I ta,Xa];exact s _ λ_=>rfl
 simp only[Xqk];refine Wp (λM=>?_) λM=>?_
 ·
  have M:op=1\/op=2\/op=3:=by simpa using M
  rw[Wq M]at f;obtain⟨d,hd,hd2⟩:=Xg2 (N:=N) op ta A;have E:okW op a b/\Xbn w.c (hdW op a b)=true:=by
   unfold Xbo at f;split at f
   .cases f
   split at f
   .cases f
   rename_i _ h2;split at f
   .cases f
   rename_i h3;exact⟨Classical.not_not.1 h2,by simpa using h3⟩
  have hdd:=hd2 E.1;have hvd:XL d=true:=by have:=E.2;unfold Xbn at this;rw[W9]at this;rw[hdd];exact this.1
  have hb:=XO hvd;have main:∀w':WX,WB k w'->Ok (α:=WX×Int×Int) (bnd (QbQ N op a b) λz=>
   grd (w'.T.length*48<=140737488355328) <|
   grd (0<=z.1.n/\z.1.n.toNat*8<=140737488355328) <|
   grd ((w'.T.length+1)*48<=140737488355328) <|
   grd ((w'.T.length+1)<=140737488355328) <|
   bnd (QdK N (WX.mk (WW.mk w'.c.W w'.c.p) (w'.T++[(In.mk z.1 (List.replicate z.1.n.toNat 0))]) (Wo.mk w'.l.S w'.l.x w'.l.i) (Ws.mk w'.g.e) (Ws.mk w'.v.e) w'.m w'.R) (wU (((w'.T.length+1):Nat):Int))) λO=>
   some (O.1,O.2,0)) λr=>WB (k+1) r.1:=by
   intro w' q
   have ht:=q.things
   rw[hd,Xa]
   refine WU aa (WU (by constructor<;>simp only<;>omega) (WU aa (WU aa (Uc (Xag (k:=k+1) (w:=⟨w'.c,w'.T++[⟨d,List.replicate d.n.toNat 0⟩],w'.l,w'.g,w'.v,w'.m,w'.R⟩) ⟨hk,?_,λx hx=>?_,q.loc,IG q.gloK,IG q.weaK,IG q.marksK,IG q.rootsK⟩ j _) λy o=>Wg o))))
   .show(w'.T++[_]).length<=_;rw[WR];simp;omega
   .rcases WH.1 hx with h|h
    .exact q.fields x h
    .rw[US.1 h];show(List.replicate _ _).length<=_;rw[WV];omega
  refine Il (Wp (λ_=>WI (Xcj hN hw tw) λy _ o=>?_) λ_=>?_)
  .exact main y.1 o
  exact main w hw
 have hn1:¬(op=1\/op=2\/op=3):=by simpa using M
 rw[Wk hn1]at f;have U:∀v e:Int,Ok (α:=WX×Int×Int) (some (w,v,e)) λr=>WB (k+1) r.1:=λv e=>Wg (hw.up hk);have up:∀{w':WX},WB k w'->WB (k+1) w':=λh=>WB.up h hk;have pl:(op=4\/op=5\/op=10\/op=11)->Xdu w op a b=0:=λh=>by rw[Wk aa,Wk aa,Wk aa,Wk aa,Wk aa,Wq h]at f;exact f
 have len:(op=4\/op=5)->1<=B/\B<=w.T.length:=λh=>by have s:=pl aa;unfold Xdu at s;rw[Wq h]at s;have:=thing s;rw[hx3 aa];exact⟨this.1,this.2.1⟩
 have fld:(op=6\/op=7\/op=8\/op=9)->(1<=B/\B<=w.T.length)/\b<(thg w B).D.length/\wI b=b:=λh=>by
  rw[Wq h]at f;unfold XcB at f;by_cases s:(XP w a).2=0;rotate_left
  .rw[Wq s]at f;exact absurd f s
  rw[Wk (by simpa using s)]at f;obtain⟨J,K,t3⟩:=thing s;have e:B=(Z9 w a).1:=hx3 aa;rw[t3,←e]at f;rw[←e]at J K;obtain⟨g1,g2⟩:=JI hw J K;obtain⟨v1,v2,v3,v4⟩:=wf.thing _ g2;have vb:=XO v1;by_cases h2:b>=(thg w B).H.n
  .rw[Wq h2]at f;cases f
  have:=A.1;exact⟨⟨J,K⟩,aa,Xd aa aa⟩
 refine Wp (λh4=>?_) λn4=>Wp (λh5=>?_) λn5=>Wp (λh6=>?_) λn6=>Wp (λh7=>?_) λn7=>Wp (λh8=>?_) λn8=>Wp (λh9=>?_) λn9=>Wp (λh10=>?_) λn10=>Wp (λh11=>?_) λn11=>?_
 .have h4:op=4:=by simpa using h4
  have:=len (.inl h4);rw[(JI hw this.1 this.2).1,Xa];exact U _ _
 .have h5:op=5:=by simpa using h5
  have:=len (.inr h5);rw[(JI hw this.1 this.2).1,Xa];exact U _ _
 .have h6:op=6:=by simpa using h6
  obtain⟨u,G,V⟩:=fld aa;rw[(JI hw u.1 u.2).1,Xa];exact Ok.get A.1 G λ_ _=>U _ _
 .have h7:op=7:=by simpa using h7
  obtain⟨u,G,V⟩:=fld aa;rw[V];exact Uc (Xjq hw u.1 u.2 A.1 G) λy o=>Wg (up o)
 .have h8:op=8:=by simpa using h8
  obtain⟨u,G,V⟩:=fld aa;rw[(JI hw u.1 u.2).1,Xa];exact Ok.get A.1 G λ_ _=>Uc (Xag hw j _) λy o=>Wg (up o)
 .have h9:op=9:=by simpa using h9
  obtain⟨u,G,V⟩:=fld aa;rw[JO hw j I tc,Xa,V];exact Uc (Xjq hw u.1 u.2 A.1 G) λy o=>Wg (up o)
 .rw[JO hw j I A,Xa];exact Ua (U _ _) (U _ _)
 .exact Uc (Xag hw j _) λy o=>Wg (up o)
 have n6:¬op=6:=by simpa using n6
 have n7:¬op=7:=by simpa using n7
 have n8:¬op=8:=by simpa using n8
 have n9:¬op=9:=by simpa using n9
 refine Wp (λ_=>Uc (Xg3 hw j _ _) λy o=>Wg (up o)) λnl=>?_;have nl:¬(op=13\/op=15):=by simpa using nl
 refine Wp (λ_=>Uc (Xin hw j _) λy o=>Wg (up o)) λnr=>?_;have nr:¬(op=12\/op=14\/op=16):=by simpa using nr
 refine Wp (λ_=>?_) λY=>Wp (λ_=>?_) λZ=>?_
 .rw[VQ hw.loc j,Xa];exact Wg (up ⟨hw.kk,hw.things,hw.fields,XgO hw.loc _,hw.gloK,hw.weaK,hw.marksK,hw.rootsK⟩)
 .rw[Xbj hw.loc j,Xa];exact Uc (Xag (w:=⟨w.c,w.T,(ZC w.l).1,w.g,w.v,w.m,w.R⟩) ⟨hw.kk,hw.things,hw.fields,Xbk hw.loc,hw.gloK,hw.weaK,hw.marksK,hw.rootsK⟩ j _) λy o=>Wg (up o)
 have Y:¬op=17:=by simpa using Y
 have Z:¬op=18:=by simpa using Z
 rw[Wk aa,Wk aa,Wk aa,Wk aa]at f;refine Uc (XmF hw j wf.m64 op B _ λh20=>?_) λy o=>Wg (up o);unfold Xjp at f;grind
end
def Xjr{α:Type}{l:List α}{F:Nat->Int->Option (Ex Int Unit)}{p:α->Bool}(g:l.length<=1000000)(e:∀(n k:Nat) (x:α),l[k]? = some x->F (n+1) (k:Int)=bif p x then some (.ret (k:Int))else F n ((k+1:Nat):Int))(f:∀n:Nat,F (n+1) (l.length:Int)=some (.nxt ())):∀(n k:Nat),k<=l.length->l.length-k<n->F n (k:Int)=some (match (l.drop k).findIdx? p with|some j=>.ret ((k+j:Nat):Int)|none=>.nxt ())
 |0,k,_,o=>by omega
 |n+1,k,q,o=>by
  by_cases h:k<l.length
  .rw[e n k _ (Wc h),Wu h,IT];cases hp:p l[k]
   .rw[Wa,Xjr g e f n (k+1) aa aa,Wk ab];cases (l.drop (k+1)).findIdx? p with
    |none=>rfl
    |some j=>simp only[U4];rw[show k+1+j=k+(j+1) by omega]
   simp
  grind
def J8{α:Type}(p:α->Bool)(l:List α):Int:=match l.findIdx? p with|some j=>(j:Int)|none=>-1
def JQ{α:Type}{l:List α}{F:Nat->Int->Option (Ex Int Unit)}{p:α->Bool}{N:Nat}(o:l.length<=1000000)(hN:1000000<N)(f:∀(n k:Nat) (x:α),l[k]? = some x->F (n+1) (k:Int)=bif p x then some (.ret (k:Int))else F n ((k+1:Nat):Int))(g:∀n:Nat,F (n+1) (l.length:Int)=some (.nxt ())):(bnd (F N 0) λe=>exK e (λr=>some r) λ_=>some (-1))=some (J8 p l):=by
 have h:=Xjr o f g N 0 aa aa;rw[show((0:Nat):Int)=0 from rfl,W0]at h;rw[h,Xa,J8];cases l.findIdx? p with
 |none=>simp[Xp]
 |some j=>simp[XE,UG]
def Ky{α:Type}(p:α->Bool)(l:List α):decide (J8 p l>=0)=l.any p:=by unfold J8;grind
section
variable {N:Nat}
def Xpl(e:WT):QgG N e=some (!Xci e):=by rw[QgG];unfold Xci;grind
def XfB{α:Type}(p:α->Bool)(l:List α):(!l.any λx=>!p x)=l.all p:=by grind
def J9{t:Ws}(f:TB t)(hN:1000000<N):QdM N t=some (YZ t.e):=by
 unfold TB at f;rw[QdM,QaQ,QaW];rw[JQ (p:=λe=>!Xci e) f hN (λn k x e=>by
  have g:=XC e
  rw[Qal,Xm g,Wb,Xe,e,Xa,Xpl,Xa,Xg aa]) (λn=>by rw[Qal,XA,Wa])]
 rw[Xa,Xa,Ky,XfB,YZ,show decide ((t.e.length:Int)<=64)=decide (t.e.length<=64)from decide_eq_decide.2 aa];grind
def XbS{t:Ws}(f:t.e.length<=1000000):∀(n k:Nat) (v:List Int),k<=t.e.length->t.e.length-k<n->v.length<=k ->
 QeK N t n (k:Int) v=some (v++XT (t.e.drop k))
 |0,k,v,_,g,_=>by omega
 |n+1,k,v,l,g,j=>by
  rw[QeK];by_cases h:k<t.e.length
  .rw[Xm h,Wb,Xe,Wc h,Xa,Xg aa,Wu h,XT];cases o:t.e[k].V
   .rw[Wa,XbS f n (k+1) v aa aa aa,UZ (by simp_all)];rfl
   rw[Wb,Xc aa,XbS f n (k+1) _ aa aa (by simp_all),UA aa];simp[XT]
  obtain rfl:k=t.e.length:=aa;simp[XT]
def Jg{t:Ws}(f:TB t)(hN:1000000<N):Qep N t=some (bif YZ t.e then XT t.e else[]):=by
 rw[Qep,J9 f hN,Xa];cases g:YZ t.e
 .rfl
 have h:=XbS (N:=N) (t:=t) f N 0 [] aa (by unfold TB at f;omega) ab;rw[show((0:Nat):Int)=0 from rfl,W0,Uk]at h;simp[Wi,Wa,h,Xa]
def XkA(x:Int):QgF N x=some (!(!decide (x<0)&&!decide (x>4095))):=by rw[QgF,show decide (x>=4096)=decide (x>4095)from decide_eq_decide.2 aa];cases decide (x<0)<;>cases decide (x>4095)<;>rfl
def XeG{a:Wo}:∀(n:Nat) (s i:Int),Qa8 N ⟨a⟩ n s i=Qaq N a n s i
 |0,s,i=>by rfl
 |n+1,s,i=>by rw[Qa8,Qaq];have e:∀s i,Qa8 N ⟨a⟩ n s i=Qaq N a n s i:=XeG n;simp_all
def Xdw{a:Wo}:∀(n:Nat) (s i:Int),Qbl N ⟨a⟩ n s i=Qaw N a n s i
 |0,s,i=>by rfl
 |n+1,s,i=>by rw[Qbl,Qaw];have e:∀s i,Qbl N ⟨a⟩ n s i=Qaw N a n s i:=Xdw n;grind
def XkB{a:Wo}(g:LBp a)(e:neB a.S.length a.x=true){k:Nat}{p:UJ}(hp:a.x[k]? = some p):Qex N ⟨a⟩ (k:Int)=some ((a.S.drop p.O.toNat).take ((toL a k).toNat-p.O.toNat)):=by
 have j:=VP e hp;have s:=XC hp;have o:=g.2.1;have q:(Oc.mk a).l.S.length=a.S.length:=rfl;rw[Qex,Xg aa,toL];by_cases h:k+1<a.x.length
 .have f:=Wc h;have r:=VP e f;have:=j.2.2.2.2.2 _ f;rw[Xm h,Wb,Xe,hp,Xa,Xe,f,Xa,Xc aa]
 rw[show decide (((k+1:Nat):Int)<(a.x.length:Int))=false from Wh aa,Wa,Xe,hp,Xa,Xc aa,W3 aa];simp[Uu,Wn]
def Xdx(l:List UE)(e:l.length<=1000000):∀(n k c:Nat),k<=l.length->l.length-k<n->c<=k->QbZ N l n (c:Int) (k:Int)=some (((c+(l.drop k).countP (·.V):Nat):Int))
 |0,k,c,_,f,_=>by omega
 |n+1,k,c,g,f,j=>by
  rw[QbZ];by_cases h:k<l.length
  .rw[Xm h,Wb,Xe,Wc h,Xa,Xg aa,Xg aa,Wu h,List.countP_cons];cases o:l[k].V
   .rw[Wa,Xdx l e n (k+1) c aa aa aa];simp
   rw[Wb,Xdx l e n (k+1) (c+1) aa aa aa];simp;omega
  grind
def Xg4{a:Wo}(g:LBp a)(hN:1000000<N)(f:neB a.S.length a.x=true){k:Nat}{p:UJ}(hp:a.x[k]? = some p):QdZ N ⟨a⟩ (k:Int)=some ((KG a.S p.O.toNat (toL a k).toNat:Nat):Int):=by
 have j:=g.1;rw[QdZ,XkB g f hp,Xa];have e:((a.S.drop p.O.toNat).take ((toL a k).toNat-p.O.toNat)).length<=1000000:=by rw[Wl,Wn];omega
 have h:=Xdx (N:=N) _ e N 0 0 aa aa aa;rw[show((0:Nat):Int)=0 from rfl,W0,UG]at h;rw[h,Xa];rfl
def Jw{a:Wo}(o:LBp a)(hN:1000000<N):Qdb N a=some (Y0 a):=by
 have g:=o;have⟨u,v,hl3⟩:=o;rw[Qdb,QbE,Qb4];rw[JQ (p:=λx=>!(!decide (x<0)&&!decide (x>4095))) hl3 hN (λn k x e=>by
  have f:=XC e
  rw[QaP,Xm f,Wb,Xe,e,Xa,XkA,Xa,Xg aa]) (λn=>by rw[QaP,XA,Wa])]
 have y:=J6 (l:=a.S) (F:=λn s i=>Qaw N a n s i) (q:=stQ a.i) (nxp:=λ_ p=>p.J) (I:=λs=>0<=s) (λn s k p r e=>by
  have f:=XC e
  show Qaw N a (n+1) s (k:Int)=_
  rw[Qaw,Xm f,Wb,Xe,e,Xa,Xg aa]
  unfold stQ
  cases g1:decide (p.J<=s)
  .cases g2:decide (p.J>(a.i.length:Int))
   .have g1:=WP g1
    have g2:=WP g2
    rw[Wa,Wa,Xd aa aa,X1 aa aa,Xa]
    have ge:a.i[(p.J-1).toNat]'aa=a.i.getD (p.J-1).toNat 0:=by
     rw[Wr,Wc aa];rfl
    rw[ge]
    cases (a.i.getD (p.J-1).toNat 0 != (k:Int))<;>cases (p.V==(p.a != 0))<;>rfl
   .rfl
  .rfl) (λn s=>by show Qaw N a (n+1) s _=_;rw[Qaw,XA,Wa]) (λs k p r e h=>by
   unfold stQ at h
   simp only[W9,I7,IP]at h
   have:=h.1
   omega) N 0 0 aa aa aa
 have z:=J6 (l:=a.x) (F:=λn s i=>Qaq N a n s i) (q:=neQ a.S.length) (nxp:=λ_ p=>p.O) (I:=λ_=>True) (λn s k p r e=>by
  have f:=XC e
  show Qaq N a (n+1) s (k:Int)=_
  rw[Qaq,Xm f,Wb,Xe,e,Xa,Xg aa]
  unfold neQ
  cases ((k:Int)==0)<;>cases (p.O != 0)<;>cases p.B0<;>cases decide (p.O<s)<;>cases decide (p.O>(a.S.length:Int))<;>cases decide (p.C0<0)<;>cases decide (p.C0>64)<;>rfl) (λn s=>by show Qaq N a (n+1) s _=_;rw[Qaq,XA,Wa]) (λ_ _ _ _ _ _=>trivial) N 0 0 trivial aa aa
 have A:Qaw N a N 0 0=some (bif stB a.i a.S then .nxt ()else .ret false):=y;have e3:Qaq N a N 0 0=some (bif neB a.S.length a.x then .nxt ()else .ret false):=z;have B:Qd6 N ⟨a⟩=some (!decide ((a.x.length:Int)>64)&&((!((a.x.length:Int)==0)||!decide ((a.S.length:Int)>0))&&neB a.S.length a.x)):=by rw[Qd6,Xv,XeG,e3,Xa];cases neB a.S.length a.x<;>cases decide ((a.x.length:Int)>64)<;>cases ((a.x.length:Int)==0)<;>cases decide ((a.S.length:Int)>0)<;>simp only[Wb,Wa,XE,Xp]<;>rfl
 have D:QdV N ⟨a⟩=some (stB a.i a.S):=by rw[QdV,Xdw,A,Xa];cases stB a.i a.S<;>simp only[Wb,Wa,XE,Xp]
 rw[Xa,Xa,Ky,B,Xa,D,Xa,Y0,Xpg];have E:(a.i.any λx=>!(!decide (x<0)&&!decide (x>4095))) = !(a.i.all λp=>!decide (p<0)&&!decide (p>4095)):=by rw[←XfB,Bool.not_not]
 rw[E];cases decide ((a.i.length:Int)>4096);rotate_left
 .rfl
 cases (a.i.all λp=>!decide (p<0)&&!decide (p>4095))
 .cases decide ((a.x.length:Int)>64)<;>cases (!((a.x.length:Int)==0)||!decide ((a.S.length:Int)>0))<;>rfl
 cases decide ((a.x.length:Int)>64);rotate_left
 .rfl
 cases (!((a.x.length:Int)==0)||!decide ((a.S.length:Int)>0))
 .rfl
 cases j:neB a.S.length a.x
 .cases stB a.i a.S<;>rfl
 cases stB a.i a.S
 .rfl
 simp;have G:=JE (l:=a.x) (F:=Qeh N a) (q:=Xmx a ()) (λn k p e=>by
  have f:=XC e
  rw[Qeh,Xm f,Wb,Xe,e,Xa,Xg4 g hN j e,Xa,Xg aa]
  unfold Xmx
  cases decide (((KG a.S p.O.toNat (toL a k).toNat:Nat):Int)>p.C0)<;>rfl) (λn=>by rw[Qeh,XA,Wa]) (n:=N) aa
 rw[G,Xa];show exK (bif Xic a then Ex.nxt ()else Ex.ret false) _ _=_;cases Xic a
 .rw[Wa,XE]
 simp[Wb,Xp]
def XbT{a:Wo}(e:a.S.length<=1000000):∀(n k:Nat) (v:List Int),k<=a.S.length->a.S.length-k<n->v.length<=k ->
 QeL N a n (k:Int) v=some (v++X9 (a.S.drop k))
 |0,k,v,_,f,_=>by omega
 |n+1,k,v,j,f,g=>by
  rw[QeL];by_cases h:k<a.S.length
  .rw[Xm h,Wb,Xe,Wc h,Xa,Xg aa,Wu h,X9];cases l:a.S[k].V
   .rw[Wa,XbT e n (k+1) v aa aa aa,UZ (by simp_all)];rfl
   rw[Wb,Xc aa,XbT e n (k+1) _ aa aa (by simp_all),UA aa];simp[X9]
  obtain rfl:k=a.S.length:=aa;simp[X9]
def XbU{a:Wo}(e:LBp a)(hN:1000000<N):Qgw N a=some (bif Y0 a then X9 a.S else[]):=by
 rw[Qgw,Jw e hN,Xa];cases f:Y0 a
 .rfl
 have h:=XbT (N:=N) (a:=a) e.1 N 0 [] aa (by have:=e.1;omega) ab;rw[show((0:Nat):Int)=0 from rfl,W0,Uk]at h;simp[Wi,Wa,h,Xa]
end
def Jh(N:Nat)(c:WW):QcD N c=some (X8 c):=by exact Zk N c
def XmH(N:Nat)(c:WW):QfL N c=some (smC c):=by exact Xi5 N c
def VT(N:Nat)(c:WW)(w:Int):QfM N c w=some (XD c w):=by
 simp only[QfM,Jh,XmH,Xa,XD,smC];cases j:X8 c with
 |false=>simp
 |true=>
  have h:=Xo.1 j;simp only[Wi,Wa,if_true,Uz];rw[Xd (n:=4*c.W) aa aa];by_cases f:w<1
  .rw[Wq f,Wk (show¬(True/\1<=w)fromλh=>aa)]
  rw[Wk f,Wq (show True/\1<=w from⟨trivial,aa⟩)];by_cases g:w>4*c.W
  .rw[Wq g];simp only[Wk (show¬w<=c.W / 4 by omega),Wk (show¬c.W>=w by omega),Wk (show¬2*c.W>=w by omega),Wk (show¬3*c.W>=w by omega),Wk (show¬4*c.W>=w by omega)]
  rw[Wk g];by_cases e:w<=c.W / 4
  .rw[Wq e,Wq e]
  rw[Wk e,Wk e,Xc aa,Xd (n:=w+c.W) aa aa,Xd (n:=w+c.W-1) aa aa,Ic aa];have key:∀k:Int,k*c.W<=w+c.W-1->w+c.W-1<(k+1)*c.W->(w+c.W-1) / c.W=k:=by intro k a b;have l:=Int.ediv_lt_of_lt_mul (show 0<c.W by omega) b;have o:=Int.le_ediv_of_mul_le (show 0<c.W by omega) a;omega
  split
  .rw[key 1 aa aa];rfl
  split
  .rw[key 2 aa aa];rfl
  split
  .rw[key 3 aa aa];rfl
  split
  .rw[key 4 aa aa];rfl
  omega
def Xio(N:Nat)(c:WW)(a:Int)(j:a<=18446744073709551615):Qcc N c a=Qdl N c a:=by
 rw[J4];simp only[Qcc,Jh,Xa,Uz];cases e:X8 c with
 |false=>simp
 |true=>
  have h:=Xo.1 e;have l:=XZ e (i:=0) aa aa;simp only[Wi,Wa];rw[Wk (show¬(true=false) by simp),Int.mul_comm c.W c.p];rw[Xd (n:=c.p*c.W) aa aa,Xw (n:=c.p*c.W) aa aa];by_cases f:a<4096
  .grind
  rw[Wk f,Xw (n:=a-4096) aa aa];by_cases o:a>=4096+c.p*c.W
  .grind
  rw[Wk aa,Wq aa,Xc aa,Xc aa];rw[Xd (n:=a-4096) aa aa,Ic aa,Is aa];have hd:0<=(a-4096) / c.W:=Int.ediv_nonneg aa aa;have g:(a-4096) / c.W<=a-4096:=Int.ediv_le_self _ aa;rw[Xd aa aa]
def VU(N:Nat)(c:WW)(p o:Int):QdT N c p o=QbF N c p o:=by
 rw[K1];simp only[QdT,Jh,Xa,Uz];cases h:X8 c with
 |false=>simp
 |true=>
  simp only[Wi,Wa];rw[Wk (show¬(true=false) by simp)];by_cases e:p<0
  .rw[Wq e,Wk aa]
  rw[Wk e];by_cases f:p>=c.p
  .rw[Wq f,Wk aa]
  rw[Wk f];by_cases g:o<0
  .rw[Wq g,Wk aa]
  rw[Wk g];by_cases j:o>=c.W
  .rw[Wq j,Wk aa]
  have l:=XZ h (i:=p) aa aa;rw[Xd (n:=p*c.W) aa aa,Xd (n:=p*c.W+o) aa aa,Xw (n:=p*c.W+o) aa aa,Xw aa aa];unfold Xj;grind
def Kh(sp:Int)(p:Wv):Bool:=p.k==3&&p.s==sp
def VV(e:List Wv)(sp:Int)(i:Nat):Nat:=((e.drop i).takeWhile (Kh sp)).length
def Xg5(N:Nat)(e:List Wv)(sp:Int)(l:e.length<=1000000):∀(n c i:Nat),i<=e.length->c<=i->e.length-i<n->Qd9 N e sp n (c:Int) (i:Int)=some (((c+VV e sp i:Nat):Int))
 |0,c,i,_,_,h=>by omega
 |n+1,c,i,h,o,p=>by
  rw[Qd9];by_cases f:i<e.length
  .rw[Wd aa,Wb,Xe,Wc f,Xa,Xa];have hd:e.drop i=e[i]::e.drop (i+1):=Wu f;unfold VV;rw[hd,List.takeWhile_cons];cases g:(e[i].k==3)with
   |false=>simp[Kh,g]
   |true=>
    cases j:(e[i].s==sp)with
    |false=>simp[Kh,g,j]
    |true=>rw[Wb,show Kh sp e[i]=true by simp[Kh,g,j],Wq rfl];rw[Xg aa,Xg aa,Xg5 N e sp l n (c+1) (i+1) aa aa aa];unfold VV;grind
  have:e.drop i=[]:=UN aa;rw[Wh aa,Wa];simp[VV,this]
def XmI{N:Nat}(e:List Wv)(sp:Int)(f:e.length<=1000000)(hN:1000000<N)(i:Nat)(g:i<e.length):QfT N e (i:Int) sp=some ((VV e sp (i+1):Nat):Int):=by rw[QfT,Xg aa,show(0:Int)=((0:Nat):Int)from rfl,Xg5 N e sp f N 0 (i+1) aa aa aa,Xa,UG]
def Xbq{α:Type}(q:α->Bool):∀(l:List α) (k:Nat),k<=(l.takeWhile q).length↔k<=l.length/\(l.take k).all q=true
 |[],k=>by simp
 |a::l,0=>by simp
 |a::l,k+1=>by
  rw[List.takeWhile_cons];cases h:q a with
  |false=>grind
  |true=>simp[h];exact Xbq q l k |>.trans ab
def Yc(sp:Int)(p:Wv):Bool:=Kh sp p&&(p.u==0&&p.P==0)
def Xjs(N:Nat)(o:List Wv)(f:Int)(g:Wv)(q p:Int)(l:List Wv)(v:l.length<=1000000)(hd:((o.drop (wI (f+1)).toNat).take ((wI (f+p)).toNat-(wI (f+1)).toNat))=l)(r:min ((wI (f+p)).toNat-(wI (f+1)).toNat) (o.length-(wI (f+1)).toNat)=l.length):
 ∀(n k:Nat),k<=l.length->l.length-k<n->Qgc N o f g q p n (k:Int)=some (if(l.drop k).all (Yc g.s)=true then .nxt ()else .ret 0)
 |0,k,_,h=>by omega
 |n+1,k,h,y=>by
  rw[Qgc,hd,r];by_cases j:k<l.length
  .rw[Wd aa,Wb,Xe,Wc j,Xa,Qf4,Xa,Wu j,List.all_cons];have e:((l[k].k==3)&&((l[k].s==g.s)&&((l[k].u==0)&&(l[k].P==0))))=Yc g.s l[k]:=by unfold Yc Kh;rw[Bool.and_assoc]
   rw[e];cases z:Yc g.s l[k]with
   |false=>simp
   |true=>rw[Wi,Wa,Xg aa,Xjs N o f g q p l v hd r n (k+1) aa aa,W8]
  grind
def Yb(c:WW)(e:List Wv)(i:Nat)(p:Wv):Nat:=
 if p.k=0 then(if p.s=0/\p.u=0/\p.P=0 then 1 else 0)
 else if(p.s=0\/p.s=1)/\0<=p.P/\p.P<=2147483647 then
  (if p.k=1 then(if 0<=p.u/\p.u<=c.W then 1 else 0)
   else if p.k=2 then(if 1<=XD c p.u/\(XD c p.u).toNat<=e.length-i/\((e.drop (i+1)).take ((XD c p.u).toNat-1)).all (Yc p.s)=true then(XD c p.u).toNat else 0)
   else 0)
 else 0
def Z6(N:Nat)(p:Wv):Qci N p=some (decide (p.s=0\/p.s=1)):=by rw[Qci];grind
def Xah(N:Nat)(p:Wv):QdX N p=some (decide (0<=p.P/\p.P<=2147483647)):=by grind[QdX]
def KH{N:Nat}{c:WW}{h:List Wv}(E:h.length<=100000)(hN:1000000<N){i:Nat}(A:i<h.length):QhO N c h (i:Int)=some ((Yb c h i h[i]:Nat):Int):=by
 rw[QhO,Xe,Wc A,Xa,Xv];generalize hp:h[i]=p;unfold Yb;by_cases k0:p.k<0
 .grind
 rw[Wh k0,Wa];by_cases B:p.k>=3
 .grind
 rw[Wh B,Wa];by_cases r:p.k=0
 .rw[show(p.k==0)=true by simpa using r,Wb,Wq r,QgU,Xa];grind
 rw[show(p.k==0)=false by simp_all,Wa,Wk r];by_cases e:(p.s=0\/p.s=1);case neg=>
  rw[Wk (λj=>e j.1)]
  by_cases l:p.k=1
  .rw[show(p.k==1)=true by simp_all,Wb,Qef,Z6,Xa,Wh e,Wa,Xa];rfl
  .have v:p.k=2:=aa
   rw[show(p.k==1)=false by simp_all,Wa,show(p.k==2)=true by simp_all,Wb,Qeg,Z6,Xa,Wh e,Wa,Xa];rfl
 by_cases g:0<=p.P/\p.P<=2147483647;case neg=>
  rw[Wk (λj=>g j.2)]
  by_cases l:p.k=1
  .rw[show(p.k==1)=true by simp_all,Wb,Qef,Z6,Xa,Wd e,Wb,Xah,Xa,Wh g,Wa,Xa];rfl
  .have v:p.k=2:=aa
   rw[show(p.k==1)=false by simp_all,Wa,show(p.k==2)=true by simp_all,Wb,Qeg,Z6,Xa,Wd e,Wb,Xah,Xa,Wh g,Wa,Xa];rfl
 rw[Wq ⟨e,g⟩];by_cases l:p.k=1
 .rw[show(p.k==1)=true by simpa using l,Wb,Qef,Z6,Xa,Wd e,Wb,Xah,Xa,Wd g,Wb,Wq l];by_cases y:0<=p.u
  .by_cases z:p.u<=c.W
   .simp[y,z,Xa]
   simp[y,z,Xa]
  simp[y,Xa]
 have v:p.k=2:=aa;rw[show(p.k==1)=false by simp_all,Wa,show(p.k==2)=true by simp_all,Wb,Qeg,Z6,Xa,Wd e,Wb,Xah,Xa,Wd g,Wb,Wk l,Wq v];simp only[VT,Xa];by_cases o:XD c p.u>=1;case neg=>grind
 rw[Wd o,Wi,Wa,show((2:Int) != 2)=false from rfl,Wa,Xd (n:=(h.length:Int)-i) aa aa];by_cases q:XD c p.u>(h.length:Int)-i
 .grind
 rw[Wh q,Wa];have w1:wI ((i:Int)+1)=((i+1:Nat):Int):=Xg aa;have w2:wI ((i:Int)+XD c p.u)=(i:Int)+XD c p.u:=Xd aa aa;rw[Xc aa];have D:(wI ((i:Int)+1)).toNat=i+1:=by rw[w1];omega
 have G:(wI ((i:Int)+XD c p.u)).toNat-(wI ((i:Int)+1)).toNat=(XD c p.u).toNat-1:=by rw[D,w2];omega
 rw[show(0:Int)=((0:Nat):Int)from rfl,Xjs N h (i:Int) p 2 (XD c p.u) ((h.drop (i+1)).take ((XD c p.u).toNat-1)) (by grind) (by simp_all) (by simp_all) N 0 aa (by grind),Xa,W0];by_cases f:((h.drop (i+1)).take ((XD c p.u).toNat-1)).all (Yc p.s)=true
 .rw[Wq f,Xp,Wq ⟨o,aa,f⟩];grind
 rw[Wk f,XE,Wk (λj=>f j.2.2)];rfl
def XW{p:Prop}[Decidable p](h:¬p):decide p=false:=Wh h
def XeH{N:Nat}{h:Wm}(y:h.p.length<=100000){sp:Int}(l:sp=0\/sp=1):∀(k n i:Nat),i+k<=h.p.length->((h.p.drop i).take k).all (Kh sp)=true ->
 QaL N h (n+k) (k:Int) (i:Int)=if((h.p.drop i).take k).all (Yc sp)=true then QaL N h n 0 ((i+k:Nat):Int)else some (.ret false)
 |0,n,i,o,f=>by simp
 |k+1,n,i,o,f=>by
  have g:i<h.p.length:=aa;have hd:(h.p.drop i).take (k+1)=h.p[i]::(h.p.drop (i+1)).take k:=by rw[Wu g,List.take_succ_cons]
  rw[hd,List.all_cons,W9]at f;rw[hd,List.all_cons,show n+(k+1)=(n+k)+1 from rfl,QaL,Wd aa,Wb,Xe,Wc g,Xa];have B:=XeH (N:=N) y l k n (i+1) aa f.2;generalize h.p[i]=p at *;have z:p.k=3/\p.s=sp:=by have:=f.1;simp only[Kh,W9,beq_iff_eq]at this;exact this
  have⟨e,A⟩:=z;have q:(p.k==3)=true:=by simpa using e
  rw[q,Wd (show(((k+1:Nat):Int)>0) by omega),show(!(true==true))=false from rfl,Wa,XW (show¬p.s<0 by omega),Wa,XW (show¬p.s>1 by omega),Wa,Xfo,Xa];by_cases hp:p.P=0;case neg=>
   have j:Yc sp p=false:=by simp[Yc,hp]
   rw[j,Uw,Wk ab]
   by_cases r:0<=p.P/\p.P<=2147483647
   .rw[Wd r,Wi,Wa]
    simp only[Xv,show(p.k==0)=false by rw[e];rfl,show(p.k==1)=false by rw[e];rfl,show(p.k==2)=false by rw[e];rfl,q,Wa,Wb,show(p.P != 0)=true by simpa using hp,Bool.cond_self]
   grind
  simp only[Xv,show(p.k==0)=false by simp_all,show(p.k==1)=false by simp_all,show(p.k==2)=false by simp_all,q,Wa,Wb,show(p.P != 0)=false by simp_all];by_cases v:p.u=0
  .have j:Yc sp p=true:=by unfold Yc;rw[f.1];simp[v,hp]
   rw[show(p.u != 0)=false by simpa using v,Wa,j,W8,Xd (n:=((k+1:Nat):Int)-1) aa aa,Xg aa];grind
  have j:Yc sp p=false:=by simp[Yc,v]
  grind
def XmJ{α:Type}{p q:α->Bool}(h:∀x,q x=true->p x=true):∀{l:List α},l.all q=true->l.all p=true:=by simp_all
def XkC{N:Nat}{h:Wm}(hc:X8 h.c=true)(U:h.p.length<=100000)(hN:1000000<N){i:Nat}(K:i<h.p.length)(n:Nat)(hn:10<=n):
 QaL N h n 0 (i:Int)=if Yb h.c h.p i h.p[i]=0 then some (.ret false)else QaL N h (n-Yb h.c h.p i h.p[i]) 0 ((i+Yb h.c h.p i h.p[i]:Nat):Int):=by
 obtain⟨n,rfl⟩:∃m,n=m+1:=⟨n-1,aa⟩
 rw[QaL,Wd (show(i:Int)<(h.p.length:Int) by omega),Wb,Xe,Wc K,Xa];generalize h.p[i]=p;have L:(if(0:Int)<wI (0-1)then wI (0-1)else 0)=0:=by rw[Xd aa aa];rfl
 have ge:wI ((i:Int)+1)=((i+1:Nat):Int):=Xg aa;generalize f:Yb h.c h.p i p=s;unfold Yb at f;have no:s=0->(if s=0 then some (.ret false)else QaL N h (n+1-s) 0 ((i+s:Nat):Int))=some (.ret false):=λe=>Wq e;rw[Wh (show¬(0:Int)>0 by omega)];by_cases M:p.k=3
 .rw[show(p.k==3)=true by simpa using M,show(!(true==false))=true from rfl,Wb];rw[Wk (show¬p.k=0 by omega),Wk (show¬p.k=1 by omega),Wk (show¬p.k=2 by omega),ite_self]at f;exact(no f.symm).symm
 have r:(p.k==3)=false:=by simpa using M
 rw[r,show(!(false==false))=false from rfl,Wa];by_cases l:p.s=0\/p.s=1;case neg=>
  have z:s=0:=by
   rw[←f,Wk (c:=(p.s=0\/p.s=1)/\_) (λg=>l g.1)]
   split
   .rw[Wk (λg=>l (.inl g.1))]
   .rfl
  rw[no z]
  by_cases O:p.s<0
  .rw[Wd O,Wb]
  .rw[XW O,Wa,Wd (show p.s>1 by omega),Wb]
 rw[XW (show¬p.s<0 by omega),Wa,XW (show¬p.s>1 by omega),Wa,Xfo,Xa];by_cases j:0<=p.P/\p.P<=2147483647;case neg=>
  have z:s=0:=by
   rw[←f,Wk (c:=(p.s=0\/p.s=1)/\_) (λg=>j g.2)]
   split
   .rw[Wk (λg=>j aa)]
   .rfl
  rw[no z,XW j,W7,Wb]
 rw[Wq (c:=(p.s=0\/p.s=1)/\_) ⟨l,j⟩]at f;rw[Wd j,Wi,Wa];by_cases q:p.k=0
 .have D:(p.k==1)=false:=by rw[q];rfl
  have v:(p.k==2)=false:=by rw[q];rfl
  rw[Wq q]at f;simp only[Xv,show(p.k==0)=true by simpa using q,D,v,r,Wb,Wa,W8];by_cases E:p.s=0/\p.u=0/\p.P=0
  .rw[Wq E]at f;subst f;obtain⟨V,Y,Z⟩:=E;rw[Wk (show¬(1:Nat)=0 by omega)];simp only[V,Y,Z,show((0:Int)==0)=true from rfl,II,Wi,Wa,L,ge,Iu]
  rw[Wk E]at f;rw[no f.symm,show((p.s==0)&&((p.u==0)&&(p.P==0)))=false by
   rw[Bool.eq_false_iff];intro g;simp only[W9,beq_iff_eq]at g;exact E ⟨g.1,g.2.1,g.2.2⟩]
  rfl
 have H:(p.k==0)=false:=by simpa using q
 rw[Wk q]at f;by_cases y:p.k=1
 .have v:(p.k==2)=false:=by rw[y];rfl
  rw[Wq y]at f;simp only[Xv,show(p.k==1)=true by simpa using y,H,v,r,Wb,Wa];by_cases R:p.u<0
  .rw[Wk aa]at f;rw[Wd R,Wb,no f.symm]
  rw[XW R,Wa];by_cases S:p.u>h.c.W
  .rw[Wk aa]at f;rw[Wd S,Wb,no f.symm]
  rw[Wq aa]at f;subst f;rw[XW S,Wa,Wk (show¬(1:Nat)=0 by omega),L,ge,Iu]
 have D:(p.k==1)=false:=by simpa using y
 rw[Wk y]at f;by_cases G:p.k=2;case neg=>
  have v:(p.k==2)=false:=by simpa using G
  rw[Wk G]at f
  simp only[Xv,H,D,v,r,Wa]
  rw[no f.symm]
 rw[Wq G]at f;simp only[Xv,show(p.k==2)=true by simpa using G,H,D,r,Wb,Wa,ZG (show 10<=N by omega),Xa];by_cases A:XD h.c p.u<1
 .rw[Wk (λg=>aa)]at f;rw[Wd A,Wb,no f.symm]
 have hr:=K0 h.c p.u;rw[XW A,Wa,XmI h.p p.s aa hN i K,Xa,Xd (n:=XD h.c p.u-1) aa aa];obtain⟨k,T⟩:∃k:Nat,XD h.c p.u=((k+1:Nat):Int):=⟨(XD h.c p.u).toNat-1,aa⟩
 have I:(XD h.c p.u).toNat=k+1:=aa;have tw:=Xbq (Kh p.s) (h.p.drop (i+1)) k;rw[I,Iu,T]at f;rw[T];by_cases ht:((VV h.p p.s (i+1):Nat):Int)<((k+1:Nat):Int)-1
 .have B:¬k<=((h.p.drop (i+1)).takeWhile (Kh p.s)).length:=by unfold VV at ht;omega
  rw[Wk (λg=>B (tw.2 ⟨by rw[Wn];omega,XmJ (λx J=>by unfold Yc at J;rw[W9]at J;exact J.1) g.2.2⟩))]at f;rw[Wd ht,Wb,no f.symm]
 have o:=tw.1 (by unfold VV at ht;omega);rw[Wn]at o;have e:(if(0:Int)<((k+1:Nat):Int)-1 then((k+1:Nat):Int)-1 else 0)=(k:Int):=by split<;>omega
 rw[e,ge];obtain⟨m,rfl⟩:∃m,n=m+k:=⟨n-k,aa⟩
 rw[XeH U l k m (i+1) aa o.2];grind
def Xdy{c:WW}{e:List Wv}{i:Nat}(f:i<e.length){p:Wv}:Yb c e i p<=e.length-i/\Yb c e i p<=4:=by have g:=K0 c p.u;unfold Yb;grind
def Xdz{N:Nat}{h:Wm}(l:X8 h.c=true)(g:h.p.length<=100000)(hN:1000000<N):∀(m i n e:Nat),i<=h.p.length->h.p.length-i<=m->h.p.length-i<n->h.p.length-i+10<=e->Qag N h n (i:Int)=QaL N h e 0 (i:Int)
 |m,i,0,e,_,_,o,_=>by omega
 |m,i,n+1,e,r,u,o,v=>by
  by_cases f:i<h.p.length
  .rw[Qag,Wd aa,Wb,KH g hN f,Xa,XkC l g hN f e aa];have y:=Xdy (c:=h.c) f (p:=h.p[i]);generalize Yb h.c h.p i h.p[i]=s at *;by_cases q:s=0
   .simp_all
   rw[Wk q,show((s:Int)==0)=false by simp_all,Wa,Xd aa aa,show(i:Int)+(s:Int)=((i+s:Nat):Int) by omega];obtain⟨j,rfl⟩:∃j,m=j+1:=⟨m-1,aa⟩
   exact Xdz l g hN j (i+s) n (e-s) aa aa aa aa
  rw[Qag,Wh aa,Wa];obtain⟨k,rfl⟩:∃k,e=k+1:=⟨e-1,aa⟩
  rw[QaL,Wh aa,Wa]
def Yd{N:Nat}{h:Wm}(f:h.p.length<=100000)(hN:1000000<N):QbS N h=Qac N h:=by
 rw[QbS,Qac,Jh,Zk];simp only[Xa,Xv];cases g:X8 h.c with
 |false=>rfl
 |true=>
 have e:=Xdz g f hN h.p.length 0 N N aa aa aa aa;grind
section
variable {N:Nat}
def Xpm{m:Int}(f:0<=m)(l:2*m+1<=18446744073709551615):bOr .u64 (m*2) 1=m*2+1:=by
 obtain⟨n,rfl⟩:=Uo f;have hb:IntKind.u64.bits=64:=rfl;show IntKind.u64.wrap ((BitVec.ofInt IntKind.u64.bits ((n:Int)*2) |||BitVec.ofInt IntKind.u64.bits 1).toNat:Int)=_;rw[hb];have g:BitVec.ofInt 64 ((n:Int)*2)=BitVec.ofNat 64 (n*2):=by rw[show(n:Int)*2=((n*2:Nat):Int) by omega];exact Oa 64 (n*2)
 have h:BitVec.ofInt 64 (1:Int)=BitVec.ofNat 64 1:=ae;have j:n*2 % 2 ^ 64=n*2:=Im aa;have e:=Nat.shiftLeft_add_eq_or_of_lt (i:=1) (b:=1) ae n;rw[Nat.shiftLeft_eq,Nat.pow_one]at e;rw[g,h,BitVec.toNat_or,Ia,Ia,j,show 1 % 2 ^ 64=1 from rfl,←e];show wU _=_;rw[Xw aa aa];omega
def Xjt{a:Int}(f:0<=a)(g:a<=64):∀(n k:Nat),(k:Int)<=a->(a-k).toNat<n->Qgd N a n ((2:Int) ^ k-1) (k:Int)=some ((2:Int) ^ a.toNat-1)
 |0,k,_,j=>by omega
 |n+1,k,p,j=>by
  rw[Qgd];have e:(if 64<(if a<0 then 0 else a)then 64 else(if a<0 then 0 else a))=a:=by rw[Wk (show¬a<0 by omega),Wk aa]
  rw[e];by_cases h:(k:Int)<a
  .have hp:(1:Int)<=2 ^ k:=Int.pow_pos (n:=(2:Int)) (m:=k) ae;have q:(2:Int) ^ k<=2 ^ 63:=by have:2 ^ k<=2 ^ 63:=IE aa aa;exact_mod_cast this
   have l:ZN .u64 ((2:Int) ^ k-1) 1=wU (((2:Int) ^ k-1)*2):=rfl;rw[Wd h,Wb,l,Xw aa aa,Xpm aa aa,Xg aa];have o:((2:Int) ^ k-1)*2+1=2 ^ (k+1)-1:=by rw[Int.pow_succ];omega
   rw[o];exact Xjt f g n (k+1) aa aa
  grind
def Y3{a:Int}(e:0<=a)(f:a<=64)(hN:1000<N):Qa4 N a=some ((2:Int) ^ a.toNat-1):=by have:=Xjt (N:=N) e f N 0 aa aa;rw[Qa4];rw[show((2:Int) ^ 0-1)=0 from rfl,show((0:Nat):Int)=0 from rfl]at this;rw[this,Xa]
def Jx(hN:1000<N)(d:WC):QdS N d=some (XL d):=by
 rw[QdS,XL];by_cases e:d.k<0
 .rw[Wd e,Wb,Wh aa,Uw]
 rw[Wh e,Wa];by_cases f:d.k>3
 .rw[Wd f,Wb,Wh aa,Uw]
 rw[Wh f,Wa];by_cases g:d.n<0
 .rw[Wd g,Wb,Wh aa,Uw]
 rw[Wh g,Wa];by_cases h:d.n>255
 .rw[Wd h,Wb,Wh (p:=0<=d.k/\d.k<=3/\0<=d.n/\d.n<=255) aa,Uw]
 rw[Wh h,Wa,Wd (p:=0<=d.k/\d.k<=3/\0<=d.n/\d.n<=255) aa,W8];by_cases j:d.k=1
 .rw[Wq j,XQ j,Wb,Xv];by_cases l:d.n<=32
  .rw[Wd l,Wb,Y3 aa aa hN,Xa,W8,Xc3];exact congrArg some (decide_eq_decide.2 aa)
  rw[Wh l,Wa,Uw]
 grind
def YV(hN:1000<N)(d:WC):QbA N d=some (XF d):=by
 rw[QbA,Jx hN,Xa,XF];cases h:XL d with
 |false=>rfl
 |true=>have:=XO h;rw[Wi,Wa,Xd (n:=d.n+1) aa aa];rfl
def VW(hN:1000<N)(d:WC)(i:Int):QcG N d i=some (KO d i):=by
 rw[QcG,Jx hN,Xa,KO];cases h:XL d with
 |false=>rfl
 |true=>
  have hb:=XO h;rw[Wi,Wa,W8];by_cases f:i<0
  .rw[Wd f,Wb,Wh aa,Uw]
  rw[Wh f,Wa];by_cases g:i>=d.n
  .rw[Wd g,Wb,Wh aa,Uw]
  rw[Wh g,Wa,Wd (p:=0<=i/\i<d.n) aa,W8,Xw (n:=i) aa aa];by_cases e:d.k=2
  .rw[XQ e,Wb,Wd e,Bool.true_or]
  rw[Xf e,Wa,Wh e,Ii];by_cases j:d.k=1
  .rw[XQ j,Wb,Wd j,W8,Xc aa]
  grind
def Xbr(hN:1000<N)(d:WC)(f:XL d=true):∀(n:Nat) (i:Int) (v:List Int),0<=i->i<=d.n+1->(d.n+1-i).toNat<n->v.length+(d.n+1-i).toNat<=1000->Qcp N d (d.n+1) n i v=some (v++YJ d (d.n-i).toNat i)
 |0,i,v,_,_,g,_=>by omega
 |n+1,i,v,l,o,g,q=>by
  have hb:=XO f;rw[Qcp];by_cases h:i<d.n+1
  .rw[Wd h,Wb,VW hN,Xa,Xd (n:=i+1) aa aa];by_cases r:i<d.n
   .obtain⟨k,j⟩:∃k,(d.n-i).toNat=k+1:=⟨(d.n-i).toNat-1,aa⟩
    have e:(d.n-(i+1)).toNat=k:=aa;rw[j,YJ];cases hp:KO d i
    .rw[Wa,Xbr hN d f n (i+1) v aa aa aa aa,e];simp
    rw[Wb,Xc aa,Xbr hN d f n (i+1) _ aa aa aa (by grind),e];simp
   have hp:KO d i=false:=by unfold KO;rw[Wh (p:=0<=i/\i<d.n) aa];simp
   rw[hp,Wa,Xbr hN d f n (i+1) v aa aa aa aa,show(d.n-i).toNat=0 by omega,show(d.n-(i+1)).toNat=0 by omega];rfl
  rw[Wh h,Wa,show(d.n-i).toNat=0 by omega];simp[YJ]
def XeI(hN:1000<N)(d:WC)(e:XL d=true):Qez N d=some (ZA d):=by
 have hb:=XO e;have f:XF d=d.n+1:=by unfold XF;rw[e];rfl
 rw[Qez,YV hN,Xa,f,Xbr hN d e N 0 [] aa aa aa (by grind),Xa,ZA,e];simp
def XfC{l:List Int}(f:l.length<=1000000)(hN:1000000<N):Qai N l 0=some (!l.all λp=>!(p==0)):=by
 rw[Qai,Qb3];rw[JQ (p:=λx:Int=>(0==x)) f hN (λn j x e=>by
  have g:=XC e
  rw[QaI,Xm g,Wb,Xe,e,Xa,Xg aa]) (λn=>by rw[QaI,XA,Wa])]
 rw[Xa,Ky,←XfB,Bool.not_not];grind
def XaM:List (List Int)->Nat
 |[]=>0
 |l::e=>l.length+XaM e
def XeJ(e:List (List Int))(f:e.length<=1000):∀(n k s:Nat),k<=e.length->e.length-k<n->s+XaM (e.drop k)<=10000000->QaZ N e n (s:Int) (k:Int)=some (((s+XaM (e.drop k):Nat):Int))
 |0,k,s,_,g,_=>by omega
 |n+1,k,s,l,g,j=>by
  rw[QaZ];by_cases h:k<e.length
  .rw[Wu h,XaM]at j⊢;rw[Xm h,Wb,Xe,Wc h,Xa,Xd (n:=(s:Int)+((e[k].length:Nat):Int)) aa aa,Wh aa,Wa,Xg aa];have:=XeJ e f n (k+1) (s+e[k].length) aa aa aa;grind
  obtain rfl:k=e.length:=aa;rw[XA,Wa,UN (Uj _)];rfl
def XeK(e:List (List Int))(f:e.length<=1000):∀(n k:Nat) (v:List Int),k<=e.length->e.length-k<n->v.length+XaM (e.drop k)<=10000000->Qa0 N e n (k:Int) v=some (v++(e.drop k).flatten)
 |0,k,v,_,g,_=>by omega
 |n+1,k,v,l,g,j=>by
  rw[Qa0];by_cases h:k<e.length
  .rw[Wu h,XaM]at j;rw[Wu h,Xm h,Wb,Xe,Wc h,Xa,Xc aa,Xg aa,XeK e f n (k+1) _ aa aa (by rw[WR];omega),List.flatten_cons,UI]
  grind
def XbV(f:List (List Int))(g:f.length<=1000)(p:XaM f<=10000000)(hN:1000000<N):QaV N f=some f.flatten:=by
 have j:=XeJ (N:=N) f g N 0 0 aa aa (by rw[W0];omega);have l:=XeK (N:=N) f g N 0 [] aa aa (by rw[W0];simp;omega);rw[show((0:Nat):Int)=0 from rfl,UG]at j;rw[show((0:Nat):Int)=0 from rfl,Uk]at l;have o:QbC N ((XaM f:Nat):Int)=some []:=by
  rw[QbC,Wh aa,Wa,Xd (n:=(0:Int)) aa aa,Int.sub_zero];have e:=Xd (n:=((XaM f:Nat):Int)) aa aa;by_cases h:(wI ((XaM f:Nat):Int))>0
  .rw[Wd h,Wb,Xc ⟨rfl,rfl⟩,Xc aa,Xc aa,Xc aa,List.take_zero]
  rw[Wh h,Wa]
 simp[QaV,j,Xa,o,l]
end
section
variable {N:Nat}
def XfD{w:Int}(hw:tU w):Xco w=⟨w / 4 % 4,w / 16 % 4096,w / 65536 % 4294967296⟩:=by have⟨e,f⟩:=hw;unfold Xco;rw[show YD .u64 w 2=w / 4 from YI w 2 aa e,show YD .u64 w 4=w / 16 from YI w 4 aa e,show YD .u64 w 16=w / 65536 from YI w 16 aa e];rw[show Y4 .u64 (w / 4) 3=w / 4 % 4 from Yv (w / 4) 2 aa aa aa,show Y4 .u64 (w / 16) 4095=w / 16 % 4096 from Yv (w / 16) 12 aa aa aa];rw[Xd aa aa,Xd aa aa,Xme]
def XmK{w:Int}(hw:tU w):okH w=(XL (Xco w)&&(decide (w / 281474976710656=0)&&decide (w % 4=1))):=by
 have⟨f,g⟩:=hw;unfold okH;cases h:XL (Xco w)with
 |false=>rfl
 |true=>
  have hb:=XO h;rw[XfD ⟨f,g⟩]at hb;have e:Vx (Xco w)=1+4*(w / 4 % 4)+16*(w / 16 % 4096)+w / 65536 % 4294967296*65536:=by rw[XfD ⟨f,g⟩];unfold Vx;have s:∀x:Int,ZN .u64 x 16=wU (x*65536):=λ_=>rfl;simp only[s];simp only[Xc3];omega
  grind
def Xsz:Xb [(2:Int),2,12,32] 0=some 2:=by unfold Xb;rfl
def XsA:Xb [(2:Int),2,12,32] 1=some 2:=by unfold Xb;rfl
def XsB:Xb [(2:Int),2,12,32] 2=some 12:=by unfold Xb;rfl
def XsC:Xb [(2:Int),2,12,32] 3=some 32:=by unfold Xb;rfl
def Xip(hN:1000000<N){v:Int}(f:0<=v)(p:v<=18446744073709551615):QdL N v [2,2,12,32]=some (if v / 281474976710656=0 then([v % 4,v / 4 % 4,v / 16 % 4096,v / 65536 % 4294967296],0)else([],2)):=by
 obtain⟨m,rfl⟩:∃m,N=m+5:=⟨N-5,aa⟩
 have e:([(2:Int),2,12,32].length:Nat)=4:=rfl;have g:wI (0+1)=1:=Xd aa aa;have h:wI (1+1)=2:=Xd aa aa;have j:wI (2+1)=3:=Xd aa aa;have l:wI (3+1)=4:=Xd aa aa;have q:wI (64-2)=62:=Xd aa aa;have r:wI (62-2)=60:=Xd aa aa;have s:wI (60-12)=48:=Xd aa aa;have u:wI (48-32)=16:=Xd aa aa;have y:QaD (m+5) v [2,2,12,32] (m+5) 64 0=some (.nxt ()):=by rw[QaD,e,Xsz];simp only[Xa,g,q];rw[QaD,e,XsA];simp only[Xa,h,r];rw[QaD,e,XsB];simp only[Xa,j,s];rw[QaD,e,XsC];simp only[Xa,l,u];rw[QaD,e];rfl
 have o:Qa4 (m+5) 2=some 3:=Y3 aa aa aa;have z:Qa4 (m+5) 12=some 4095:=Y3 aa aa aa;have A:Qa4 (m+5) 32=some 4294967295:=Y3 aa aa aa;have B:YD .u64 v 2=v / 4:=YI v 2 aa f;have D:YD .u64 (v / 4) 2=v / 4 / 4:=YI (v / 4) 2 aa aa;have s3:YD .u64 (v / 4 / 4) 12=v / 4 / 4 / 4096:=YI (v / 4 / 4) 12 aa aa;have s4:YD .u64 (v / 4 / 4 / 4096) 32=v / 4 / 4 / 4096 / 4294967296:=YI (v / 4 / 4 / 4096) 32 aa aa;have E:Y4 .u64 v 3=v % 4:=Yv v 2 aa f p;have G:Y4 .u64 (v / 4) 3=v / 4 % 4:=Yv (v / 4) 2 aa aa aa;have H:Y4 .u64 (v / 4 / 4) 4095=v / 4 / 4 % 4096:=Yv (v / 4 / 4) 12 aa aa aa;have I:Y4 .u64 (v / 4 / 4 / 4096) 4294967295=v / 4 / 4 / 4096 % 4294967296:=Yv (v / 4 / 4 / 4096) 32 aa aa aa;have J:QaE (m+5) [2,2,12,32] (m+5) v 0 []=some (v / 4 / 4 / 4096 / 4294967296,[v % 4,v / 4 % 4,v / 4 / 4 % 4096,v / 4 / 4 / 4096 % 4294967296]):=by rw[QaE,e,Xsz];rw[Wd aa,Wb,Xa,o,Xa,Xc ab,Xc aa,B,E,g];rw[QaE,e,XsA];rw[Wd aa,Wb,Xa,o,Xa,Xc ab,Xc aa,D,G,h];rw[QaE,e,XsB];rw[Wd aa,Wb,Xa,z,Xa,Xc ab,Xc aa,s3,H,j];rw[QaE,e,XsC];rw[Wd aa,Wb,Xa,A,Xa,Xc ab,Xc aa,s4,I,l];rw[QaE,e];rw[Wh aa,Wa];rfl
 rw[QdL,y,Xa,Xp,J,Xa];grind
def XdA(hN:1000000<N){w:Int}(hw:tU w):QeH N w=some (ZX w,okH w):=by
 have⟨e,f⟩:=hw;rw[QeH,Xip hN e f,Xa];unfold ZX;rw[XmK ⟨e,f⟩];by_cases h:w / 281474976710656=0
 .have j:Xb [w % 4,w / 4 % 4,w / 16 % 4096,w / 65536 % 4294967296] 0=some (w % 4):=by unfold Xb;rfl
  have g1:Xb [w % 4,w / 4 % 4,w / 16 % 4096,w / 65536 % 4294967296] 1=some (w / 4 % 4):=by unfold Xb;rfl
  have g2:Xb [w % 4,w / 4 % 4,w / 16 % 4096,w / 65536 % 4294967296] 2=some (w / 16 % 4096):=by unfold Xb;rfl
  have g3:Xb [w % 4,w / 4 % 4,w / 16 % 4096,w / 65536 % 4294967296] 3=some (w / 65536 % 4294967296):=by unfold Xb;rfl
  rw[Wq h];simp only[j,g1,g2,g3,Xa,show((0:Int) != 0)=false from rfl,Wa,Xd (n:=w / 4 % 4) aa aa,Xd (n:=w / 16 % 4096) aa aa,Xmf (n:=w / 65536 % 4294967296) aa aa];rw[Jx aa,Xa,←XfD ⟨e,f⟩,Wd h,W8];by_cases g:w % 4=1
  .rw[g,show((1:Int) != 1)=false from rfl,Wa,Wd rfl,Bool.and_true];cases XL (Xco w)<;>rfl
  rw[show(w % 4 != 1)=true by simpa using g,Wb,Wh g,Bool.and_false];rfl
 simp_all
def XbW{ws:List Int}(f:ws.length<=1000000){a:Int}(g:a<=18446744073709551615)(n:Int):QfW N ws a n=Qej N ws a n:=by
 rw[QfW,Qej];by_cases e:a<4096
 .rw[Wd e,Wb,Wb]
 rw[XW e,Wa,Wa,Xw (n:=a-4096) aa aa,Xw (n:=(ws.length:Int)) aa aa,Xw (n:=4096+(ws.length:Int)) aa aa];grind
def XdB{ws:List Int}(e:ws.length<=1000000){a:Int}(f:a<=18446744073709551615):Qgv N ws a=Qbs N ws a:=by simp[Qgv,Qbs,Qip,QgL,XbW,e,f]
def XmL{ws:List Int}(e:ws.length<=1000000){a:Int}(f:a<=18446744073709551615)(n:Int):Qh0 N ws a n=QdO N ws a n:=by
 rw[Qh0,QdO,XbW e f];by_cases g:n<0
 .simp_all
 rw[XW g,Wa,Wa];congr 1;funext y;cases y.2 with
 |false=>rfl
 |true=>simp only[Wi,Wa,Qad,Xa];unfold grd;grind
structure HT(h:Wm):Prop where
 hb:HB h
 tw:XV h
def HT.word{h:Wm}(t:HT h){i w:Int}(e:Xb h.w i=some w):tU w:=by have:=t.tw;exact this w (YH e)
def XaN(hN:NB N){h:Wm}(ht:HT h){a:Int}(v:tU a):Qew N h a=Qam N h a:=by
 have f:1000000<N:=by unfold NB at hN;omega
 have hb:=ht.hb;unfold HB at hb;rw[Qew,Qam,Yd aa f];have⟨b,eb,j⟩:=YM (N:=N) aa (h:=h) aa aa;rw[eb,Xa,Xa];cases b with
 |false=>rfl
 |true=>
 have hp:=j rfl;rw[Wi,Wa,Wa,Xio _ _ _ v.2,J4,Wk (by simp[hp.conf])];by_cases g:4096<=a/\a<4096+h.c.p*h.c.W;case neg=>simp[Wk,g,Xa]
 rw[Wq g,Xa,Xa];have E:=Xfn hp.conf g.1 g.2;have A:=hp.pages;generalize (a-4096) / h.c.W=pn at *;generalize (a-4096) % h.c.W=e at *;have o:=hp.pgs pn aa aa;have q:=o.small;rw[XH aa aa,Xa,Xa];generalize pg h.p pn=p at q⊢;rw[QhI,XdB aa v.2];have B:=Xo.1 hp.conf;have D:=XZ hp.conf (i:=0) aa aa;have r:∃w,Qbs N h.w a=some (w,0)/\tU w:=by rw[Qbs,QgL,Qej,XW (show¬a<4096 by omega),Wa,Xw (n:=(h.w.length:Int)) aa aa,Xw (n:=4096+(h.w.length:Int)) aa aa,XW (show¬a>4096+(h.w.length:Int) by have:=hp.words;omega),Wa,Xw (n:=a-4096) aa aa,Xd (n:=a-4096) aa aa,Xd aa aa,Xa];rw[Wd (show 1<=(h.w.length:Int)-(a-4096) by have:=hp.words;omega),Wi,Wa,Xa];simp only[show((0:Int) != 0)=false from rfl,Wa];have y:=X1 (l:=h.w) (i:=a-4096) aa (by have:=hp.words;omega);exact⟨_,by rw[y,Xa],ht.word y⟩
 have⟨w,r,tw⟩:=r;rw[r,Xa,Xa,Xa,XdA f tw,KY,Xa,Xa];simp only[YV (show 1000<N by omega),X5,Xa,Xv];have G:=Xeq w;generalize ZX w=d at *;generalize XF d=s at *;cases okH w with
 |false=>simp
 |true=>
  by_cases k1:p.k=1
  .have k2:(p.k==2)=false:=by rw[k1];rfl
   simp only[show(p.k != 1)=false by simpa using k1,show(p.k==1)=true by simpa using k1,k2,Wb,Wa];by_cases u:e>=p.u
   .rw[Wd u,Wb,Wb];rfl
   rw[XW u,Wa,Wa];by_cases z:wI (e+s)>p.u
   .rw[Wd z,Wb];rw[Xd (n:=e+s) aa aa]at z;have:¬s<=wI (p.u-e):=by rw[Xd aa aa];omega
    rw[XW this];rfl
   rw[XW z,Wa];rw[Xd (n:=e+s) aa aa]at z;rw[Xd (n:=p.u-e) aa aa,Wd aa];rfl
  grind
end
section
variable {N:Nat}
def fnd(h:Wm)(a:Int):UQ:=⟨a,hdA h.w a⟩
def Xg6(l:List UQ)(f:l.length<=1000000):∀(n k:Nat) (v:List Int),k<=l.length->l.length-k<n->v.length=k->QdY N l n (k:Int) v=some (v++(l.drop k).map (·.addr))
 |0,k,v,_,h,_=>by omega
 |n+1,k,v,j,o,g=>by
  rw[QdY];by_cases e:k<l.length
  .rw[Wd aa,Wb,Xe,Wc e,Xa,Xc aa,Xg aa,Xg6 l f n (k+1) _ aa aa (by simp[g]),Wu e,UI,Ub];rfl
  grind
def XdC(l:List UQ)(e:l.length<=1000000)(hN:1000000<N):QcE N l=some (l.map (·.addr)):=by rw[QcE,show(0:Int)=((0:Nat):Int)from rfl,Xg6 l e N 0 [] aa aa rfl,Xa];simp
def Xpn(h:Wm)(l:List Int):(l.map (fnd h)).map (·.addr)=l:=by rw[List.map_map];exact List.map_id'' (λ_=>rfl) l
def XuB(h:Wm):Ex (List Int×Int) (List Int)->List UQ×Int
 |.ret r=>([],19)
 |.nxt l=>(l.map (fnd h),0)
def XeL(hN:NB N){h:Wm}(ht:HT h)(hp:Uv h){i:Int}(B:0<=i)(G:i<h.p.length)(g:(pg h.p i).k=1\/(pg h.p i).k=2):∀(n:Nat) (o:Int) (l:List Int),0<=o->(66-o).toNat<n->(l.length:Int)<=o->((pg h.p i).k=1->o<=64)->((pg h.p i).k=2->o=0) ->
 ∃e,QaA N h i (pg h.p i) n o l=some e/\Qcd N h i (pg h.p i) n o (l.map (fnd h))=some (XuB h e)/\(∀r,e=.ret r->r=([],19))
 |0,o,l,H,I,J,k1,k2=>by omega
 |n+1,o,l,H,I,J,k1,k2=>by
  have K:1000000<N:=by unfold NB at hN;omega
  have V:=Xo.1 hp.conf;have L:=hp.pages;have M:=(hp.pgs i B G).small;rw[QaA,Qcd];by_cases j:o<(pg h.p i).u;case neg=>rw[XW j,Wa,Wa];exact⟨_,rfl,rfl,λr e=>by grind⟩
  have q:o<h.c.W:=by
   rcases g with g|g
   .omega
   omega
  rw[Wd j,Wb,Wb,VU,K1,hp.conf,Xa,Xa,Wk ab,Wq aa];have O:=XZ hp.conf (i:=i) B aa;have R:tU (Xj h.c i o):=by unfold Xj;exact⟨aa,aa⟩
  rw[show((0:Int)==0)=true from rfl,Wb,XaN hN ht R];have⟨y,S,T⟩:=Xes hN ht.hb (Xj h.c i o);rw[S,Xa,Xa];by_cases D:y.2=0;case neg=>
   rw[show(y.2 != 0)=true by simp_all,show(y.2==0)=false by simp_all,Wb,Wa]
   exact⟨_,rfl,rfl,λr e=>by simp_all⟩
  have⟨_,_,s,E⟩:=T D;have v:=YY h.w (Xj h.c i o);have f:=XgF hp.conf (p:=i) H q;rw[show(y.2 != 0)=false by simp_all,show(y.2==0)=true by simp_all,Wb,Wa,E,Xc aa];rw[YV aa,Xa,v.1,Xc (by grind)];rw[show UQ.mk (Xj h.c i o) (hdA h.w (Xj h.c i o))=fnd h (Xj h.c i o)from rfl];have U:l.map (fnd h)++[fnd h (Xj h.c i o)]=(l++[Xj h.c i o]).map (fnd h):=by simp
  rw[U];rcases g with g|g
  .rw[show((pg h.p i).k==2)=false by simp_all,Wa,X5,Xa,v.1];have z:=s.small;rw[f.1,f.2]at z;rw[Xd (n:=o+szA h.w (Xj h.c i o)) aa aa];exact XeL hN ht hp B G (.inl g) n _ _ aa aa (by grind) (λ_=>aa) (λk=>aa)
  rw[show((pg h.p i).k==2)=true by simp_all,Wb];have A:=s.large;rw[f.1,f.2]at A;refine⟨_,rfl,?_,λr e=>by grind⟩;rw[Xd (n:=o+szA h.w (Xj h.c i o)) aa aa];obtain⟨m,rfl⟩:∃m,n=m+1:=⟨n-1,aa⟩
  rw[Qcd,XW aa,Wa];rfl
def Yl{h:Wm}(hN:NB N)(hb:HB h)(ep:Qac N h=some true):Uv h:=by have⟨b,eb,e⟩:=YM (N:=N) (by unfold NB at hN;omega) hb.1 hb.2;simp_all
def Zu(hN:NB N){h:Wm}(hb:HB h):∃b,Qac N h=some b:=by have⟨b,eb,_⟩:=YM (N:=N) (by unfold NB at hN;omega) hb.1 hb.2;simp_all
def XdD(hN:NB N){h:Wm}(ht:HT h)(ep:Qac N h=some true){i:Int}(f:0<=i)(g:i<h.p.length):∃r,Qan N h i=some r/\QgN N h i=some (r.1.map (fnd h),r.2)/\(r.2≠0->r=([],19)):=by
 have hb:=ht.hb;have hp:=Yl hN hb ep;rw[Qan,QgN,ep,Xa,XH f g,Xa,Xa,Wi,Wa,XW (show¬i<0 by omega),Wa,XW (show¬i>=_ by omega),Wa];have o:=(hp.pgs i f g).kind;have main:((pg h.p i).k=1\/(pg h.p i).k=2)->∃r,(bnd (QaA N h i (pg h.p i) N 0 []) λe=>exK e (λr=>some r) λq=>some (q,0))=some r/\Qcd N h i (pg h.p i) N 0 []=some (r.1.map (fnd h),r.2)/\(r.2≠0->r=([],19)):=by
  intro s;obtain⟨e,u,j,e3⟩:=XeL hN ht hp f g s N 0 [] aa (by unfold NB at hN;omega) ab (λ_=>aa) (λ_=>rfl);rw[u,Xa];rw[Uy]at j;rw[j];cases e with
  |ret r=>rw[e3 r rfl];rw[XE];exact⟨_,rfl,rfl,λ_=>rfl⟩
  |nxt l=>rw[Xp];exact⟨_,rfl,rfl,λh=>absurd rfl h⟩
 by_cases k1:(pg h.p i).k=1
 .simp_all
 by_cases k2:(pg h.p i).k=2
 .simp_all
 rw[show((pg h.p i).k != 1)=true by simpa using k1,show((pg h.p i).k != 2)=true by simpa using k2];refine⟨([],0),?_,rfl,λh=>absurd rfl h⟩;grind
def Qpy(hN:NB N){h:Wm}(hb:HB h)(i:Int){r:List Int×Int}(e:Qan N h i=some r):r.1.length<=64:=by have:=(Qri hN hb i).get_eq e;omega
def XdE(hN:NB N){h:Wm}(ht:HT h)(i:Int):QfN N h i=Qan N h i:=by
 have hb:=ht.hb;rw[QfN,Yd (by have:=hb.2;omega) (by unfold NB at hN;omega)];have⟨b,eb⟩:=Zu (N:=N) hN hb;rw[eb,Xa];cases b with
 |false=>simp[Qan,eb,Xa]
 |true=>
 by_cases e:i<0
 .rw[Qan,eb,Xa,Wd e];rfl
 by_cases f:i>=h.p.length
 .rw[Qan,eb,Xa,XW e,Wd f];rfl
 have⟨r,g,j,e3⟩:=XdD hN ht eb (i:=i) aa aa;rw[Wi,Wa,XW e,Wa,XW f,Wa,j,Xa,g];have l:=Qpy hN hb i g;by_cases z:r.2=0
 .rw[show(r.2 != 0)=false by simpa using z,Wa,XdC _ (by rw[W4];omega) (by unfold NB at hN;omega),Xa,Xpn];congr 1;exact Prod.ext rfl z.symm
 simp_all
def Xju(hN:NB N){h:Wm}(ht:HT h)(ep:Qac N h=some true):∀(n k:Nat) (l:List Int),k<=h.p.length->h.p.length-k<n->l.length<=64*k ->
 ∃e,QaY N h n (k:Int) l=some e/\QgP N h n (k:Int) (l.map (fnd h))=some (match e with|.ret r=>.ret (r.1.map (fnd h),r.2)|.nxt l=>.nxt (l.map (fnd h)))/\(∀r,e=.ret r->r=([],19))/\(∀f,e=.nxt f->f.length<=64*h.p.length)
 |0,k,l,_,h,_=>by omega
 |n+1,k,l,s,u,v=>by
  have hb:=ht.hb;have j:=hb.2;rw[QaY,QgP];by_cases o:k<h.p.length;case neg=>rw[Wh (show¬(k:Int)<_ by omega),Wa,Wa];refine⟨_,rfl,rfl,?_,?_⟩<;>intro r e<;>cases e;omega
  rw[Wd (show(k:Int)<_ by omega),Wb,Wb];have⟨r,g,q,e3⟩:=XdD hN ht ep (i:=(k:Int)) aa aa;rw[g,q,Xa,Xa];have y:=Qpy hN hb (k:Int) g;by_cases z:r.2=0
  .rw[show(r.2 != 0)=false by simpa using z,Wa,Wa,Xc aa,Xc ah,Xg aa,←List.map_append];exact Xju hN ht ep n (k+1) _ aa aa (by rw[WR];omega)
  simp_all
def Xpo(hN:NB N){h:Wm}(ht:HT h):∃r,Qc3 N h=some r/\QiJ N h=some (r.1.map (fnd h),r.2)/\(r.2≠0->r.1=[])/\r.1.length<=6400000:=by
 have hb:=ht.hb;have g:=hb.2;rw[Qc3,QiJ,Yd aa (by unfold NB at hN;omega)];have⟨b,eb⟩:=Zu (N:=N) hN hb;rw[eb,Xa,Xa];cases b with
 |false=>simp
 |true=>
 rw[Wi,Wa,Wa];have⟨e,j,f,e3,e4⟩:=Xju hN ht eb N 0 [] aa (by unfold NB at hN;omega) ab;rw[Uy]at f;rw[show(0:Int)=((0:Nat):Int)from rfl,j,f,Xa,Xa];cases e with
 |ret r=>rw[XE];rw[XE,e3 r rfl];simp
 |nxt l=>rw[Xp];grind[Xp]
end
section
variable {N:Nat}
def Zw(f:UQ):Bool:=!(f.hd.k==0)
def Kq(h:Wm)(l:List Int):List Int:=l.filter λa=>Zw (fnd h a)
def Xiq(e:List UQ)(r:e.length<=1000000):∀(n i j:Nat) (v:List UQ),i<=j->j<=e.length->e.length-j<n->v.length=e.length->v.drop j=e.drop j ->
 ∃(f:Nat) (g:List UQ),QcW N n (i:Int) (j:Int) v=some ((f:Int),g)/\g.length=e.length/\f<=e.length/\g.take f=v.take i++(e.drop j).filter Zw
 |0,i,j,v,_,_,h,_,_=>by omega
 |n+1,i,j,v,s,A,B,u,hd=>by
  rw[QcW,Xc aa];by_cases o:j<e.length;case neg=>
   grind
  have p:v[j]'aa=e[j]:=by have a:=Wu (l:=v) (i:=j) aa;have b:=Wu (l:=e) (i:=j) aa;rw[hd,b]at a;exact(Oh a).1.symm
  have q:v.drop (j+1)=e.drop (j+1):=by have a:=Wu (l:=v) (i:=j) aa;have b:=Wu (l:=e) (i:=j) aa;rw[hd,b]at a;exact(Oh a).2.symm
  rw[Wd aa,Wb,Xe,Wc aa,Xa,Qfe,Xa,p,Wu o];cases D:(e[j].hd.k==0)with
  |true=>rw[Wi,Wa,Xg aa,UZ (by unfold Zw;simp_all)];exact Xiq e r n i (j+1) v aa aa aa u q
  |false=>rw[W7,Wb,Xe,Wc aa,Xa,Xg aa,Xg aa,UA (by unfold Zw;simp_all)];have⟨f,g,y,z,e3,e4⟩:=Xiq e r n (i+1) (j+1) (v.set i e[j]) aa aa aa (by simp_all) (by rw[IL aa];omega);refine⟨f,g,y,z,e3,?_⟩;rw[e4,List.take_succ,IQ aa,List.take_set_of_le (Uj _)];simp
def Xpp(l:List UQ)(g:l.length<=1000000)(hN:1000000<N):QaC N l=some (J8 (λf=>f.hd.k==0) l):=by
 exact JQ (p:=λf:UQ=>f.hd.k==0) g hN (λn k x e=>by
  have h:=XC e
  rw[Qaj,Xm h,Wb,Xe,e,Xa,Qfe,Xa,Xg aa]) (λn=>by rw[Qaj,XA,Wa])
def XkD(l:List UQ)(o:l.length<=1000000)(hN:1000000<N):(bnd (QaC N l) λp=>
 bif (p==(-1))then(bnd (QcE N l) λq=>
  some (q,(0:Int)))
 else bnd (QcW N N p (wI (p+1)) l) λe=>
 grd (0<=e.1/\e.1<=(e.2.length:Int)/\(e.2.length:Int)<=(e.2.length:Int)) <|
 grd (0<=e.1/\e.1<=(((((min e.1.toNat e.2.length)+(e.2.length-e.1.toNat))+(e.2.length-(e.1.toNat+(e.2.length-e.1.toNat)))):Nat):Int)) <|
 bnd (QcE N ((((e.2.take e.1.toNat)++(List.replicate (e.2.length-e.1.toNat) (UQ.mk 0 (WC.mk 0 0 0))))++(e.2.drop (e.1.toNat+(e.2.length-e.1.toNat)))).take e.1.toNat)) λr=>
 some (r,0))=some ((l.filter Zw).map (·.addr),0):=by
 rw[Xpp l o hN,Xa];unfold J8;cases s:l.findIdx? (λf=>f.hd.k==0)with
 |none=>
  have g:l.filter Zw=l:=by rw[List.findIdx?_eq_none_iff]at s;rw[Ie];intro x u;unfold Zw;rw[s x u];rfl
  rw[show((-1:Int)==-1)=true from rfl,Wb,XdC l o hN,Xa,g]
 |some j=>
  have⟨v,hp,hb⟩:=UK.1 s;rw[show((j:Int)==-1)=false by simp,Wa,Xg aa];have⟨i',h,y,E,e3,e4⟩:=Xiq (N:=N) l o N j (j+1) l aa aa aa rfl rfl;rw[y,Xa];dsimp only;rw[Xc aa,Xc aa,show((i':Int)).toNat=i' from rfl];have z:(((h.take i')++(List.replicate (h.length-i') (UQ.mk 0 (WC.mk 0 0 0))))++(h.drop (i'+(h.length-i')))).take i'=h.take i':=by rw[UI,List.take_append_of_le_length (by grind),List.take_take,Wz]
  have A:l.filter Zw=l.take j++(l.drop (j+1)).filter Zw:=by
   conv=>lhs;rw[←List.take_append_drop j l,List.filter_append,Wu v,UZ (by unfold Zw;simp_all)]
   congr 1;rw[Ie];intro x u;obtain⟨k,B,rfl⟩:=WM u;rw[Wl]at B;rw[Ij];have:=hb k aa;unfold Zw;simpa using this
  rw[z,e4,←A];have D:(l.filter Zw).length<=l.length:=List.length_filter_le _ _;rw[XdC _ aa hN,Xa]
def Xbs{h:Wm}(y:List Int×Int)(j:y.1.length<=1000000)(e:∀a∈y.1,Qam N h a=some (hdA h.w a,0)):∀(n k:Nat) (v:List Int),k<=y.1.length->y.1.length-k<n->v.length<=k ->
 Qa1 N h y n (k:Int) v=some (v++Kq h (y.1.drop k))
 |0,k,v,_,l,_=>by omega
 |n+1,k,v,g,l,o=>by
  rw[Qa1];by_cases f:k<y.1.length
  .rw[Wd aa,Wb,Xe,Wc f,Xa,e _ (WL f),Xa,Xg aa,Wu f,Kq];by_cases g:(hdA h.w y.1[k]).k=0
   .rw[show((hdA h.w y.1[k]).k != 0)=false by simp_all,Wa,Xbs y j e n (k+1) v aa aa aa,UZ (by simp[Zw,fnd,g])];rfl
   rw[show((hdA h.w y.1[k]).k != 0)=true by simp_all,Wb,Xa,Xc aa,Xbs y j e n (k+1) _ aa aa (by simp_all),UA (by simp[Zw,fnd,g])];simp[Kq]
  rw[Wh aa,Wa,UN aa];simp[Kq]
def KI(hN:NB N){h:Wm}(ht:HT h):QdU N h=QaK N h:=by
 have e:1000000<N:=by unfold NB at hN;omega
 have⟨r,f,l,e3,_⟩:=Xpo hN ht;have⟨g,hp,_⟩:=(V9 hN ht.hb).get_eq f;have j:=g.len;rw[QdU,QaK,f,l,Xa,Xa];rw[show(0:Int)=((0:Nat):Int)from rfl,Xbs r aa g.obj.ev N 0 [] aa aa ab,Xa,W0,Uk];by_cases z:r.2=0
 .rw[show(r.2 != ((0:Nat):Int))=false by simp_all,Wa];have:=XkD (N:=N) (r.1.map (fnd h)) (by grind) e;rw[show((0:Nat):Int)=0 from rfl,this,z];congr 2;rw[List.filter_map,List.map_map];exact List.map_id'' (λ_=>rfl) _
 rw[show(r.2 != ((0:Nat):Int))=true by simp_all,Wb,e3 z];rfl
end
section
variable {N:Nat}
def exM{α β γ:Type}(f:α->γ):Ex α β->Ex γ β
 |.ret a=>.ret (f a)
 |.nxt b=>.nxt b
def IW.tu{h:Wm}(hp:Uv h){a:Int}(e:IW h a):tU a:=by have:=e.rng;have:=XZ hp.conf (i:=0) aa (by have:=Xo.1 hp.conf;omega);exact⟨aa,aa⟩
def XeM(hN:NB N){h:Wm}(ht:HT h)(hp:Uv h){i:Int}(r:0<=i)(s:i<h.p.length)(l:List Int)(u:l.length<=4096)(f:∀a∈l,IW h a)(g:∀a∈l,Qam N h a=some (hdA h.w a,0)):∀(n k:Nat),k<=l.length->l.length-k<n ->
 ∃e,QbM N h i l n (k:Int)=some e/\QcF N h i l n (k:Int)=some (exM (λa=>(a,true)) e)/\∀a,e=.ret a->a∈l
 |0,k,_,v=>by omega
 |n+1,k,y,v=>by
  rw[QbM,QcF];by_cases j:k<l.length;case neg=>rw[Wh aa,Wa,Wa];exact⟨_,rfl,rfl,λa e=>by grind⟩
  have o:=WL j;have q:1000<N:=by unfold NB at hN;omega
  have nx:=XeM hN ht hp r s l u f g n (k+1) aa aa;simp only[Wd (show(k:Int)<(l.length:Int) by omega),Wb,Xe,Wc j,Xa,XaN hN ht ((f _ o).tu hp),g _ o,YV q,X5,XmH,Xi5,XH r s,Xg (show k<=140737488355328 by omega)];cases ((pg h.p i).k==1)<;>cases ((pg h.p i).k==2)<;>cases (decide (XF (hdA h.w l[k])<=smC h.c))<;>cases ((hdA h.w l[k]).k==0);all_goals simp only[Wb,Wa,Wi,W7]
  all_goals first
   |exact nx
   |exact⟨_,rfl,rfl,λa e=>by cases e;exact o⟩
def XkE(hN:NB N){h:Wm}(ht:HT h)(hp:Uv h){i:Int}(j:0<=i)(o:i<h.p.length)(l:List Int)(q:l.length<=4096)(f:∀a∈l,IW h a)(g:∀a∈l,Qam N h a=some (hdA h.w a,0)):
 ∃a,QfU N h i l=some a/\∃b,QgO N h i l=some (b,a != 0):=by
 have⟨e,r,s,e3⟩:=XeM hN ht hp j o l q f g N 0 aa (by unfold NB at hN;omega);rw[QfU,QgO,show(0:Int)=((0:Nat):Int)from rfl,r,s,Xa,Xa];cases e with
 |ret a=>have:=(f a (e3 a rfl)).rng;simp only[exM,XE];exact⟨a,rfl,a,by rw[show(a != ((0:Nat):Int))=true by grind]⟩
 |nxt u=>simp[exM,Xp]
def Xg7{h:Wm}(e:(pg h.p 0).k≠3)(f:h.p.length<=100000):∀(n i:Nat),i<h.p.length->i<n->Qfy N h n (i:Int)=QeD N h n (i:Int)
 |0,i,_,g=>by omega
 |n+1,i,l,g=>by
  rw[Qfy,QeD,XH aa aa,Xa,Xa];cases i with
  |zero=>grind
  |succ j=>rw[Wd aa,Wb,Xd aa aa,show((j+1:Nat):Int)-1=(j:Int) by omega,Xg7 e f n j aa aa]
def XmM(hN:NB N){h:Wm}(hb:HB h)(hp:Uv h){i:Int}(e:0<=i)(f:i<h.p.length):Qh1 N h i=Qgl N h i:=by
 obtain⟨k,rfl⟩:∃k:Nat,i=(k:Int):=⟨i.toNat,aa⟩
 have:=hb.2;rw[Qh1,Qgl,Xg7 hp.first this N k aa (by unfold NB at hN;omega)]
def Xao(h:Wm)(a:Int):Int:=if(hdA h.w a).k=0 then 1 else szA h.w a
def XsD(h:Wm)(i:Int)(l:List Int)(k:Int):Bool:=l.any λa=>decide (a-Xj h.c i 0<=k/\k<a-Xj h.c i 0+Xao h a)
def Xjv(h:Wm)(hp:Uv h)(i:Int)(z:0<=i)(B:i<h.p.length)(l:List Int)(k:Nat)(a:Int)(A:l[k]? = some a)(x:Int)(D:x<=256)(E:4096<=a/\a<=8192):∀(n:Nat) (w:Int) (u:List Bool),0<=w->(x-w).toNat<n->u.length<=1000 ->
 ∃e,Qb0 N h i l (k:Int) x n w u=some e/\e.length=u.length/\∀j,j<u.length->e.getD j false=(u.getD j false||decide (a-Xj h.c i 0+w<=j/\(j:Int)<a-Xj h.c i 0+x))
 |0,w,u,_,G,_=>by omega
 |n+1,w,u,hw,G,K=>by
  have H:=hp.pages;have L:=Xo.1 hp.conf;have M:=XZ hp.conf (i:=i) z aa;rw[Qb0];by_cases f:w<x;case neg=>
   rw[XW f,Wa]
   exact⟨u,rfl,rfl,λj g=>by rw[XW (show¬_ by omega),Bool.or_false]⟩
  have O:Xj h.c i 0=4096+i*h.c.W:=by unfold Xj;omega
  rw[Wd f,Wb,Xe,A,Xa];rw[Xd (n:=a) aa aa,Xd (n:=a-4096) aa aa,Xd (n:=a-4096+w) aa aa,Xd (n:=i*h.c.W) aa aa,Xd (n:=a-4096+w-i*h.c.W) aa aa,Xd (n:=w+1) aa aa];generalize R:a-4096+w-i*h.c.W=q;have step:∀v:List Bool,v.length=u.length->(∀j,j<u.length->v.getD j false=(u.getD j false||decide ((j:Int)=q)))->∃e,Qb0 N h i l (k:Int) x n (w+1) v=some e/\e.length=u.length/\∀j,j<u.length->e.getD j false=(u.getD j false||decide (a-Xj h.c i 0+w<=j/\(j:Int)<a-Xj h.c i 0+x)):=by intro v o r;obtain⟨e,I,J,e3⟩:=Xjv h hp i z B l k a A x D E n (w+1) v aa aa aa;refine⟨e,I,J.trans o,λj g=>?_⟩;rw[e3 j aa,r j g,Bool.or_assoc];congr 1;rw[←Bool.decide_or];exact decide_eq_decide.2 aa
  by_cases s:q>=0;case neg=>
   rw[XW s,Wa]
   exact step u rfl λj g=>by rw[XW (show¬(j:Int)=q by omega),Bool.or_false]
  rw[Wd s,Wb,Xc aa];by_cases y:q<u.length;case neg=>
   rw[XW y,Wa]
   exact step u rfl λj g=>by rw[XW (show¬(j:Int)=q by omega),Bool.or_false]
  rw[Wd y,Wb,X1 s y,Xa];refine step _ (by rw[WO]) λj g=>?_;rw[Wr,IC];grind
end
section
variable {N:Nat}
def XkF(h:Wm)(i k a:Int):Bool:=decide (a-Xj h.c i 0<=k/\k<a-Xj h.c i 0+Xao h a)
def XfE(h:Wm)(i:Int)(l:List Int)(k:Int):XsD h i l k=l.any (XkF h i k):=rfl
def XmN(h:Wm)(a:Int):1<=Xao h a/\Xao h a<=256:=by have:=YY h.w a;unfold Xao;omega
def Xjw(hN:NB N){h:Wm}(hp:Uv h)(i:Int)(y:0<=i)(z:i<h.p.length)(l:List Int)(D:l.length<=4096)(o:∀a∈l,IW h a)(r:∀a∈l,Qam N h a=some (hdA h.w a,0)):∀(n k:Nat) (u:List Bool),k<=l.length->l.length-k<n->u.length<=1000 ->
 ∃s,Qd0 N h i l n (k:Int) u=some s/\s.length=u.length/\∀j:Nat,j<u.length->s.getD j false=(u.getD j false||(l.drop k).any (XkF h i (j:Int)))
 |0,k,u,_,E,_=>by omega
 |n+1,k,u,O,E,G=>by
  have R:=Xo.1 hp.conf;have S:=XZ hp.conf (i:=0) aa aa;have H:1000000<N:=by unfold NB at hN;omega
  rw[Qd0];by_cases f:k<l.length;case neg=>
   rw[Wh aa,Wa,UN aa]
   exact⟨u,rfl,rfl,λj A=>ab⟩
  have g:=WL f;have T:=(o _ g).rng;have I:=XmN h l[k];have v:=YY h.w l[k];have e:∀kk:Int->Option (List Bool),(jn kk λB=>bif ((hdA h.w l[k]).k==0)then B 1 else B (XF (hdA h.w l[k])))=kk (Xao h l[k]):=by
   intro kk;rw[Xv];unfold Xao;rw[v.1];by_cases q:(hdA h.w l[k]).k=0
   .rw[Wq q,show((hdA h.w l[k]).k==0)=true by simpa using q,Wb]
   rw[Wk q,show((hdA h.w l[k]).k==0)=false by simpa using q,Wa]
  rw[Wd aa,Wb,Xe,Wc f,Xa,r _ g,Xa,X5,Xa];rw[e];have⟨J,K,L,M⟩:=Xjv (N:=N) h hp i y z l k l[k] (Wc f) (Xao h l[k]) I.2 aa N 0 u aa aa G;rw[K,Xa,Xg aa];have⟨s,g1,g2,g3⟩:=Xjw hN hp i y z l D o r n (k+1) J aa aa aa;refine⟨s,g1,g2.trans L,λj A=>?_⟩;rw[g3 j aa,M j A,Bool.or_assoc,Wu f,List.any_cons];unfold XkF;simp
def Xpq(hN:NB N){h:Wm}(hp:Uv h)(i:Int)(o:0<=i)(q:i<h.p.length)(l:List Int)(r:l.length<=4096)(e:∀a∈l,IW h a)(f:∀a∈l,Qam N h a=some (hdA h.w a,0)):
 ∃u,QhV N h i l=some u/\u.length=h.c.W.toNat/\∀j:Nat,j<u.length->u.getD j false=XsD h i l (j:Int):=by have v:=Xo.1 hp.conf;rw[QhV,Xc aa,show(0:Int)=((0:Nat):Int)from rfl];have⟨u,s,g,e3⟩:=Xjw hN hp i o q l r e f N 0 (List.replicate h.c.W.toNat false) aa (by unfold NB at hN;omega) (by grind);rw[s,Xa];rw[WV]at g e3;refine⟨u,rfl,g,λj y=>?_⟩;rw[e3 j aa,W0,XfE,show(List.replicate h.c.W.toNat false).getD j false=false by simp_all,Ii]
def wdP(h:Wm)(i:Int)(k:Nat):Int:=wd h.w (Xj h.c i 0+k)
def Xpr(hN:NB N){h:Wm}(hb:HB h)(hp:Uv h){i:Int}(e:0<=i)(j:i<h.p.length){k:Nat}(l:(k:Int)<h.c.W):Qgm N h i (k:Int)=some (wdP h i k):=by
 have f:=hp.pages;have o:=XZ hp.conf (i:=i) e aa;rw[Qgm,QhW,K1,hp.conf,Wk ab,Wq aa,Xa,YK (by unfold BIG;have:=hb.1;omega),Xa,Xa];have g:Xj h.c i (k:Int)=Xj h.c i 0+k:=by unfold Xj;omega
 have hw:=hp.words;rw[g,Wq (by unfold inW Xj;omega)];rfl
def Xjx(hN:NB N){h:Wm}(hb:HB h)(hp:Uv h){i:Int}(g:0<=i)(o:i<h.p.length)(u:List Bool)(q:u.length=h.c.W.toNat):∀(n k:Nat),k<=u.length->u.length-k<n ->
 ∃e,Qdf N h i u n (k:Int)=some e/\((∃j,k<=j/\j<u.length/\u.getD j false=false/\wdP h i j≠0)->∃a,e=.ret a/\a≠0)/\((¬∃j,k<=j/\j<u.length/\u.getD j false=false/\wdP h i j≠0)->e=.nxt ())
 |0,k,_,r=>by omega
 |n+1,k,B,r=>by
  have s:=hp.pages;have D:=XZ hp.conf (i:=i) g aa;rw[Qdf];by_cases f:k<u.length;case neg=>
   grind
  rw[Wd aa,Wb,Xe,Wc f,Xa,Xpr hN hb hp g o aa,Xa,Xg aa];have E:u.getD k false=u[k]:=by rw[Wr,Wc f];rfl
  have skip:(u[k]=true\/wdP h i k=0)->∃e,Qdf N h i u n ((k+1:Nat):Int)=some e/\((∃j,k<=j/\j<u.length/\u.getD j false=false/\wdP h i j≠0)->∃a,e=.ret a/\a≠0)/\((¬∃j,k<=j/\j<u.length/\u.getD j false=false/\wdP h i j≠0)->e=.nxt ()):=by
   intro G;obtain⟨e,v,y,e3⟩:=Xjx hN hb hp g o u q n (k+1) aa aa;refine⟨e,v,λ⟨j,a,b,c,d⟩=>y ⟨j,?_,b,c,d⟩,λl=>e3 λ⟨j,a,b⟩=>l ⟨j,aa,b⟩⟩;by_cases z:j=k
   .simp_all
   omega
  cases H:u[k]with
  |true=>simp_all
  |false=>
   by_cases A:wdP h i k=0
   .simp_all
   rw[show(wdP h i k != 0)=true by simp_all,Wb,QgA,Xa];refine⟨_,rfl,λ_=>⟨_,rfl,?_⟩,λl=>absurd ⟨k,aa,f,by simp_all,A⟩ l⟩;rw[Xd (n:=i*h.c.W) aa aa,Xd (n:=4096+i*h.c.W) aa aa,Xd aa aa,Xw aa aa];omega
end
section
variable {N:Nat}
def KS(L x:Int):Int:=if L<(if x<0 then 0 else x)then L else(if x<0 then 0 else x)
def XfF{v:List Int}{lo hi:Nat}(e:lo<=hi)(f:hi<=v.length):(((v.take lo)++(List.replicate (hi-lo) 0))++(v.drop (lo+(hi-lo)))).length=v.length:=by grind
def Xjy{v:List Int}{e f:Nat}(g:e<=f)(h:f<=v.length)(j:Nat):(((v.take e)++(List.replicate (f-e) 0))++(v.drop (e+(f-e)))).getD j 0=if e<=j/\j<f then 0 else v.getD j 0:=by grind
def Xg8(hN:NB N){h:Wm}(ht:HT h)(hp:Uv h)(i:Int)(y:0<=i)(E:i<h.p.length)(f:List Int×Int)(G:f.1.length<=4096)(l:∀a∈f.1,IW h a)(r:∀a∈f.1,Qam N h a=some (hdA h.w a,0)):∀(n k:Nat) (v:List Int),k<=f.1.length->f.1.length-k<n->v.length<=1000 ->
 ∃s,QeI N h (Xj h.c i 0,0) f n (k:Int) v=some s/\s.length=v.length/\∀j:Nat,j<v.length->s.getD j 0=if(f.1.drop k).any (XkF h i (j:Int))=true then 0 else v.getD j 0
 |0,k,v,_,H,_=>by omega
 |n+1,k,v,S,H,I=>by
  have J:=Xo.1 hp.conf;have K:=hp.pages;have T:=XZ hp.conf (i:=i) y aa;have L:1000000<N:=by unfold NB at hN;omega
  rw[QeI];by_cases o:k<f.1.length;case neg=>
   rw[Wh aa,Wa,UN aa]
   exact⟨v,rfl,rfl,λj z=>ab⟩
  have g:=WL o;have U:=(l _ g).rng;have V:=XmN h f.1[k];have u:=YY h.w f.1[k];have e:∀kk:Int->Option (List Int),(jn kk λB=>bif ((hdA h.w f.1[k]).k != 0)then(bnd (some (XF (hdA h.w f.1[k]))) λM=>B M)else B 1)=kk (Xao h f.1[k]):=by
   intro kk;rw[Xv];unfold Xao;rw[u.1];by_cases q:(hdA h.w f.1[k]).k=0
   .rw[Wq q,show((hdA h.w f.1[k]).k != 0)=false by simpa using q,Wa]
   rw[Wk q,show((hdA h.w f.1[k]).k != 0)=true by simpa using q,Wb,Xa]
  rw[Wd (show(k:Int)<(f.1.length:Int) by omega),Wb,Xe,Wc o,Xa,XaN hN ht ((l _ g).tu hp),r _ g,Xa,YV aa];rw[e];have Y:Xj h.c i 0=4096+i*h.c.W:=by unfold Xj;omega
  have w0:wI f.1[k]=f.1[k]:=Xd aa aa;have w1:wI (Xj h.c i 0)=Xj h.c i 0:=Xd aa aa;have w2:wI (f.1[k]-Xj h.c i 0)=f.1[k]-Xj h.c i 0:=Xd aa aa;have O:wI (f.1[k]-Xj h.c i 0+Xao h f.1[k])=f.1[k]-Xj h.c i 0+Xao h f.1[k]:=Xd aa aa;simp only[w0,w1,w2,O,Xg (show k<=140737488355328 by omega)];rw[Xc aa,Xc aa];have Z:∀x:Int,(if(v.length:Int)<(if x<0 then 0 else x)then(v.length:Int)else(if x<0 then 0 else x))=KS v.length x:=λ_=>rfl;have D:∀x:Int,0<=KS v.length x/\KS v.length x<=v.length:=by intro x;unfold KS;split<;>split<;>omega
  generalize R:f.1[k]-Xj h.c i 0=A at *;have a1:=D A;have a2:=D (A+Xao h f.1[k]);have a3:KS v.length A<=KS v.length (A+Xao h f.1[k]):=by
   unfold KS;repeat' split
   all_goals omega
  rw[Xc aa];obtain⟨s,g1,g2,g3⟩:=Xg8 hN ht hp i y E f G l r n (k+1) _ aa aa (by rw[XfF (v:=v) (lo:=(KS v.length A).toNat) (hi:=(KS v.length (A+Xao h f.1[k])).toNat) aa aa];exact I);refine⟨s,g1,by rw[g2,XfF aa aa],λj z=>?_⟩;rw[g3 j (by rw[XfF aa aa];exact z),Xjy aa aa,Wu o,List.any_cons];have ec:XkF h i (j:Int) f.1[k]=decide ((KS v.length A).toNat<=j/\j<(KS v.length (A+Xao h f.1[k])).toNat):=by
   unfold XkF;rw[R];refine decide_eq_decide.2 ?_;unfold KS;repeat' split
   all_goals omega
  grind
def Xps(l:List Int)(f:l.length<=1000000)(hN:1000000<N):Qbx N l=some (J8 (λx=>x != 0) l):=by
 exact JQ (p:=λx:Int=>x != 0) f hN (λn k x e=>by
  have g:=XC e
  rw[QaG,Xm g,Wb,Xe,e,Xa,Qh2,Xa,Xg aa]) (λn=>by rw[QaG,XA,Wa])
def XmO(hN:NB N){h:Wm}(ht:HT h)(ep:Qac N h=some true){i:Int}(o:0<=i)(q:i<h.p.length):
 ∃a,Qgn N h i=some a/\∃b,Qhj N h i=some (b,a != 0):=by
 have E:1000000<N:=by unfold NB at hN;omega
 have hb:=ht.hb;have hp:=Yl hN hb ep;have U:=Xo.1 hp.conf;have V:=hp.pages;have hm:=XZ hp.conf (i:=i) o aa;have ad:Xj h.c i 0=4096+i*h.c.W:=by unfold Xj;omega
 have hw:=hp.words;have⟨pw,G⟩:∃pw:Nat,h.c.W=(pw:Int):=⟨h.c.W.toNat,aa⟩
 have s:Yp h.w (Xj h.c i 0) pw:=by unfold Yp;omega
 have erd:QdO N h.w (Xj h.c i 0) h.c.W=some ((h.w.drop (ix (Xj h.c i 0))).take pw,0):=by rw[G,Xct (by unfold BIG;omega) N _ pw aa,Wq s]
 have eadr:QbF N h.c i 0=some (Xj h.c i 0,0):=by rw[K1,hp.conf,Wk ab,Wq aa]
 have H:Xj h.c i 0<=18446744073709551615:=aa;have⟨hd,Y,I,J⟩:=Xfs N (h:=h) hp.first N i o q hb.2 aa;have y:Qgl N h i=some hd:=by rw[Qgl,Y,Xa]
 have⟨r,R,Z,S⟩:=Qin hN hb hp hd I J;have⟨⟨z,A,_⟩,_,_⟩:=Z;have⟨u,eu,K,L⟩:=Xpq hN hp i o q r.1 aa z A;have⟨e,e1,T,e3⟩:=Xjx hN hb hp o q u K N 0 aa aa;rw[Qgn,y,Xa,R,Xa,eu,Xa,show(0:Int)=((0:Nat):Int)from rfl,e1,Xa];rw[Qhj,VU,eadr,Xa,XmL aa H];rw[erd,Xa,XmM hN hb hp o q,y,Xa,XdE hN ht,R,Xa];have hvl:((h.w.drop (ix (Xj h.c i 0))).take pw).length=pw:=by rw[Wl,Wn];unfold ix;unfold Yp at s;omega
 have⟨v,g1,g2,g3⟩:=Xg8 hN ht hp i o q r aa z A N 0 ((h.w.drop (ix (Xj h.c i 0))).take pw) aa aa aa;have M:QeI N h (Xj h.c i 0,0) r N 0 ((h.w.drop (ix (Xj h.c i 0))).take pw)=some v:=g1;have hul:u.length=pw:=by clear T e3;omega
 rw[M,Xa,Xps v aa E,Xa];have B:decide (J8 (λx=>x != 0) v>=0)=v.any (λx=>x != 0):=Ky _ v;rw[B];have f:∀j,j<pw->((h.w.drop (ix (Xj h.c i 0))).take pw).getD j 0=wdP h i j:=by intro j D;unfold wdP wd ix;rw[Wr,Un,Wq D,UO,Wr];congr 2;omega
 have iff1:v.any (λx=>x != 0)=true↔∃j,0<=j/\j<u.length/\u.getD j false=false/\wdP h i j≠0:=by
  rw[List.any_eq_true];constructor
  .rintro⟨x,hx,hx0⟩;obtain⟨j,D,rfl⟩:=WM hx;have g:j<pw:=aa;have:=g3 j aa;rw[Wr,Wc D,U5,f j g,W0,←XfE]at this;grind
  rintro⟨j,_,D,hc,hz⟩;have g:j<v.length:=aa;refine⟨v[j],WL g,?_⟩;have:=g3 j aa;rw[Wr,Wc g,U5,f j aa,W0,←XfE,←L j D,hc,Wk ab]at this;grind
 by_cases l:∃j,0<=j/\j<u.length/\u.getD j false=false/\wdP h i j≠0
 .obtain⟨a,rfl,ha⟩:=T l;rw[XE,iff1.2 l];simp_all
 have O:=e3 l;subst O;rw[Xp,show v.any (λx=>x != 0)=false by rw[←Od];exactλhh=>l (iff1.1 hh)];simp
end
def JJ{α β:Type}{L:Nat}{F:Nat->Int->Option (Ex α β)}{p:Nat->Prop}{Q:α->Prop}{u:β}(f:∀n k,k<L->p k->∃a,F (n+1) (k:Int)=some (.ret a)/\Q a)(l:∀n k,k<L->¬p k->F (n+1) (k:Int)=F n ((k+1:Nat):Int))(g:∀n,F (n+1) (L:Int)=some (.nxt u)):∀(n k:Nat),k<=L->L-k<n ->
 ∃e,F n (k:Int)=some e/\((∃j,k<=j/\j<L/\p j)->∃a,e=.ret a/\Q a)/\((¬∃j,k<=j/\j<L/\p j)->e=.nxt u)
 |0,k,_,q=>by omega
 |n+1,k,y,q=>by
  by_cases h:k<L;case neg=>
   grind
  by_cases hp:p k
  .have⟨a,e,r⟩:=f n k h hp;exact⟨_,e,λ_=>⟨a,rfl,r⟩,λo=>absurd ⟨k,Uj _,h,hp⟩ o⟩
  have⟨e,s,v,e3⟩:=JJ f l g n (k+1) aa aa;refine⟨e,(l n k h hp).trans s,λ⟨j,a,b,c⟩=>v ⟨j,?_,b,c⟩,λo=>e3 λ⟨j,a,b⟩=>o ⟨j,aa,b⟩⟩;grind
section
variable {N:Nat}
def XmP(l:List Int)(x:Int)(o:l.length<=1000000)(g:l.Pairwise (·<·)):∀(n e hi:Nat),e<=hi->hi<=l.length->hi-e<n->(∀i(h:i<l.length),i<e->l[i]<x)->(∀i(h:i<l.length),hi<=i->x<=l[i]) ->
 ∃k:Nat,Qay N l x n (e:Int) (hi:Int)=some (k:Int)/\k<=l.length/\(∀i(h:i<l.length),i<k->l[i]<x)/\(∀i(h:i<l.length),k<=i->x<=l[i])
 |0,e,hi,_,_,q,_,_=>by omega
 |n+1,e,hi,A,r,q,s,hb=>by
  rw[Qay];by_cases u:e<hi;case neg=>
   grind
  have f:wI (YD .u64 (wU (wI ((e:Int)+hi))) 1)=(((e+hi) / 2:Nat):Int):=by rw[Xd (n:=(e:Int)+hi) aa aa,Xw aa aa,show YD .u64 ((e:Int)+hi) 1=((e:Int)+hi) / 2 from YI _ 1 aa aa,Xd aa aa];omega
  have v:(e+hi) / 2<l.length:=aa;have y:e<=(e+hi) / 2/\(e+hi) / 2<hi:=aa;generalize (e+hi) / 2=m at *;rw[Wd aa,Wb,f,Xe,Wc v,Xa,QgV,Qfk,Xa,show(l[m] != l[m])=false by simp,Wa,Xa];have z:=UL.1 g;by_cases p:l[m]<x
  .rw[Wd p,Wb,Xg aa];refine XmP l x o g n (m+1) hi aa r aa (λi h j=>?_) hb;grind
  rw[Wh p,Wa];refine XmP l x o g n e m aa aa aa s (λi h j=>?_);grind
def Xjz(l:List Int)(x:Int)(v:l.length<=1000000)(hN:1000000<N)(r:l.Pairwise (·<·)):∃k:Int,Qau N l x=some (k,l.contains x):=by
 have⟨k,e,z,s,y⟩:=XmP (N:=N) l x v r N 0 l.length aa aa aa (λi h g=>aa) (λi h g=>aa);rw[Qau,show(0:Int)=((0:Nat):Int)from rfl,e,Xa];by_cases f:k<l.length
 .rw[Wd aa,Wb,Xe,Wc f,Xa];by_cases u:l[k]=x
  .refine⟨k,?_⟩;grind
  refine⟨k,?_⟩;rw[show(l[k]==x)=false by simpa using u,Wa,Xa,Qd5,Xa,show(l[k] != l[k])=false by simp,Wa];have:l.contains x=false:=by
   rw[←Od,I4];intro j;obtain⟨i,g,rfl⟩:=WM j;have o:=UL.1 r;by_cases p:i<k
   .have:=s i g p;omega
   have a:=y k f (Uj _);by_cases q:i=k
   .subst q;exact u rfl
   have:=o k i f g aa;omega
  grind
 refine⟨k,?_⟩;have:l.contains x=false:=by rw[←Od,I4];intro j;obtain⟨i,g,rfl⟩:=WM j;have:=s i g aa;omega
 grind
def OC.asc{h:Wm}{l:List Int}(o:OC N h l):l.Pairwise (·<·):=
 o.pw.imp λ{a b} e=>by have:=(YY h.w a).2;omega
def Xaw{d:WC}:∀{k:Nat} {i x:Int},i<=x->x<i+k->KO d x=true->x∈YJ d k i
 |0,i,x,e,f,_=>by omega
 |k+1,i,x,e,f,g=>by
  simp only[YJ,WH];by_cases h:x=i
  .simp_all
  right;exact Xaw aa aa g
def XbX{d:WC}(e:XL d=true){x:Int}:x∈ZA d↔0<=x/\x<d.n/\KO d x=true:=by
 unfold ZA;rw[Wq e];constructor
 .intro h;have:=Vk h;grind
 intro h;exact Xaw aa aa h.2.2
end
section
variable {N:Nat}
def Xrc(h:Wm)(l:List Int)(a i:Int):Prop:=wd h.w (a+1+i)≠0/\l.contains (wd h.w (a+1+i))=false
def XaO(h:Wm)(l:List Int)(a:Int):Prop:=∃i,i∈ZA (hdA h.w a)/\Xrc h l a i
def Xai(h:Wm)(a:Int):XL (hdA h.w a)=true:=ZY _
def Xpt{h:Wm}(hp:Uv h){a:Int}(e:IW h a){i:Int}(f:0<=i)(g:i<(hdA h.w a).n):4096<=a+1+i/\a+1+i<4096+h.w.length/\a+1+i<=8192/\(hdA h.w a).n<=255:=by have:=K2 hp e;have:=e.rng;have:=YY h.w a;have j:=Xo.1 hp.conf;have:=XZ hp.conf (i:=0) aa aa;have:=hp.words;unfold szA at *;omega
def XsE(hN:NB N){h:Wm}(ht:HT h)(hp:Uv h)(g:List Int×Int)(O:g.1.length<=1000000)(R:g.1.Pairwise (·<·))(s:Int){a:Int}(J:IW h a):
 ∃e,QaT N h g s a (ZA (hdA h.w a)) N 0=some e/\(XaO h g.1 a->∃b,e=.ret b/\b≠0)/\(¬XaO h g.1 a->e=.nxt ()):=by
 have z:1000000<N:=by unfold NB at hN;omega
 have hb:=ht.hb;have A:=Xai h a;have B:=XO A;have S:(ZA (hdA h.w a)).length<=255:=by unfold ZA;rw[Wq A];have:=Vl (d:=hdA h.w a) (k:=(hdA h.w a).n.toNat) (i:=0);omega
 have v:∀k(l:k<(ZA (hdA h.w a)).length),0<=(ZA (hdA h.w a))[k]/\(ZA (hdA h.w a))[k]<(hdA h.w a).n:=λk l=>by have:=(XbX A).1 (WL l);omega
 generalize D:ZA (hdA h.w a)=f at *;have Z:=J.rng;have step:∀n k(l:k<f.length),QaT N h g s a f (n+1) (k:Int)=bif (wd h.w (a+1+f[k]) != 0)then(bif (!g.1.contains (wd h.w (a+1+f[k])))then some (.ret (a+1+f[k]))else QaT N h g s a f n ((k+1:Nat):Int))else QaT N h g s a f n ((k+1:Nat):Int):=by
  intro n k l;have K:=v k l;have hf:=Xpt hp J K.1 K.2;have T:(h.w.length:Int)<=100000:=by have:=hb.1;omega
  have w1:wU (wU (a+1)+wU f[k])=a+1+f[k]:=by rw[Xw (n:=a+1) aa aa,Xw (n:=f[k]) aa aa,Xw aa aa]
  rw[QaT,Wd aa,Wb,Xe,Wc l,Xa,w1,XdB aa aa,YK (by unfold BIG;omega),Wq (by unfold inW;omega),Xa];dsimp only;obtain⟨q,eq⟩:=Xjz (N:=N) g.1 (h.w.getD (ix (a+1+f[k])) 0) O z R;rw[eq,Xa,Xg aa];rfl
 have key:=JJ (L:=f.length) (F:=QaT N h g s a f) (p:=λk=>∃l:k<f.length,Xrc h g.1 a f[k]) (Q:=λb=>b≠0) (u:=())
  (λn k l y=>by
   obtain⟨U,E,G⟩:=y
   refine⟨a+1+f[k],?_,?_⟩
   .rw[step n k l,show(wd h.w (a+1+f[k]) != 0)=true by simpa using E,Wb,G];rfl
   grind)
  (λn k l H=>by
   rw[step n k l]
   by_cases E:wd h.w (a+1+f[k])=0
   .simp_all
   .rw[show(wd h.w (a+1+f[k]) != 0)=true by simp_all,Wb]
    cases G:g.1.contains (wd h.w (a+1+f[k]))with
    |true=>rfl
    |false=>exact absurd ⟨l,E,G⟩ H)
  (λn=>by rw[QaT,Wh aa,Wa]) N 0 aa aa
 have⟨e,V,W,e3⟩:=key;refine⟨e,V,λo=>?_,λo=>?_⟩
 .have⟨i,M,r⟩:=o;rw[D]at M;obtain⟨j,I,rfl⟩:=WM M;exact W ⟨j,UP _,I,I,r⟩
 refine e3 λ⟨j,_,I,Y,r⟩=>o ⟨f[j],?_,r⟩;simp_all
def Xqm(hN:NB N){h:Wm}(ht:HT h)(hp:Uv h)(f:List Int×Int)(q:f.1.length<=1000000)(s:f.1.Pairwise (·<·))(g:∀a∈f.1,IW h a)(l:∀a∈f.1,Qam N h a=some (hdA h.w a,0)):∀(n k:Nat),k<=f.1.length->f.1.length-k<n ->
 ∃r,QcI N h f n (k:Int)=some r/\((∃a∈f.1.drop k,XaO h f.1 a)->r≠0)/\((¬∃a∈f.1.drop k,XaO h f.1 a)->r=0)
 |0,k,_,u=>by omega
 |n+1,k,z,u=>by
  have v:1000000<N:=by unfold NB at hN;omega
  rw[QcI];by_cases j:k<f.1.length;case neg=>
   grind
  have o:=WL j;rw[Wd aa,Wb,Xe,Wc j,Xa,XaN hN ht ((g _ o).tu hp),l _ o,Xa,XeI aa _ (Xai h _),Xa];have⟨e,y,A,e3⟩:=XsE hN ht hp f q s (k:Int) (g _ o);rw[y,Xa,Wu j];by_cases p:XaO h f.1 f.1[k]
  .grind[XE]
  have:=e3 p;subst this;rw[Xp,Xg aa];have⟨r,B,D,E⟩:=Xqm hN ht hp f q s g l n (k+1) aa aa;grind
def XmQ(hN:NB N){h:Wm}(hb:HB h)(ep:Qac N h=some true){a:Int}(f:IW h a)(e:Qam N h a=some (hdA h.w a,0))(g:(hdA h.w a).k≠0):QbU N h a=some (hdA h.w a,0):=by have:=f.rng;rw[QbU,ep,Xa,Wi,Wa,show(a==0)=false by simp;omega,Wa,e,Xa];grind
def XkG(hN:NB N){h:Wm}(hb:HB h)(ep:Qac N h=some true){a:Int}(f:IW h a)(g:Qam N h a=some (hdA h.w a,0))(p:(hdA h.w a).k≠0):∃l,Qf9 N h a=some (l,0)/\(l.length:Int)=(hdA h.w a).n/\∀(j:Nat) (q:j<l.length),l[j]=wd h.w (a+1+j):=by
 have hp:=Yl hN hb ep;have r:=XO (Xai h a);have s:=f.rng;have e:=K2 hp f;have u:=XZ hp.conf (i:=0) aa (by have:=Xo.1 hp.conf;omega);have hw:=hp.words;unfold szA at e;have⟨m,o⟩:∃m:Nat,(hdA h.w a).n=(m:Int):=⟨(hdA h.w a).n.toNat,aa⟩
 rw[Qf9,XmQ hN hb ep f g p,Xa];rw[show((0:Int) != 0)=false from rfl,Wa,Xw (n:=a+1) aa aa,o,Xct (by unfold BIG;omega) N _ m aa,Wq (by unfold Yp;omega),Xa];refine⟨_,rfl,?_,λj q=>?_⟩
 .rw[Wl,Wn];unfold ix;omega
 rw[Ij,IH];unfold wd;rw[Wr,show ix (a+1+(j:Int))=ix (a+1)+j by unfold ix;omega,Wc (by grind)];rfl
end
section
variable {N:Nat}
def XsF(hN:NB N){h:Wm}(hb:HB h)(hp:Uv h)(g l:List Int×Int)(U:g.1.length<=1000000)(o:Int){a:Int}(y:Xb g.1 o=some a)(V:IW h a)(W:(l.1.length:Int)=(hdA h.w a).n)(J:∀(j:Nat) (K:j<l.1.length),l.1[j]=wd h.w (a+1+j)):
 ∃e,QaH N h g l o (hdA h.w a,0) N 0=some e/\(XaO h g.1 a->∃f,e=.ret f/\f.Fault≠0)/\(¬XaO h g.1 a->e=.nxt ()):=by
 have M:1000000<N:=by unfold NB at hN;omega
 have z:=Xai h a;have A:=XO z;have step:∀n k(q:k<l.1.length),QaH N h g l o (hdA h.w a,0) (n+1) (k:Int)=bif KO (hdA h.w a) (k:Int)then(bif (wd h.w (a+1+k) != 0)then(bif (!g.1.contains (wd h.w (a+1+k)))then(bnd (Qdl N h.c (wU ((wU (a+1))+(wU (k:Int))))) λB=>some (.ret (Uh.mk 6 B.1 (wU ((wU (a+1))+(wU (k:Int)))))))else QaH N h g l o (hdA h.w a,0) n ((k+1:Nat):Int))else QaH N h g l o (hdA h.w a,0) n ((k+1:Nat):Int))else QaH N h g l o (hdA h.w a,0) n ((k+1:Nat):Int):=by intro n k q;rw[QaH,Wd aa,Wb,Kz,Xa,Xe,Wc q,J k q,Xg aa];simp only[Xa,YQ (wd h.w (a+1+(k:Int))) (show g.1.length<=1000000000 by omega) (show g.1.length<N by omega),y]
 have key:=JJ (L:=l.1.length) (F:=QaH N h g l o (hdA h.w a,0)) (p:=λk=>KO (hdA h.w a) (k:Int)=true/\Xrc h g.1 a (k:Int)) (Q:=λf=>f.Fault≠0) (u:=())
  (λn k q v=>by
   obtain⟨D,E,G⟩:=v
   rw[step n k q,D,Wb,show(wd h.w (a+1+(k:Int)) != 0)=true by simpa using E,Wb,G,W7,Wb,J4,Xa]
   simp)
  (λn k q H=>by
   rw[step n k q]
   cases D:KO (hdA h.w a) (k:Int)with
   |false=>rfl
   |true=>
   rw[Wb]
   by_cases E:wd h.w (a+1+(k:Int))=0
   .simp_all
   .rw[show(wd h.w (a+1+(k:Int)) != 0)=true by simp_all,Wb]
    cases G:g.1.contains (wd h.w (a+1+(k:Int)))with
    |true=>rfl
    |false=>exact absurd ⟨D,E,G⟩ H)
  (λn=>by rw[QaH,Wh aa,Wa]) N 0 aa aa
 have⟨e,O,R,e3⟩:=key;refine⟨e,O,λr=>?_,λr=>?_⟩
 .have⟨i,S,s⟩:=r;have T:=(XbX z).1 S;obtain⟨j,rfl⟩:∃j:Nat,i=(j:Int):=⟨i.toNat,aa⟩
  exact R ⟨j,UP _,aa,T.2.2,s⟩
 exact e3 λ⟨j,_,K,I,s⟩=>r ⟨(j:Int),(XbX z).2 ⟨aa,aa,I⟩,s⟩
def Xqn(hN:NB N){h:Wm}(hb:HB h)(ep:Qac N h=some true)(g:List Int×Int)(v:g.1.length<=1000000)(j:∀a∈g.1,IW h a)(o:∀a∈g.1,Qam N h a=some (hdA h.w a,0))(p:∀a∈g.1,(hdA h.w a).k≠0):∀(n k:Nat),k<=g.1.length->g.1.length-k<n ->
 ∃e,Qcf N h g n (k:Int)=some e/\((∃a∈g.1.drop k,XaO h g.1 a)->∃f,e=.ret f/\f.Fault≠0)/\((¬∃a∈g.1.drop k,XaO h g.1 a)->e=.nxt ())
 |0,k,_,z=>by omega
 |n+1,k,G,z=>by
  have hp:=Yl hN hb ep;rw[Qcf];by_cases q:k<g.1.length;case neg=>
   grind
  have s:=WL q;have y:Xb g.1 (k:Int)=some g.1[k]:=by rw[Xe,Wc q]
  have⟨l,A,B,D⟩:=XkG hN hb ep (j _ s) (o _ s) (p _ s);rw[Wd aa,Wb,y,Xa,XmQ hN hb ep (j _ s) (o _ s) (p _ s),Xa,Xa,A,Xa];have⟨e,E,H,e3⟩:=XsF hN hb hp g (l,0) v (k:Int) y (j _ s) B D;rw[E,Xa,Wu q];by_cases u:XaO h g.1 g.1[k]
  .grind[XE]
  have:=e3 u;subst this;rw[Xp,Xg aa];have⟨r,I,J,K⟩:=Xqn hN hb ep g v j o p n (k+1) aa aa;grind
def JK(hN:NB N){h:Wm}(hb:HB h):∃y,QaK N h=some y/\y.1.length<=4096/\y.1.Pairwise (·<·)/\(∀a∈y.1,IW h a)/\(∀a∈y.1,Qam N h a=some (hdA h.w a,0))/\(∀a∈y.1,(hdA h.w a).k≠0):=by have⟨y,e,f,_,_⟩:=Z0 hN hb;refine⟨y,e,f.len,f.obj.asc,f.obj.at_,f.obj.ev,?_⟩;have⟨r,l,g,_,_⟩:=V9 hN hb;have j:=g.len;rw[QaK,l,Xa,show(0:Int)=((0:Nat):Int)from rfl,Xbs r aa g.obj.ev N 0 [] aa (by unfold NB at hN;omega) ab,Xa,W0,Uk]at e;cases e;intro a o;have:=(UB.1 o).2;simp_all[Zw,fnd]
def zF:Uh:=⟨0,0,0⟩
def Xpu(P:Prop)(o:Option Uh):Prop:=∃f,o=some f/\(P->f.Fault≠0)/\(¬P->f=zF)
def Xg9(hN:NB N){h:Wm}(ht:HT h)(ep:Qac N h=some true){y:List Int×Int}(v:QaK N h=some y):Xpu (∃a∈y.1,XaO h y.1 a) (Qge N h)/\Xpu (∃a∈y.1,XaO h y.1 a) (Qfd N h):=by
 have hb:=ht.hb;have hp:=Yl hN hb ep;have⟨I,o,J,E,s,u,z⟩:=JK hN hb;rw[v]at o;cases o;have B:y.1.length<N:=by unfold NB at hN;omega
 constructor
 .have⟨r,A,D,e3⟩:=Xqm hN ht hp y aa E s u N 0 aa aa;rw[Qge,KI hN ht,v,Xa];have j:QcI N h y N 0=some r:=A;rw[j,Xa];by_cases g:∃a∈y.1,XaO h y.1 a
  .rw[show(r==0)=false by simp_all,Wa];have:∃q,Qcc N h.c r=some q:=by
    rw[Qcc,Jh,Xa];cases G:X8 h.c with
    |false=>simp
    |true=>
     have:=Xo.1 G;rw[Wi,Wa];cases decide (r<4096)
     .rw[Wa];cases decide (wU (r-4096)>=wU (wI (h.c.W*h.c.p)))
      .rw[Wa,Xc aa,Xc aa];exact⟨_,rfl⟩
      exact⟨_,rfl⟩
     simp
   have⟨q,eq⟩:=this;rw[eq,Xa];exact⟨_,rfl,λ_=>ab,λl=>absurd g l⟩
  rw[e3 g];exact⟨_,rfl,λl=>absurd l g,λ_=>rfl⟩
 have⟨e,A,D,e3⟩:=Xqn hN hb ep y aa s u z N 0 aa aa;rw[Qfd,v,Xa];have j:Qcf N h y N 0=some e:=A;rw[j,Xa];by_cases g:∃a∈y.1,XaO h y.1 a
 .obtain⟨f,rfl,H⟩:=D g;rw[XE];exact⟨_,rfl,λ_=>H,λl=>absurd g l⟩
 rw[e3 g,Xp];exact⟨_,rfl,λl=>absurd l g,λ_=>rfl⟩
end
section
variable {N:Nat}
def XfG(hN:NB N){h:Wm}(ht:HT h)(ep:Qac N h=some true){i:Nat}(R:i<h.p.length):
 ∃f,Qgo N h (i:Int)=some f/\((f.Fault≠0/\∀n,∃q,Qba N h (n+1) (i:Int)=some (.ret q)/\q.Fault≠0)\/(f.Fault=0/\∀n,Qba N h (n+1) (i:Int)=Qba N h n ((i+1:Nat):Int))):=by
 have hb:=ht.hb;have hp:=Yl hN hb ep;have H:h.p.length<=100000:=hb.2;have u:Xb h.p (i:Int)=some (pg h.p (i:Int)):=XH aa aa;have g:∀n,Qba N h (n+1) (i:Int)=jn (λ(_:Unit)=>
  bnd (QfN N h (i:Int)) λv=>
  bif (v.2 != 0)then some (.ret (Uh.mk 3 (i:Int) 0))
  else bnd (QgO N h (i:Int) v.1) λz=>
  bif z.2 then some (.ret (Uh.mk 5 (i:Int) z.1))
  else bnd (Qhj N h (i:Int)) λA=>
  bif A.2 then some (.ret (Uh.mk 4 (i:Int) A.1))
  else Qba N h n ((i+1:Nat):Int)) λB=>
  bif ((pg h.p (i:Int)).k != 0)then(bif ((pg h.p (i:Int)).s != h.s)then some (.ret (Uh.mk 2 (i:Int) 0))
   else B ())
  else B ():=by
  intro n
  rw[Qba,Wd aa,Wb,u,Xa,Xg aa]
 simp only[g,Xv];rw[Qgo,Xv,u];simp only[Xa];by_cases e:(pg h.p (i:Int)).k≠0/\(pg h.p (i:Int)).s≠h.s
 .rw[show((pg h.p (i:Int)).k != 0)=true by simpa using e.1,show((pg h.p (i:Int)).s != h.s)=true by simpa using e.2];exact⟨_,rfl,.inl ⟨by show(2:Int)≠0;omega,λn=>⟨_,rfl,by show(2:Int)≠0;omega⟩⟩⟩
 have I:∀{α:Type} (x y:α),(bif ((pg h.p (i:Int)).k != 0)then(bif ((pg h.p (i:Int)).s != h.s)then x else y)else y)=y:=by
  intro α x y;by_cases k0:(pg h.p (i:Int)).k=0
  .rw[show((pg h.p (i:Int)).k != 0)=false by simpa using k0,Wa]
  have:(pg h.p (i:Int)).s=h.s:=Classical.byContradiction λJ=>e ⟨k0,J⟩;rw[show((pg h.p (i:Int)).s != h.s)=false by simpa using this,Wa,Bool.cond_self]
 simp only[I];have⟨r,K,L,D⟩:=Qin hN hb hp (i:Int) aa aa;simp only[XdE hN ht,K,Xa];by_cases E:r.2=0;case neg=>
  rw[show(r.2 != 0)=true by simpa using E]
  exact⟨_,rfl,.inl ⟨by show(3:Int)≠0;omega,λn=>⟨_,rfl,by show(3:Int)≠0;omega⟩⟩⟩
 rw[show(r.2 != 0)=false by simpa using E];have⟨⟨j,l,_⟩,_,_⟩:=L;have⟨a,M,b,eb⟩:=XkE hN ht hp (i:=(i:Int)) aa aa r.1 aa j l;simp only[M,eb,Xa];by_cases G:a=0;case neg=>
  rw[show(a != 0)=true by simpa using G]
  exact⟨_,rfl,.inl ⟨by show(5:Int)≠0;omega,λn=>⟨_,rfl,by show(5:Int)≠0;omega⟩⟩⟩
 rw[show(a != 0)=false by simpa using G];have⟨d,O,S,o⟩:=XmO hN ht ep (i:=(i:Int)) aa aa;simp only[O,o,Xa];by_cases hd:d=0;case neg=>
  rw[show(d != 0)=true by simpa using hd]
  exact⟨_,rfl,.inl ⟨by show(4:Int)≠0;omega,λn=>⟨_,rfl,by show(4:Int)≠0;omega⟩⟩⟩
 simp_all
def XmR(hN:NB N){h:Wm}(ht:HT h)(ep:Qac N h=some true):∃P:Prop,Xpu P (QhA N h)/\∃e,Qb6 N h N 0=some e/\(P->∃f,e=.ret f/\f.Fault≠0)/\(¬P->e=.nxt ()):=by
 have hb:=ht.hb;have E:h.p.length<=100000:=hb.2;have A:h.p.length<N:=by unfold NB at hN;omega
 let p:Nat->Prop:=λk=>∃f,Qgo N h (k:Int)=some f/\f.Fault≠0;refine⟨∃j,0<=j/\j<h.p.length/\p j,?_,?_⟩
 .have key:=JJ (L:=h.p.length) (F:=Qba N h) (p:=p) (Q:=λ f=>f.Fault≠0) (u:=())
   (λn k o g=>by
    obtain⟨f,B,v⟩:=g
    obtain⟨q,l,r⟩:=XfG hN ht ep o
    simp_all)
   (λn k o s=>by
    obtain⟨q,l,r⟩:=XfG hN ht ep o
    grind)
   (λn=>by rw[Qba,Wh aa,Wa]) N 0 aa aa
  have⟨e,G,I,e3⟩:=key;have y:Qba N h N 0=some e:=G;unfold Xpu;rw[QhA,y,Xa];by_cases D:∃j,0<=j/\j<h.p.length/\p j
  .grind[XE]
  rw[e3 D,Xp];exact⟨_,rfl,λz=>absurd z D,λ_=>rfl⟩
 have key:=JJ (L:=h.p.length) (F:=Qb6 N h) (p:=p) (Q:=λ f=>f.Fault≠0) (u:=())
  (λn k o g=>by
   have⟨f,B,v⟩:=g
   rw[Qb6,Wd aa,Wb,B,Xa,show(f.Fault != 0)=true by simpa using v]
   exact⟨f,rfl,v⟩)
  (λn k o s=>by
   have⟨q,l,r⟩:=XfG hN ht ep o
   have H:q.Fault=0:=Classical.byContradiction λz=>s ⟨q,l,z⟩
   rw[Qb6,Wd aa,Wb,l,Xa,show(q.Fault != 0)=false by simpa using H,Wa,Xg aa])
  (λn=>by rw[Qb6,Wh aa,Wa]) N 0 aa aa
 omega
def XfH{f:Uh}(e:f.Fault≠0):((f.Fault==0)&&((f.Page==0)&&(f.Addr==0)))=false:=by simp_all
def Xbt(hN:NB N){h:Wm}(ht:HT h):QfO N h=Qbt N h:=by
 have hb:=ht.hb;have r:h.p.length<=100000:=hb.2;rw[QfO,Qbt,Qiq,Qhv,Yd r (by unfold NB at hN;omega)];have⟨b,eb⟩:=Zu (N:=N) hN hb;simp only[eb,Xa];cases b with
 |false=>rfl
 |true=>
 rw[Wi,Wa,Wa];have⟨P,⟨f,D,s,u⟩,e,E,G,e3⟩:=XmR hN ht eb;have⟨y,H,_⟩:=JK hN hb;have⟨⟨g,eg,v,z⟩,⟨I,A,j,l⟩⟩:=Xg9 hN ht eb H;simp only[D,E,Xa];by_cases q:P
 .obtain⟨L,rfl,B⟩:=G q;simp only[XE,XfH (s q),W7,Wb,Xa,XfH B]
 rw[e3 q,u q];simp only[Xp,eg,A,Xa,zF,show((0:Int)==0)=true from rfl,II,Wi,Wa];by_cases o:∃a∈y.1,XaO h y.1 a
 .simp only[XfH (v o),W7,Wb,Xa,show(I.Fault != 0)=true by simpa using j o,XfH (j o)]
 rw[z o,l o];simp only[zF,show((0:Int)==0)=true from rfl,show((0:Int) != 0)=false from rfl,II,Wi,Wa];have J:∀(n:Nat) (c i:Int),QcH N h n c i=Qb7 N h n c i:=by
  intro n;induction n with
  |zero=>intro c i;rw[QcH,Qb7]
  |succ n K=>
   intro c i;rw[QcH,Qb7];simp only[K];cases M:Xb h.p i with
   |none=>simp only[ZV]
   |some p=>simp only[Xa]
 grind
def XeN(hN:NB N){h:Wm}(ht:HT h){l:List Int}(A:l.length<=1000000):Qey N h l=Qbu N h l:=by
 have g:1000000<N:=by unfold NB at hN;omega
 have hb:=ht.hb;rw[Qey,Qbu,Xbt hN ht];have⟨b,eb,_⟩:=KA hN hb;rw[eb,Xa,Xa];cases b with
 |false=>rfl
 |true=>
 have⟨y,B,O,D,_⟩:=JK hN hb;rw[Wi,Wa,Wa,KI hN ht,B,Xa,Xa];have r:∀x:Int,Qfm N x y.1=some (x != 0&&!y.1.contains x):=by intro x;obtain⟨k,E⟩:=Xjz (N:=N) y.1 x aa g D;rw[Qfm,E,Xa];cases (x != 0)<;>rfl
 rw[Qa5,Qbj];rw[JQ (p:=λx:Int=>x != 0&&!y.1.contains x) A g (λn k x e=>by
  have f:=XC e
  rw[Qaz,Xm f,Wb,Xe,e,Xa,r,Xa,Xg aa]) (λn=>by rw[Qaz,XA,Wa])]
 rw[Xa,Xa,Ky]
 have key:=JJ (L:=l.length) (F:=QaM N l y) (p:=λk=>∃f:k<l.length,(l[k] != 0&&!y.1.contains l[k])=true) (Q:=λb=>b=false) (u:=())
  (λn k f o=>by
   obtain⟨G,q⟩:=o
   simp only[W9]at q
   refine⟨false,?_,rfl⟩
   rw[QaM,Wd aa,Wb,Xe,Wc f,Xa,q.1,Wb,Xa,YQ _ aa aa,Xa,q.2,Wb])
  (λn k f H=>by
   rw[QaM,Wd aa,Wb,Xe,Wc f,Xa,Xa,YQ _ aa aa,Xa,Xg aa]
   grind)
  (λn=>by rw[QaM,Wh aa,Wa]) N 0 aa aa
 have⟨e,I,J,e3⟩:=key;have s:QaM N l y N 0=some e:=I;rw[s,Xa];cases K:l.any (λx=>x != 0&&!y.1.contains x)with
 |true=>have⟨x,M,q⟩:=List.any_eq_true.1 K;obtain⟨j,z,rfl⟩:=WM M;obtain⟨b,rfl,v⟩:=J ⟨j,UP _,z,z,q⟩;simp[XE,v]
 |false=>simp_all[List.any_eq_false,Xp]
def Z7(hN:NB N){h:Wm}(ht:HT h){l:List Int}(M:l.length<=10000000 / 4)(eg:Qbt N h=some true){y:List Int×Int}(A:QaK N h=some y):Qbu N h l=some (l.all λx=>x==0||y.1.contains x):=by
 have hb:=ht.hb;have⟨O,g,R,S,_⟩:=JK hN hb;rw[A]at g;cases g;have B:l.length<N:=by unfold NB at hN;omega
 have D:1000000<N:=by unfold NB at hN;omega
 rw[Qbu,eg,Xa,Wi,Wa,A,Xa]
 have key:=JJ (L:=l.length) (F:=QaM N l y) (p:=λk=>∃q:k<l.length,(l[k]==0||y.1.contains l[k])=false) (Q:=λb=>b=false) (u:=())
  (λn k q o=>by
   obtain⟨E,f⟩:=o
   simp only[Bool.or_eq_false_iff]at f
   refine⟨false,?_,rfl⟩
   rw[QaM,Wd aa,Wb,Xe,Wc q,Xa,show(l[k] != 0)=true by simp_all,Wb,Xa,YQ _ aa aa,Xa,f.2];rfl)
  (λn k q G=>by
   rw[QaM,Wd aa,Wb,Xe,Wc q,Xa,Xa,YQ _ aa aa,Xa,Xg aa]
   grind)
  (λn=>by rw[QaM,Wh aa,Wa]) N 0 aa aa
 have⟨e,H,I,e3⟩:=key;have s:QaM N l y N 0=some e:=H;rw[s,Xa];cases v:l.all (λx=>x==0||y.1.contains x)with
 |false=>have⟨x,J,f⟩:=List.all_eq_false.1 v;obtain⟨j,r,rfl⟩:=WM J;obtain⟨b,rfl,z⟩:=I ⟨j,UP _,r,r,by simp_all⟩;rw[XE,z]
 |true=>
  have:=e3 λ⟨j,_,r,K,f⟩=>by rw[Ud]at v;rw[v _ (WL r)]at f;cases f
  simp_all[Xp]
end
section
variable {N:Nat}
def Xir(l:List Ux)(r:Int)(f:l.length<=1000000)(hN:1000000<N):QhJ N l r=some (J8 (λp=>p.a==r) l):=by
 exact JQ (p:=λp:Ux=>p.a==r) f hN (λn k x e=>by
  have g:=XC e
  rw[QfV,Xm g,Wb,Xe,e,Xa,Xg aa]) (λn=>by rw[QfV,XA,Wa])
def XdF(l:List Ux)(r:Int)(f:l.length<=1000000)(hN:1000000<N):QeJ N l r=some (J8 (λp=>p.a==r) l):=by
 rw[QeJ,Qbd];rw[JQ (p:=λp:Ux=>p.a==r) f hN (λn k x e=>by
  have g:=XC e
  rw[Qax,Xm g,Wb,Xe,e,Xa,Qf5,Xa,Xg aa]) (λn=>by rw[Qax,XA,Wa]),Xa]
def XaP(hN:NB N){h:Wm}(ht:HT h)(hp:Uv h)(pins:List Ux)(g:pins.length<=1000000)(y:List Int×Int)(G:y.1.length<=4096)(D:y.1.Pairwise (·<·))(l:∀a∈y.1,IW h a):∀(n k:Nat) (v:List Int),k<=pins.length->pins.length-k<n->v.length=h.p.length ->
 ∃e,Qb8 N h pins y n (k:Int) v=some e/\Qcq N pins h y n (k:Int) v=some (match e with|.ret _=>.ret ([],false)|.nxt v=>.nxt v)/\(∀b,e=.ret b->b=false)/\(∀f,e=.nxt f->f.length=h.p.length/\∀p∈pins.drop k,y.1.contains p.a=true)
 |0,k,v,_,H,_=>by omega
 |n+1,k,v,R,H,I=>by
  have j:1000000<N:=by unfold NB at hN;omega
  rw[Qb8,Qcq];by_cases o:k<pins.length;case neg=>
   rw[Wh aa,Wa,Wa]
   grind
  have⟨q,eq⟩:=Xjz (N:=N) y.1 pins[k].a aa j D;have J:Xb pins (k:Int)=some pins[k]:=by rw[Xe,Wc o]
  simp only[Wd (show(k:Int)<(pins.length:Int) by omega),Wb,J,Xa,YQ pins[k].a (show y.1.length<=1000000000 by omega) (show y.1.length<N by omega),eq,Xir pins pins[k].a g j,XdF pins pins[k].a g j];cases s:y.1.contains pins[k].a with
  |false=>simp
  |true=>
  have u:=l _ (by rw[I4]at s;exact s);have z:=u.tu hp;have⟨K,A,L⟩:=Xad (N:=N) hp u;have O:Qdl N h.c pins[k].a=some (pgi h.c pins[k].a,pgo h.c pins[k].a,0):=by rw[J4,Wk (by rw[hp.conf];simp),Wq u.rng];rfl
  have⟨c,B⟩:∃c,Xb v (pgi h.c pins[k].a)=some c:=⟨_,X1 A aa⟩
  simp only[Wi,Wa,K,Xio N h.c pins[k].a z.2,O,Xa,B,Xg (show k<=140737488355328 by omega)];have⟨e,S,T,U,E⟩:=XaP hN ht hp pins g y G D l n (k+1) (v.set (pgi h.c pins[k].a).toNat (wI (c+pins[k].M))) aa aa (by rw[WO];exact I);have V:∀f,e=.nxt f->f.length=h.p.length/\∀p∈pins.drop k,y.1.contains p.a=true:=λf r=>⟨(E f r).1,λp hp=>by
   rw[Wu o]at hp
   rcases UT.1 hp with rfl|hp
   .exact s
   .exact(E f r).2 p hp⟩
  grind
def XbY(hN:NB N){h:Wm}(ht:HT h){pins:List Ux}(f:pins.length<=1000000):Qg5 N h pins=Qbk N h pins:=by
 have q:1000000<N:=by unfold NB at hN;omega
 have hb:=ht.hb;have r:h.p.length<=100000:=hb.2;rw[Qg5,Qbk,Xbt hN ht];have⟨b,eb,g⟩:=KA hN hb;rw[eb,Xa,Xa];cases b with
 |false=>rfl
 |true=>
 cases decide ((pins.length:Int)>64)with
 |true=>rfl
 |false=>
 have hp:Uv h:=(g rfl).prop;have⟨y,s,u,z,j,_⟩:=JK hN hb;rw[Wa,Wa,QgW,KI hN ht,s,Xa,Xa];rw[Xc aa];have⟨e,A,B,e3,e4⟩:=XaP hN ht hp pins f y u z j N 0 (List.replicate (h.p.length:Int).toNat 0) aa aa ab;have l:Qb8 N h pins y N 0 (List.replicate (h.p.length:Int).toNat 0)=some e:=A;have o:Qcq N pins h y N 0 (List.replicate (h.p.length:Int).toNat 0)=_:=B;rw[Xc aa,l,o,Xa,Xa];cases e with
 |ret b=>rw[e3 b rfl,XE,XE,Xa];rfl
 |nxt v=>
  rw[Xp,Xp,Xa];have E:∀(n:Nat) (i:Int),Qfl N h (v,true) n i=Qdz N h v n i:=by
   intro n;induction n with
   |zero=>intro i;rw[Qfl,Qdz]
   |succ n D=>intro i;rw[Qfl,Qdz];simp only[D]
  simp_all
def XaQ(hN:NB N){h:Wm}(ht:HT h){pins:List Ux}(j:pins.length<=1000000)(f:Qbk N h pins=some true):Qbt N h=some true/\pins.length<=64/\∀y,QaK N h=some y->∀p∈pins,y.1.contains p.a=true:=by
 have hb:=ht.hb;have s:h.p.length<=100000:=hb.2;rw[Qbk]at f;have⟨b,eb,l⟩:=KA hN hb;rw[eb,Xa]at f;cases b with
 |false=>grind
 |true=>
 refine⟨eb,?_,λy r p u=>?_⟩
 .grind
 have hp:Uv h:=(l rfl).prop;have⟨D,g,z,A,o,_⟩:=JK hN hb;rw[r]at g;cases g;cases hd:decide ((pins.length:Int)>64)with
 |true=>simp_all
 |false=>
 rw[hd,Wa,r,Xa,Xc aa]at f;have⟨e,B,E,e3,e4⟩:=XaP hN ht hp pins j y z A o N 0 (List.replicate (h.p.length:Int).toNat 0) aa (by unfold NB at hN;omega) ab;have q:Qb8 N h pins y N 0 (List.replicate (h.p.length:Int).toNat 0)=some e:=B;rw[q,Xa]at f;cases e with
 |ret b=>rw[e3 b rfl,XE]at f;grind
 |nxt v=>simp_all
def XaR{x:WJ}(hp:x.P.length<=1000000):∀(n k:Nat) (v:List Int),k<=x.P.length->x.P.length-k<n->v.length<=10000000+k ->
 Qfz N x n (k:Int) v=some (v++(x.P.drop k).map (·.a))/\Qbv N x n (k:Int) v=some (v++(x.P.drop k).map (·.a))
 |0,k,v,_,f,_=>by omega
 |n+1,k,v,g,f,h=>by
  rw[Qfz,Qbv];by_cases e:k<x.P.length
  .rw[Wd aa,Wb,Wb,Xe,Wc e,Xa,Xa,Xc aa,Xc aa,Xg aa];have⟨a,b⟩:=XaR hp n (k+1) (v++[x.P[k].a]) aa aa (by rw[WR];simp;omega);rw[a,b,Wu e,UI,Ub];exact⟨rfl,rfl⟩
  grind
def Jy(x:WJ):List Int:=((x.R++(bif Y0 x.l then X9 x.l.S else[]))++(bif YZ x.g.e then XT x.g.e else[]))++x.P.map (·.a)
def XmS{x:WJ}(f:EB x):(Jy x).length<=104160+x.P.length:=by have h:=Zs f.loc;have j:=Yu x.g.e;have l:=f.roots;unfold Jy;grind
def Xis(hN:NB N){x:WJ}(f:EB x):Qet N x=some (Jy x):=by
 have o:=Zs f.loc;have p:=Yu x.g.e;have j:=f.pins;have q:=f.roots;have h:1000000<N:=by unfold NB at hN;omega
 rw[Qet,Xc aa,ZB f.loc h,Xa,Xc aa,Yt f.glo h,Xa,Xc aa];have:=(XaR (N:=N) j N 0 ((x.R++(bif Y0 x.l then X9 x.l.S else[]))++(bif YZ x.g.e then XT x.g.e else[])) aa aa (by grind)).2;rw[show(0:Int)=((0:Nat):Int)from rfl,this,Xa,W0];rfl
def XdG(hN:NB N){x:WJ}(h:EB x):Qhl N x=some (Jy x):=by
 have l:=Zs h.loc;have o:=Yu x.g.e;have j:=h.pins;have p:=h.roots;have f:1000000<N:=by unfold NB at hN;omega
 rw[Qhl,XbU h.loc f,Xa,Jg h.glo f,Xa,QiB];have:=(XaR (N:=N) j N 0 [] aa aa ab).1;rw[show(0:Int)=((0:Nat):Int)from rfl,this,Xa,Xa,W0,Uk,Qhk,XbV _ ab (by simp only[XaM,W4];omega) f,Xa,Xa];unfold Jy;simp
structure ET(x:WJ):Prop where
 eb:EB x
 tw:XV x.h
def ET.ht{x:WJ}(t:ET x):HT x.h:=⟨t.eb.heap,t.tw⟩
end
section
variable {N:Nat}
def XmT(l:List Int):(!l.all λp=>!(p==0))=l.contains 0:=by grind
def Ya(hN:NB N){x:WJ}(ht:ET x):QaJ N x=QbP N x:=by
 have f:1000000<N:=by unfold NB at hN;omega
 have h:=ht.eb;have s:=Zs h.loc;have u:=Yu x.g.e;have z:=Yu x.v.e;have j:=h.pins;have G:=h.roots;rw[QaJ,QbP,XbY hN ht.ht j];have⟨b,eb,_⟩:=Jt hN h.heap j;rw[eb,Xa,Xa];cases b with
 |false=>rfl
 |true=>
 have⟨eg,o,A⟩:=XaQ hN ht.ht j eb;simp only[Wi,Wa,Jw h.loc f,ZI h.loc f,J9 h.glo f,Zv h.glo f,J9 h.wea f,Zv h.wea f,Jg h.glo f,Yt h.glo f,Jg h.wea f,Yt h.wea f,ZB h.loc f,Xa,XdG hN h];cases el:Y0 x.l with
 |false=>rfl
 |true=>
 cases p:YZ x.g.e with
 |false=>rfl
 |true=>
 cases B:YZ x.v.e with
 |false=>rfl
 |true=>
 have D:Jy x=((x.R++X9 x.l.S)++XT x.g.e)++x.P.map (·.a):=by unfold Jy;rw[el,p];rfl
 have q:=XmS h;rw[el,Wb]at s;rw[p,Wb]at u;rw[B,Wb]at z;simp;rw[XfC aa f,Xa,XmT,YQ 0 aa aa,Xa];cases (XT x.g.e).contains 0 with
 |true=>rfl
 |false=>
 rw[Wa,Wa,Xc aa,Xc aa,Xc aa,Xc aa];rw[Qhk,XbV _ ab (by simp only[XaM];omega) f,Xa,Xa];have⟨y,r,H,_⟩:=JK hN h.heap;have E:[Jy x,XT x.v.e].flatten=Jy x++XT x.v.e:=by simp
 rw[E,XeN hN ht.ht (by rw[WR];omega),Z7 hN ht.ht (by rw[WR];omega) eg r,Z7 hN ht.ht ah eg r,Xa,Xa,D];grind
end
section
variable {N:Nat}
def XdH{t:Ws}(r:TB t)(hN:1000000<N)(i g:Int):Qg8 N t i g=some (YF t.e i g):=by
 have f:=r;rw[Qg8,Qf0,J9 f hN,Xa,YF];cases s:YZ t.e
 .simp[W7,Wb,Xa]
 simp only[Wi,Wa,Xql,Bool.true_eq_false,if_false];by_cases h:i<0
 .rw[Wq h,Wq (.inl h),Xa];rfl
 rw[Wk h];by_cases j:i>=(t.e.length:Int)
 .rw[Wq j,Wq (.inr (.inl j)),Xa];rfl
 rw[Wk j];by_cases l:g<1
 .rw[Wq l,Wq (.inr (.inr l)),Xa];rfl
 have o:i.toNat<t.e.length:=aa;rw[Wk l,Wk aa,X1 aa aa,Xa,Wc o];simp only[Xa];by_cases p:g>t.e[i.toNat].G
 .simp[Wq,p,Xa]
 rw[Wk p,Wk p];by_cases q:g<t.e[i.toNat].G
 .simp[Wq,q,Xa]
 rw[Wk q,Wk q];cases t.e[i.toNat].V
 .rw[W7,Wb,Xa];rfl
 simp[Wi,Wa,Xa]
def Xha{a:Wo}(e:LBp a)(hN:1000000<N)(i g:Int):QhQ N a i g=some (Zh a i g):=by rw[←Vm e hN,QhQ,Qe7,Jw e hN,ZI e hN]
def XsG:Xb [(2:Int),16,32] 0=some 2:=by unfold Xb;rfl
def XsH:Xb [(2:Int),16,32] 1=some 16:=by unfold Xb;rfl
def XsI:Xb [(2:Int),16,32] 2=some 32:=by unfold Xb;rfl
def XkH(hN:1000000<N){v:Int}(f:0<=v)(l:v<=18446744073709551615):QdL N v [2,16,32]=some (if v / 1125899906842624=0 then([v % 4,v / 4 % 65536,v / 262144 % 4294967296],0)else([],2)):=by
 obtain⟨m,rfl⟩:∃m,N=m+4:=⟨N-4,aa⟩
 have e:([(2:Int),16,32].length:Nat)=3:=rfl;have g:wI (0+1)=1:=Xd aa aa;have h:wI (1+1)=2:=Xd aa aa;have j:wI (2+1)=3:=Xd aa aa;have o:wI (64-2)=62:=Xd aa aa;have p:wI (62-16)=46:=Xd aa aa;have q:wI (46-32)=14:=Xd aa aa;have r:QaD (m+4) v [2,16,32] (m+4) 64 0=some (.nxt ()):=by rw[QaD,e,XsG];simp only[Xa,g,o];rw[QaD,e,XsH];simp only[Xa,h,p];rw[QaD,e,XsI];simp only[Xa,j,q];rw[QaD,e];rfl
 have s:Qa4 (m+4) 2=some 3:=Y3 aa aa aa;have u:Qa4 (m+4) 16=some 65535:=Y3 aa aa aa;have y:Qa4 (m+4) 32=some 4294967295:=Y3 aa aa aa;have z:YD .u64 v 2=v / 4:=YI v 2 aa f;have A:YD .u64 (v / 4) 16=v / 4 / 65536:=YI (v / 4) 16 aa aa;have s3:YD .u64 (v / 4 / 65536) 32=v / 4 / 65536 / 4294967296:=YI (v / 4 / 65536) 32 aa aa;have B:Y4 .u64 v 3=v % 4:=Yv v 2 aa f l;have D:Y4 .u64 (v / 4) 65535=v / 4 % 65536:=Yv (v / 4) 16 aa aa aa;have E:Y4 .u64 (v / 4 / 65536) 4294967295=v / 4 / 65536 % 4294967296:=Yv (v / 4 / 65536) 32 aa aa aa;have G:QaE (m+4) [2,16,32] (m+4) v 0 []=some (v / 4 / 65536 / 4294967296,[v % 4,v / 4 % 65536,v / 4 / 65536 % 4294967296]):=by rw[QaE,e,XsG];rw[Wd aa,Wb,Xa,s,Xa,Xc ab,Xc aa,z,B,g];rw[QaE,e,XsH];rw[Wd aa,Wb,Xa,u,Xa,Xc ab,Xc aa,A,D,h];rw[QaE,e,XsI];rw[Wd aa,Wb,Xa,y,Xa,Xc ab,Xc aa,s3,E,j];rw[QaE,e];rw[Wh aa,Wa];rfl
 rw[QdL,r,Xa,Xp,G,Xa];grind
def XcD(hN:1000000<N){v:Int}(j:tU v):Qd3 N v=some (Yz v):=by
 have⟨l,o⟩:=j;rw[Qd3,Yz];by_cases e:v=0
 .subst e;rfl
 rw[Xf e,Wa,Wk e,XkH hN l o,Xa];by_cases h:v / 1125899906842624=0
 .have p:Xb [v % 4,v / 4 % 65536,v / 262144 % 4294967296] 0=some (v % 4):=by unfold Xb;rfl
  have g1:Xb [v % 4,v / 4 % 65536,v / 262144 % 4294967296] 1=some (v / 4 % 65536):=by unfold Xb;rfl
  have g2:Xb [v % 4,v / 4 % 65536,v / 262144 % 4294967296] 2=some (v / 262144 % 4294967296):=by unfold Xb;rfl
  rw[Wq h];rw[show((0:Int) != 0)=false from rfl,Wa,p,Xa,g1,Xa,g2,Xa,Xd (n:=v % 4) aa aa,Xd (n:=v / 4 % 65536) aa aa,Xd (n:=v / 262144 % 4294967296) aa aa];have q:v / 262144 % 4294967296=v / 262144:=aa;have r:Qa4 N 16=some 65535:=Y3 aa aa aa;have s:Qa4 N 32=some 4294967295:=Y3 aa aa aa;rw[q,Qfs,Wh (show¬v / 4 % 65536<0 by omega),Wh (show¬v % 4>3 by omega),r,Xa,s,Xa];simp only[Wa];rw[Xw (n:=v / 4 % 65536) aa aa,Xw (n:=v / 262144) aa aa,Wd (show v / 4 % 65536<=65535 by omega),Wd (show v / 262144<=4294967295 by omega),Wb];by_cases f:v % 4<1
  .rw[Wd f,Wb,Xa,W7,Wb,Wk aa]
  rw[Wh f,Wa];by_cases g:v / 262144<1
  .rw[Wd g,Wb,Xa,W7,Wb,Wk aa]
  rw[Wh g,Wa,Xa,Wi,Wa,Wq aa]
 grind
def XmU(v:Int):v≠0->(Yz v).2=0\/(Yz v).2=6:=by unfold Yz;grind
def XmV(hN:NB N){x:WJ}(ht:ET x){v:Int}(g:tU v):Qav N x v=QaB N x v:=by
 have e:1000000<N:=by unfold NB at hN;omega
 have f:=ht.eb;rw[Qav,QaB,Ya hN ht];have⟨b,eb,_⟩:=Zt hN f;rw[eb,Xa,Xa];cases b with
 |false=>rfl
 |true=>
 rw[Wi,Wa,Wa,XcD e g,Xa];by_cases h:v=0
 .subst h;rfl
 rw[show(v==0)=false by simp_all,Wa,VS g,Xa];have j:=XmU v h;rw[show((Yz v).2==5)=false by grind,Wa];simp only[Xha f.loc e,Vm f.loc e,XdH f.glo e,Kg f.glo e,XdH f.wea e,Kg f.wea e]
end
section
variable {N:Nat}{a:Wo}{t:Ws}
def Xaj(a:Wo):QdN N a=some a:=by simp[QdN,Qas,Xa,Qao,QaF]
def XaS(t:Ws):Qfb N t=some t:=by rw[Qfb,Qap,Xa]
def Xax{α:Type}{p q:α->Bool}:∀{l:List α},(∀x∈l,p x=q x)->l.findIdx? p=l.findIdx? q
 |[],_=>rfl
 |x::l,h=>by rw[IT,IT,h x ab,Xax λy e=>h y (Ul _ e)]
def XmW{l:List WT}(f:YZ l=true):(l.findIdx? λe=>!(e.V||(e.G==4294967295)))=XeA l:=by refine Xax λe g=>?_;have h:=Xbh f g;grind
def XmX(l:TB t)(hN:1000000<N)(id:Int):Qha N t id=some (YG t id):=by
 have f:=l;rw[Qha,J9 f hN,Xa,YG];cases g:YZ t.e
 .rfl
 rw[Wi,Wa,Wk ab,QiK,Xa,Xv];have o:=Js g;rw[XmW g];cases p:XeA t.e with
 |some k=>
  have⟨j,hp,_⟩:=UK.1 p;have r:=Xbh g (WL j);have q:t.e.getD k ⟨0,0,false⟩=t.e[k]:=by rw[Wr,Wc j];rfl
  simp only[Option.isSome_some,U5,Wi,Wa,XaS,Xa,Xv,Xe,Wc j,UX,List.set_set,q];rw[Xd aa aa]
 |none=>
  simp;by_cases h:t.e.length=64
  .rw[Wq h,Wd aa,Wb];rfl
  rw[Wk h,Wh aa,Wa];simp only[XaS,Xa,Xv];rw[Xc aa,Xe,U3 (Uj _),IU];simp only[List.getElem?_cons_zero,Xa,UX,List.set_set];rw[Xd aa aa,Iv _ _ (Uj _),IU];rfl
def Xbu(s:LBp a)(hN:1000000<N)(id:Int):QcX N a id=some (Yn a id):=by
 have⟨f,g,hl3⟩:=s;rw[QcX,Jw ⟨f,g,hl3⟩ hN,Xa,Yn];cases u:Y0 a
 .rfl
 rw[Wi,Wa,Wk ab];have p:=YW.1 u;by_cases q:id=0
 .subst q;rfl
 rw[Wk q,show(id==0)=false by simp_all,Wa,Xd aa aa];by_cases j:a.x.length=0
 .rw[Wq j,j];rfl
 rw[Wk j,Wh aa,Wa];have e:=Wc (show a.x.length-1<a.x.length by omega);have v:JD a=a.x[a.x.length-1]:=by unfold JD;rw[Wr,e];rfl
 have y:(a.x.length:Int)-1=((a.x.length-1:Nat):Int):=aa;have l:toL a (a.x.length-1)=(a.S.length:Int):=by unfold toL;rw[show a.x.length-1+1=a.x.length by omega,W3 (Uj _)]
 rw[y,Xg4 ⟨f,g,hl3⟩ hN p.ne e,Xa,Xe,e,Xa,l,UX,←v];by_cases h:(JD a).C0<=((KG a.S (JD a).O.toNat a.S.length:Nat):Int)
 .rw[Wq h,Wd (show((KG a.S (JD a).O.toNat a.S.length:Nat):Int)>=_ from h),Wb];rfl
 rw[Wk h,Wh (show¬((KG a.S (JD a).O.toNat a.S.length:Nat):Int)>=_ from h),Wa];have o:=p.iss;by_cases r:a.i.length=4096
 .rw[Wq r,Wd aa,Wb];rfl
 rw[Wk r,Wh aa,Wa,Xaj,Xa,Xc aa,Xc aa,Xc aa,Xc aa,Xd aa aa]
def XkI(h:LBp a)(hN:1000000<N)(c:Int):Qh5 N a c=some (KB a c):=by
 have l:=h.1;rw[Qh5,QiD,Jw h hN,Xa,KB];cases o:Y0 a
 .rw[W7,Wb,Xa,Wq (.inl rfl)];rfl
 have p:=YW.1 o;rw[Wi,Wa];by_cases e:c<0
 .rw[Wd e,Wb,Xa,Wq (.inr (.inl e))];rfl
 by_cases f:c>64
 .rw[Wh e,Wa,Wd f,Wb,Xa,Wq (.inr (.inr f))];rfl
 rw[Wh e,Wa,Wh f,Wa,Xv,W7,Wb,Wk (by simp_all)];by_cases g:a.x.length=0
 .rw[Wq g,g];rw[show(((0:Nat):Int)==0)=true from rfl,Wb,Xa];rfl
 rw[Wk g,show((a.x.length:Int)==0)=false by simp_all,Wa];have q:=p.sc;by_cases j:a.x.length=64
 .rw[Wq j,Wd aa,Wb,Xa];rfl
 rw[Wk j,Wh aa,Wa,Xaj,Xa,Xc aa,Xc aa,Xa]
def XmY(j:LBp a)(hN:1000000<N):Qit N a=some (ZC a):=by
 have⟨g,e,hl3⟩:=j;rw[Qit,Jw ⟨g,e,hl3⟩ hN,Xa,ZC];cases l:Y0 a
 .rfl
 by_cases f:a.x.length=0
 .rw[Wq f,f];rfl
 have ht:=Xdg l f;have h:=Xbi f e;rw[Wk f];have hw:wI ((a.x.length:Int)-1)=(a.x.length:Int)-1:=Xd aa aa;rw[h,Xa,hw,Wh aa,Wa];cases o:(JD a).B0
 .rw[Wa,Qh6,Xaj,Xa,←hw,h,Xa,hw,Xc aa,Xc aa,Xa];rw[show((a.x.length:Int)-1).toNat=a.x.length-1 by omega];rfl
 rfl
def Xit{x y:Int}{k:Nat}(q:k<=63)(f:0<=x)(g:x<2 ^ k)(h:0<=y)(e:x+y*2 ^ k<=18446744073709551615):bOr .u64 x (y*2 ^ k)=x+y*2 ^ k:=by
 obtain⟨m,rfl⟩:=Uo f;obtain⟨n,rfl⟩:=Uo h;have j:((2:Int) ^ k)=((2 ^ k:Nat):Int):=by simp
 rw[j]at g e⊢;rw[←Oj]at e⊢;have l:m<2 ^ k:=aa;have hb:IntKind.u64.bits=64:=rfl;show IntKind.u64.wrap ((BitVec.ofInt IntKind.u64.bits m |||BitVec.ofInt IntKind.u64.bits ((n*2 ^ k:Nat):Int)).toNat:Int)=_;rw[hb];have o:BitVec.ofInt 64 (m:Int)=BitVec.ofNat 64 m:=by simp
 have p:BitVec.ofInt 64 ((n*2 ^ k:Nat):Int)=BitVec.ofNat 64 (n*2 ^ k):=by rw[Oa]
 rw[o,p,BitVec.toNat_or,Ia,Ia,Im aa,Im aa];have e3:m |||n*2 ^ k=m+n*2 ^ k:=by have:=Nat.two_pow_add_eq_or_of_lt l n;rw[Om,Nat.or_comm,←this,Nat.add_comm,Om]
 show wU _=_;rw[Xw aa aa];omega
def XdI(a:Int)(k:Nat)(e:k<=64):ZN .u64 a k=wU (a*2 ^ k):=by have f:IntKind.bits .u64=64:=rfl;show IntKind.wrap .u64 (a*2 ^ min (k:Int).toNat (IntKind.bits .u64))=_;rw[f,UX,Ol e];rfl
def Xhb{a:Int}{k:Nat}(q:k<=63)(j:0<=a)(g:a<2 ^ k):XaW .u64 a (2 ^ k-1)=0:=by
 obtain⟨n,rfl⟩:=Uo j;have hb:IntKind.u64.bits=64:=rfl;have e:(2:Int) ^ k-1=((2 ^ k-1:Nat):Int):=by
  have g:=Nat.one_le_two_pow (n:=k);have f:(2:Int) ^ k=((2 ^ k:Nat):Int):=by simp
  rw[f];omega
 have l:n<2 ^ k:=by
  have f:(2:Int) ^ k=((2 ^ k:Nat):Int):=by simp
  rw[f]at g;omega
 show IntKind.u64.wrap ((BitVec.ofInt IntKind.u64.bits n &&& ~~~ BitVec.ofInt IntKind.u64.bits (2 ^ k-1)).toNat:Int)=_;rw[hb,e];have o:BitVec.ofInt 64 (n:Int)=BitVec.ofNat 64 n:=by simp
 have p:BitVec.ofInt 64 ((2 ^ k-1:Nat):Int)=BitVec.ofNat 64 (2 ^ k-1):=by rw[Oa]
 rw[o,p];have e3:BitVec.ofNat 64 n &&& ~~~ BitVec.ofNat 64 (2 ^ k-1)=0#64:=by
  apply BitVec.eq_of_getLsbD_eq;intro i r;rw[BitVec.getLsbD_and,BitVec.getLsbD_not,BitVec.getLsbD_ofNat,BitVec.getLsbD_ofNat,BitVec.getLsbD_zero];by_cases h:i<k
  .simp_all
  rw[Nat.testBit_lt_two_pow (Iq l (IE aa aa))];simp
 rw[e3];rfl
def XfI(hN:1000000<N){v:Int}{m:Nat}(e:m<=63)(f:0<=v)(g:v<2 ^ m):Qcj N v m=some true:=by rw[Qcj,Y3 aa aa aa,Xa,UX,Xhb e f g];rfl
def Xhc(hN:1000000<N){t i s:Int}(L:1<=t)(r:t<=3)(M:0<=i)(p:i<=65535)(O:1<=s)(q:s<=4294967295):Qbe N ⟨t,i,s⟩=some (t+i*4+s*262144,0)/\Qbg N ⟨t,i,s⟩=some (t+i*4+s*262144,0):=by
 have g2:∀x:Int,ZN .u64 x 2=wU (x*4):=λx=>XdI x 2 aa;have g18:∀x:Int,ZN .u64 x 18=wU (x*262144):=λx=>XdI x 18 aa;have u:∀x:Int,ZN .u64 x 0=wU (x*1):=λx=>XdI x 0 aa;have g:=Xw (n:=t) aa aa;have h:=Xw (n:=i) aa aa;have j:=Xw (n:=s) aa aa;have e:=Xw (n:=i*4) aa aa;have f:=Xw (n:=s*262144) aa aa;constructor
 .have l:Qa4 N 16=some 65535:=Y3 (a:=16) aa aa aa;have o:Qa4 N 32=some 4294967295:=Y3 (a:=32) aa aa aa;have v:Qfs N ⟨t,i,s⟩=some true:=by rw[Qfs,l,o];simp only[Xa,h,j];rw[Wh aa,Wh aa,Wh aa,Wh aa,Wd p,Wd q];rfl
  obtain⟨n,rfl⟩:∃n,N=n+4:=⟨N-4,aa⟩
  have z:Qbi (n+4) [UF.mk 2 t,UF.mk 16 i,UF.mk 32 s] (n+4) 64 0=some (.nxt ()):=ac;have A:Qcj (n+4) t 2=some true:=XfI (m:=2) hN aa aa aa;have B:Qcj (n+4) i 16=some true:=XfI (m:=16) hN aa aa aa;have D:Qcj (n+4) s 32=some true:=XfI (m:=32) hN aa aa aa;have E:bOr .u64 0 (wU (t*1))=t:=by rw[Int.mul_one,g];have:=Xit (x:=0) (y:=t) (k:=0) aa aa aa aa aa;simpa using this
  have b2:bOr .u64 t (i*4)=t+i*4:=Xit (k:=2) aa aa aa aa aa;have G:bOr .u64 (t+i*4) (s*262144)=t+i*4+s*262144:=Xit (k:=18) aa aa aa aa aa;have H:QaO (n+4) [UF.mk 2 t,UF.mk 16 i,UF.mk 32 s] (n+4) 0 0 0=some (.nxt (t+i*4+s*262144)):=by have I:Xb [UF.mk 2 t,UF.mk 16 i,UF.mk 32 s] 0=some (UF.mk 2 t):=Xe _ 0;have J:Xb [UF.mk 2 t,UF.mk 16 i,UF.mk 32 s] 1=some (UF.mk 16 i):=Xe _ 1;have K:Xb [UF.mk 2 t,UF.mk 16 i,UF.mk 32 s] 2=some (UF.mk 32 s):=Xe _ 2;rw[QaO,Wd ab,Wb,I,Xa,A,Xa,Wi,Wa,Xc aa,u,E,show wI (0+2)=2 from rfl,show wI (0+1)=1 from rfl];rw[QaO,Wd ab,Wb,J,Xa,B,Xa,Wi,Wa,Xc aa,g2,e,b2,show wI (2+16)=18 from rfl,show wI (1+1)=2 from rfl];rw[QaO,Wd ab,Wb,K,Xa,D,Xa,Wi,Wa,Xc aa,g18,f,G,show wI (18+32)=50 from rfl,show wI (2+1)=3 from rfl];rw[QaO,Wh ab,Wa]
  simp[Qbe,v,Xa,Wi,Wa,g,h,j,QfP,z,Xp,H]
 rw[Qbg,Qhx];simp only[g,h,j,g2,g18,e,f];rw[Wd (show t>=1 by omega),Wd r,Wd (show i>=0 by omega),Wd p,Wd (show s>=1 by omega),Wd q];simp only[Wb,Xa,Wi,Wa];rw[Xw (n:=t+i*4) aa aa,Xw aa aa]
def XkJ{l:Wo}{id:Int}(h:(Yn l id).2.2.2=0):Y0 l=true/\0<=(Yn l id).2.1/\(Yn l id).2.1<=65535/\1<=(Yn l id).2.2.1/\(Yn l id).2.2.1<=4294967295:=by
 unfold Yn at h⊢;cases e:Y0 l
 .rw[e,Wq rfl]at h;cases h
 have f:=YW.1 e;have g:=f.slots;have j:=f.iss;grind
def XkK{t:Ws}{id:Int}(h:(YG t id).2.2.2=0):0<=(YG t id).2.1/\(YG t id).2.1<=65535/\1<=(YG t id).2.2.1/\(YG t id).2.2.1<=4294967295:=by
 unfold YG at h⊢;cases f:YZ t.e
 .simp_all
 have g:=Js f;cases j:XeA t.e with
 |some k=>have⟨l,hp,_⟩:=UK.1 j;have o:=Xbh f (WL l);grind
 |none=>grind
def XmZ{l:Wo}(f:LBp l)(hN:1000000<N)(i g:Int):Qg9 N l i g=some (Vn l i g):=by
 rw[Qg9,Xha f hN,Xa,Vn];by_cases h:(Zh l i g).2=0
 .have⟨_,e,p,hp,o,_,_⟩:=Xab h;have j:=XC hp;rw[h,show((0:Int) != 0)=false from rfl,Wa,Wk ab,Xaj,Xa,X1 e aa,Xa,X1 e (by rw[WO];omega),Xa];simp_all
 rw[show((Zh l i g).2 != 0)=true by simp_all,Wb,Wq h];rfl
def Xhd{t:Ws}(l:TB t)(hN:1000000<N)(i g:Int):Qgh N t i g=some (KR t i g):=by
 have o:∃x,Qf0 N t i g=some x/\x=(YF t.e i g).2:=by
  refine⟨_,?_,rfl⟩;have:=XdH l hN i g;rw[Qg8]at this;cases e:Qf0 N t i g with
  |none=>simp_all[e,ZV]
  |some x=>
   rw[e,Xa]at this;by_cases q:x=0
   .subst q;cases f:Xb t.e i with
    |none=>rw[f,ZV]at this;cases this
    |some p=>rw[f,Xa]at this;rw[←WG this]
   grind
 obtain⟨x,e,rfl⟩:=o;rw[Qgh,e,Xa,KR];by_cases h:(YF t.e i g).2=0
 .have⟨_,j,p,hp,s,_,_⟩:=Xac h;have r:=XC hp;rw[h,show((0:Int) != 0)=false from rfl,Wa,Wk ab,XaS,Xa,X1 j aa,Xa,X1 j (by rw[WO];omega),Xa];simp_all
 rw[show((YF t.e i g).2 != 0)=true by simp_all,Wb,Wq h];rfl
end
section
variable {N:Nat}
def XjA(N:Nat)(c:WW):QiC N c=some (KZ c):=by exact XbL N c
def XbZ(N:Nat)(ps:List Wv):Qhm N ps=Qc7 N ps:=by
 have h:∀(n:Nat) (c i:Int),Qd2 N ps n c i=QbO N ps n c i:=by
  intro n;induction n with
  |zero=>simp[Qd2,QbO]
  |succ n e=>simp[Qd2,QbO,e]
 rw[Qhm,Qc7,h]
def Xhe(N:Nat)(e:List Wv)(j:e.length<=100000):∀(n k:Nat) (v:List Oq),k<=e.length->v.length<=k->Qdc N e n (k:Int) v=QbI N e n (k:Int) v
 |0,k,v,_,_=>by rfl
 |n+1,k,v,o,p=>by
  rw[Qdc,QbI];by_cases f:k<e.length;case neg=>grind
  rw[Wd (show(k:Int)<(e.length:Int) by omega),Wb,Wb,Xe,Wc f,Xa,Xa,Xc aa,Xg aa];have g:∀v':List Oq,v'.length<=k+1->Qdc N e n ((k+1:Nat):Int) v'=QbI N e n ((k+1:Nat):Int) v':=λv' h=>Xhe N e j n (k+1) v' aa h;rw[g v aa,g (v++[Oq.mk (k:Int) 1]) (by simp_all)];have l:∀(i:Nat) (x:Oq),Qdc N e n ((k+1:Nat):Int) (v.set i x)=QbI N e n ((k+1:Nat):Int) (v.set i x):=λi x=>g _ (by grind);simp only[l];cases (e[k].k != 0)with
  |true=>rfl
  |false=>
   rw[Wa,Wa,Xc (show v.length<=140737488355328 by omega)];rw[show decide (wI ((v.length:Int)-1)>=0)=decide ((v.length:Int)>0) by
    rw[Xd aa aa];grind]
def Xb0(hN:1000000<N){ps:List Wv}(g:ps.length<=100000)(k:Int):Qer N ps k=Qby N ps k:=by
 have h:Qis N ps=Qhg N ps:=by rw[Qis,Qhg,show(0:Int)=((0:Nat):Int)from rfl,Xhe N ps g N 0 [] aa ab]
 rw[Qer,Qby,h];have⟨rs,ers,l,_⟩:=Xi6 (N:=N) (ps:=ps) aa aa;rw[ers,Xa,Xa];by_cases o:k<1
 .rw[Wd o,Wb];have:∀(n j:Nat),j<=rs.length->rs.length-j<n->QbN N k rs n (j:Int)=some (.nxt ()):=by
   intro n;induction n with
   |zero=>omega
   |succ n e=>
    intro j r s;rw[QbN];by_cases q:j<rs.length
    .rw[Wd aa,Wb,XW (show¬k>=1 by omega),Wa,Xg aa];exact e (j+1) aa aa
    grind
  have f:=this N 0 aa aa;rw[show((0:Nat):Int)=0 from rfl]at f;rw[f,Xa,Xp]
 have:∀(n:Nat) (j:Int),QeM N k rs n j=QbN N k rs n j:=by
  intro n;induction n with
  |zero=>intro j;rw[QeM,QbN]
  |succ n e=>
   intro j;rw[QeM,QbN,Wd (show k>=1 by omega),Wb];simp only[e];cases Xb rs j with
   |none=>simp only[ZV]
   |some p=>simp only[Xa]
 grind
def Jz(hN:1000000<N)(c:WW)(d:WC):Qe2 N c d=QcA N c d:=by
 rw[Qe2,QcA,Jx aa,Zq,YV aa,X5];simp only[Xa,VT,ZG (show 10<=N by omega)];have e:=K0 c (XF d);rw[show decide (XD c (XF d)>=0)=(XD c (XF d) != -1) by
  grind]
end
section
variable {N:Nat}
def VY(p:Wv):Bool:=p.k != 0
def XdJ(N:Nat)(e:List Wv)(g:e.length<=1000000):∀(n c k:Nat),k<=e.length->c<=k->e.length-k<n->QbO N e n (c:Int) (k:Int)=some (((c+(e.drop k).countP VY:Nat):Int))
 |0,c,k,_,_,h=>by omega
 |n+1,c,k,j,l,o=>by
  rw[QbO];by_cases f:k<e.length
  .rw[Wd aa,Wb,Xe,Wc f,Xa,Xg aa,Xg aa,Wu f,List.countP_cons];cases hb:(e[k].k != 0)with
   |true=>rw[Wb,XdJ N e g n (c+1) (k+1) aa aa aa,Wq (show VY e[k]=true from hb)];congr 1;omega
   |false=>rw[Wa,XdJ N e g n c (k+1) aa aa aa,Wk (show¬VY e[k]=true by unfold VY;rw[hb];simp)];rfl
  grind
def Xm0(hN:1000000<N){e:List Wv}(f:e.length<=100000):Qc7 N e=some ((e.countP VY:Nat):Int):=by rw[Qc7,show(0:Int)=((0:Nat):Int)from rfl,XdJ N e aa N 0 0 aa aa aa,Xa,W0,UG]
def Ki(e l:List Wv)(i:Nat):List Wv:=(e.take i++l)++e.drop (i+l.length)
def VZ{e l:List Wv}{i:Nat}(h:i+l.length<=e.length):(Ki e l i).length=e.length:=by unfold Ki;grind
def XfJ(l i k:Nat)(f r:Wv)(e:List Wv)(g:e.length<=100000)(j:i+k<=e.length):∀(n m:Nat),m<=k->k-m<n ->
 QeF N (i:Int) (k:Int) f r n (m:Int) (Ki e (List.replicate m r) i)=some (if((e.drop (i+m)).take (k-m)).any VY=true then .ret ([],20)else .nxt (Ki e (List.replicate k r) i))
 |0,m,_,h=>by omega
 |n+1,m,s,u=>by
  rw[QeF];by_cases o:m<k;case neg=>
   obtain rfl:m=k:=aa
   simp
  have p:(Ki e (List.replicate m r) i)[i+m]? = some (e[i+m]'aa):=by unfold Ki;rw[U3 (by grind),UO];simp only[WR,Wl,WV];rw[show i+m+(i+m-(min i e.length+m))=i+m by omega];exact Wc aa
  have q:(Ki e (List.replicate m r) i).set (i+m) r=Ki e (List.replicate (m+1) r) i:=by unfold Ki;rw[Iv _ _ (by grind)];simp only[WR,Wl,WV];rw[show i+m-(min i e.length+m)=0 by omega,Wu (show i+m<e.length by omega),Ip,List.replicate_succ',←UI (e.take i),UI (e.take i++List.replicate m r)];rfl
  have hw:wI ((i:Int)+(m:Int))=((i+m:Nat):Int):=by rw[Xd aa aa];omega
  rw[Wd aa,Wb,hw,Xe,p,Xa,Xa,Xg aa,show(((i+m:Nat):Int)).toNat=i+m from rfl,q];have hd:(e.drop (i+m)).take (k-m)=e[i+m]'aa::(e.drop (i+(m+1))).take (k-(m+1)):=by rw[Wu (show i+m<e.length by omega),show k-m=(k-(m+1))+1 by omega,List.take_succ_cons];rfl
  rw[hd,List.any_cons];cases hb:((e[i+m]'aa).k != 0)with
  |true=>rw[Wb,show VY (e[i+m]'aa)=true from hb,Bool.true_or,Wq rfl]
  |false=>rw[Wa,show VY (e[i+m]'aa)=false from hb,Ii];exact XfJ l i k f r e g j n (m+1) aa aa
def XkL{α:Type}(p:α->Bool)(l:List α):decide (((l.countP p:Nat):Int)>0)=l.any p:=by
 cases h:l.any p with
 |true=>simp_all
 |false=>simp_all
def Xhf(hN:1000000<N){ps:List Wv}(h:ps.length<=100000)(i:Int)(f r:Wv)(k:Nat)(s:1<=k)(p:k<=1000):QhP N ps i (f::List.replicate (k-1) r)=QdP N ps i (k:Int) f r:=by
 have e:(f::List.replicate (k-1) r).length=k:=by simp;omega
 rw[QhP,QdP,e];by_cases u:i<0
 .simp_all
 obtain⟨j,rfl⟩:∃j:Nat,i=(j:Int):=⟨i.toNat,aa⟩
 by_cases g:j+k<=ps.length;case neg=>
  by_cases o:(j:Int)>=(ps.length:Int)
  .rw[Wd o,Wb,Xd (n:=(ps.length:Int)-(k:Int)) aa aa,Wd (show(j:Int)>(ps.length:Int)-(k:Int) by omega),Wb]
  .rw[XW o,Wa,Xd (n:=(ps.length:Int)-(k:Int)) aa aa,Xd (n:=(ps.length:Int)-(j:Int)) aa aa,Wd (show(j:Int)>(ps.length:Int)-(k:Int) by omega),Wb,Wd (show(k:Int)>(ps.length:Int)-(j:Int) by omega),Wb]
 rw[Xd (n:=(ps.length:Int)-(k:Int)) aa aa,Xd (n:=(ps.length:Int)-(j:Int)) aa aa,XW (show¬(j:Int)>(ps.length:Int)-(k:Int) by omega),Wa,XW (show¬(j:Int)>=(ps.length:Int) by omega),Wa,XW (show¬(k:Int)>(ps.length:Int)-(j:Int) by omega),Wa];have hw:wI ((j:Int)+(k:Int))=((j+k:Nat):Int):=by rw[Xd aa aa];omega
 rw[hw,Xc aa,Xc aa,show(((j+k:Nat):Int)).toNat=j+k from rfl,show(j:Int).toNat=j from rfl,show j+k-j=k by omega,XbZ,Xm0 hN (by grind),Xa,XkL];have ht:=XfJ (N:=N) 0 j k f r ps h g N 0 aa aa;have l:Ki ps (List.replicate 0 r) j=ps:=by unfold Ki;simp
 rw[l,IR,Nat.sub_zero,show((0:Nat):Int)=0 from rfl]at ht;rw[ht,Xa];cases ((ps.drop j).take k).any VY with
 |true=>rw[Wb,Wq rfl,XE]
 |false=>
  rw[Wa,Wk ab,Xp,Qab,Xa,Xc aa,Xc aa];have q:(Ki ps (List.replicate k r) j).length=ps.length:=VZ (by simp_all);rw[Xe,Wc aa,Xa];unfold Ki;obtain⟨m,rfl⟩:∃m,k=m+1:=⟨k-1,aa⟩
  rw[WV,Iu,List.replicate_succ,List.set_append_left _ _ (by grind),Iv _ _ (by grind)];simp only[Wl];rw[show j-min j ps.length=0 by omega,Ip]
end
section
variable {N:Nat}
def XeO{α:Type}(sp:Int)(x y:α):(bif (!decide (sp=0\/sp=1))then x else y)=(bif (decide (sp<0))then x else bif (decide (sp>1))then x else y):=by grind
def XeP(hN:1000000<N){e:List Wv}(f:e.length<=100000)(i sp:Int):Qeq N e i sp=QbR N e i sp:=by rw[Qeq,QbR,Z6,Xa,XeO];have:=Xhf hN f i (Wv.mk 1 sp 0 0) (Wv.mk 0 0 0 0) 1 aa aa;simp_all
def XeQ(N:Nat)(e:List Wv)(i sp y:Int)(k:Nat)(g:y=(k:Int))(j:k<=1000)(f:Wv):∀(n m:Nat),m<=k-1->1<=k->k-m<n->QfB N e i sp y n (f::List.replicate m (Wv.mk 3 sp 0 0))=some (f::List.replicate (k-1) (Wv.mk 3 sp 0 0))
 |0,m,_,_,h=>by omega
 |n+1,m,q,l,r=>by
  have o:(f::List.replicate m (Wv.mk 3 sp 0 0)).length=m+1:=by simp
  rw[QfB,o,Xc aa];by_cases p:m+1<k
  .rw[Wd aa,Wb,Xc aa,IO,←List.replicate_succ'];exact XeQ N e i sp y k g j f n (m+1) aa l aa
  grind
def XkM(hN:1000000<N){e:List Wv}(f:e.length<=100000)(c:WW)(i sp w:Int):Qh3 N c e i sp w=Qeo N c e i sp w:=by
 rw[Qh3,Qeo,VT,ZG aa,Xa,Xa];by_cases h:XD c w<1
 .simp_all
 have l:=K0 c w;have⟨k,g⟩:∃k:Nat,XD c w=(k:Int):=⟨(XD c w).toNat,aa⟩
 rw[XW h,Wa,Wa,Z6,Xa,XeO];have j:=XeQ N e i sp (XD c w) k g aa (Wv.mk 2 sp w 0) N 0 aa aa aa;rw[show [(Wv.mk 2 sp w 0)]=Wv.mk 2 sp w 0::List.replicate 0 (Wv.mk 3 sp 0 0)from rfl,j,Xa,Xhf hN f i _ _ k aa aa,g]
def Xiu{v:Int}{k:Nat}(s:k<=63)(h:0<=v)(g:v<2 ^ k):XaW .u64 v (2 ^ k-1)=0:=by
 obtain⟨n,rfl⟩:=Uo h;have j:n<2 ^ k:=by
  have e:(2:Int) ^ k=((2 ^ k:Nat):Int):=by simp
  rw[e]at g;omega
 have hb:IntKind.u64.bits=64:=rfl;show IntKind.u64.wrap ((BitVec.ofInt IntKind.u64.bits n &&& ~~~ BitVec.ofInt IntKind.u64.bits (2 ^ k-1)).toNat:Int)=_;rw[hb];have f:(2:Int) ^ k-1=((2 ^ k-1:Nat):Int):=by
  have g:=Nat.one_le_two_pow (n:=k);have e:(2:Int) ^ k=((2 ^ k:Nat):Int):=by simp
  rw[e];omega
 have l:BitVec.ofInt 64 (n:Int)=BitVec.ofNat 64 n:=by simp
 have o:BitVec.ofInt 64 ((2 ^ k-1:Nat):Int)=BitVec.ofNat 64 (2 ^ k-1):=by simp
 rw[f,l,o];have p:BitVec.ofNat 64 n &&& ~~~ BitVec.ofNat 64 (2 ^ k-1)=0#64:=by
  apply BitVec.eq_of_getLsbD_eq;intro i q;simp only[BitVec.getLsbD_and,BitVec.getLsbD_not,BitVec.getLsbD_ofNat,q,decide_true,W8,BitVec.getLsbD_zero];by_cases r:i<k
  .simp_all
  rw[Nat.testBit_lt_two_pow (Iq j (IE aa aa))];simp
 rw[p];rfl
def XcE{a b:Int}{s:Nat}(p:s<=63)(f:0<=a)(h:a<2 ^ s)(g:0<=b)(hb:b*2 ^ s+a<=18446744073709551615):bOr .u64 a (b*2 ^ s)=a+b*2 ^ s:=by
 obtain⟨n,rfl⟩:=Uo f;obtain⟨m,rfl⟩:=Uo g;have j:(2:Int) ^ s=((2 ^ s:Nat):Int):=by simp
 rw[j]at h hb⊢;have q:(m:Int)*((2 ^ s:Nat):Int)=((m*2 ^ s:Nat):Int):=by simp
 have e:IntKind.u64.bits=64:=rfl;show IntKind.u64.wrap ((BitVec.ofInt IntKind.u64.bits n |||BitVec.ofInt IntKind.u64.bits ((m*2 ^ s:Nat):Int)).toNat:Int)=_;rw[e];have l:BitVec.ofInt 64 (n:Int)=BitVec.ofNat 64 n:=by simp
 have o:BitVec.ofInt 64 ((m*2 ^ s:Nat):Int)=BitVec.ofNat 64 (m*2 ^ s):=by rw[Oa]
 rw[l,o,BitVec.toNat_or,Ia,Ia,Im (show n<2 ^ 64 by omega),Im (show m*2 ^ s<2 ^ 64 by omega)];have:=Nat.shiftLeft_add_eq_or_of_lt (show n<2 ^ s by omega) m;rw[Nat.shiftLeft_eq]at this;rw[Nat.or_comm,←this];show wU _=_;rw[Xw aa aa];omega
end
section
variable {N:Nat}
def Xb1(hN:1000<N){w v:Int}(f:0<=w)(h:w<=63)(g:0<=v)(e:v<2 ^ w.toNat):Qcj N v w=some true:=by rw[Qcj,Y3 f aa hN,Xa,Xiu aa g e];rfl
def Xm1(hN:1000000<N){k l m:Int}(k0:0<=k)(k1:k<4)(g:0<=l)(V:l<4096)(h:0<=m)(W:m<4294967296):
 QfP N [(UF.mk 2 1),(UF.mk 2 k),(UF.mk 12 l),(UF.mk 32 m)]=some (1+k*4+l*16+m*65536,0):=by
 obtain⟨n,rfl⟩:∃n,N=n+5:=⟨N-5,aa⟩
 generalize f:[(UF.mk 2 1),(UF.mk 2 k),(UF.mk 12 l),(UF.mk 32 m)]=L;have e:L.length=4:=by rw[←f];rfl
 have j:Xb L 0=some (UF.mk 2 1):=by rw[←f];unfold Xb;rfl
 have g1:Xb L 1=some (UF.mk 2 k):=by rw[←f];unfold Xb;rfl
 have g2:Xb L 2=some (UF.mk 12 l):=by rw[←f];unfold Xb;rfl
 have g3:Xb L 3=some (UF.mk 32 m):=by rw[←f];unfold Xb;rfl
 have o:wI (0+1)=1:=Xd aa aa;have p:wI (1+1)=2:=Xd aa aa;have q:wI (2+1)=3:=Xd aa aa;have r:wI (3+1)=4:=Xd aa aa;have s:wI (64-2)=62:=Xd aa aa;have u:wI (62-2)=60:=Xd aa aa;have v:wI (60-12)=48:=Xd aa aa;have y:wI (48-32)=16:=Xd aa aa;have k2:wI (0+2)=2:=Xd aa aa;have z:wI (2+2)=4:=Xd aa aa;have A:wI (4+12)=16:=Xd aa aa;have B:wI (16+32)=48:=Xd aa aa;have D:Qbi (n+5) L (n+5) 64 0=some (.nxt ()):=by rw[Qbi,e,j];simp only[Xa,o,s];rw[Qbi,e,g1];simp only[Xa,p,u];rw[Qbi,e,g2];simp only[Xa,q,v];rw[Qbi,e,g3];simp only[Xa,r,y];rw[Qbi,e];rfl
 have E:Qcj (n+5) 1 2=some true:=Xb1 aa aa aa aa ae;have G:Qcj (n+5) k 2=some true:=Xb1 aa aa aa k0 (by show k<4;omega);have H:Qcj (n+5) l 12=some true:=Xb1 aa aa aa g (by show l<4096;omega);have I:Qcj (n+5) m 32=some true:=Xb1 aa aa aa h (by show m<4294967296;omega);have J:ZN .u64 1 0=1:=by decide +kernel
 have K:ZN .u64 k 2=k*2 ^ 2:=by show wU (k*4)=k*4;exact Xw aa aa
 have M:ZN .u64 l 4=l*2 ^ 4:=by show wU (l*16)=l*16;exact Xw aa aa
 have s3:ZN .u64 m 16=m*2 ^ 16:=by show wU (m*65536)=m*65536;exact Xw aa aa
 have O:bOr .u64 0 1=1:=by decide +kernel
 have R:bOr .u64 1 (k*2 ^ 2)=1+k*2 ^ 2:=XcE aa aa ae k0 aa;have S:bOr .u64 (1+k*2 ^ 2) (l*2 ^ 4)=1+k*2 ^ 2+l*2 ^ 4:=XcE aa aa aa g aa;have T:bOr .u64 (1+k*2 ^ 2+l*2 ^ 4) (m*2 ^ 16)=1+k*2 ^ 2+l*2 ^ 4+m*2 ^ 16:=XcE aa aa aa h aa;have U:QaO (n+5) L (n+5) 0 0 0=some (.nxt (1+k*2 ^ 2+l*2 ^ 4+m*2 ^ 16)):=by rw[QaO,e,j];simp only[Xa,E,o,k2,J,O];rw[Wd aa,Wb,Wi,Wa,Xc aa];rw[QaO,e,g1];simp only[Xa,G,p,z,K,R];rw[Wd aa,Wb,Wi,Wa,Xc aa];rw[QaO,e,g2];simp only[Xa,H,q,A,M,S];rw[Wd aa,Wb,Wi,Wa,Xc aa];rw[QaO,e,g3];simp only[Xa,I,r,B,s3,T];rw[Wd aa,Wb,Wi,Wa,Xc aa];rw[QaO,e];rw[Wh aa,Wa]
 simp[QfP,D,Xa,Xp,U]
def Xiv{d:WC}(e:tW d.Map)(h:XL d=true):0<=d.Map/\d.Map<4294967296:=by have⟨a,b⟩:=e;omega
def Xpv(hN:1000000<N){d:WC}(f:tW d.Map):QgH N d=Qc1 N d:=by
 rw[QgH,Jx aa,KX,Xa];cases e:XL d with
 |false=>rfl
 |true=>have hb:=XO e;have g:=Xiv f e;rw[Wi,Wa,Wq rfl,Xw (n:=d.k) aa aa,Xw (n:=d.n) aa aa,Xw (n:=d.Map) aa aa,Xm1 hN aa aa aa aa aa aa,Xa];congr 2;unfold Vx;have s:∀x:Int,ZN .u64 x 16=wU (x*65536):=λ_=>rfl;simp only[s,Xc3];omega
def XeR(hN:NB N){ws l:List Int}(hw:ws.length<=100000)(h:l.length<=1000){a:Int}(g:a<=18446744073709551615):QgR N ws a l=Qcv N ws a l:=by
 rw[QgR,XbW aa g,ZQ (by unfold BIG;omega) (by unfold BIG;omega) (by unfold NB at hN;omega),Xcs (by unfold BIG;omega) N a _ aa,Xa];by_cases e:4096<=a/\a<=4096+(ws.length:Int);case neg=>
  rw[Wk e,Wk (by unfold Yp;omega)];rfl
 rw[Wq e];by_cases f:a+(l.length:Int)<=4096+(ws.length:Int);case neg=>rw[Wh f,W7,Wb,Wk (by unfold Yp;omega)]
 rw[Wd f,Wi,Wa,Wq (by unfold Yp;omega),Qad,Xa,Xc aa,Xc aa];rfl
def XuC{n:Nat}(e:Int):(List.replicate (n+1) (0:Int)).set 0 e=[e]++List.replicate n (0:Int):=by rfl
def XdK(hN:NB N){h:Wm}(hb:HB h){a:Int}(j:a<=18446744073709551615){d:WC}(l:tW d.Map):QfX N h a d=Qbw N h a d:=by
 have e:1000000<N:=by unfold NB at hN;omega
 rw[QfX,Qbw,Xpv e l,KX,Xa,Xa,Yd hb.2 e];have⟨b,eb⟩:=Zu (N:=N) hN hb;cases g:XL d with
 |false=>rw[Wk ab,eb,Xa,Xa];simp
 |true=>
  have o:=XO g;rw[Wq rfl,eb,Xa,Xa];cases b with
  |false=>rfl
  |true=>
  have p:XF d=d.n+1:=by unfold XF;rw[Wq g]
  have⟨n,s⟩:∃n:Nat,d.n=(n:Int):=⟨d.n.toNat,aa⟩
  have ht:(d.n+1).toNat=n+1:=aa;have f:d.n.toNat=n:=aa;rw[Wi,Wa,Wa,YV aa,Xa,p,Xc aa,ht,f,Xc aa,Xc aa];have q:Xb (List.replicate (n+1) (0:Int)) 0=some 0:=by unfold Xb;simp
  rw[q,Xa,XuC,XeR hN hb.1 (by grind) j];have⟨w,r⟩:∃w,Qcv N h.w a ([Vx d]++List.replicate n (0:Int))=some w:=⟨_,ZQ (by unfold BIG;have:=hb.1;omega) (by unfold BIG;grind) (by grind) a⟩
  rw[r,Xa,Xa,Qfg];cases (w.2 != 0)with
  |true=>simp[Wb,Xa]
  |false=>simp[Wa,Qab,Xa]
end
section
variable {N:Nat}
def Xpw{α:Type}(q:α->Bool)(l:List α)(j:Nat)(x:α)(h:∀y,l[j]? = some y->q y=q x):(l.set j x).all q=l.all q:=by
 by_cases e:j<l.length
 .have f:l=l.take j++l[j]::l.drop (j+1):=by rw[List.getElem_cons_drop,List.take_append_drop]
  grind
 rw[List.set_eq_of_length_le aa]
def Xeb{α:Type}(l:List α)(i k j:Nat)(x:α):((l.set j x).drop i).take k=if i<=j then((l.drop i).take k).set (j-i) x else(l.drop i).take k:=by
 by_cases h:i<=j
 .rw[Wq h,List.drop_set,Wk aa,List.take_set]
 rw[Wk h,List.drop_set,Wq aa]
def Xm2{c:WW}{f:List Wv}{j:Nat}(l:j<f.length){x:Wv}(o:∀sp,Yc sp x=Yc sp f[j])(q:Yb c f j x=Yb c f j f[j])(i:Nat)(r:i<f.length):
 Yb c (f.set j x) i ((f.set j x)[i]'(by simp_all))=Yb c f i f[i]:=by
 have g:∀sp k,(((f.set j x).drop (i+1)).take k).all (Yc sp)=((f.drop (i+1)).take k).all (Yc sp):=by
  intro sp k;rw[Xeb];split
  .refine Xpw _ _ _ _ λy h=>?_;rw[Un]at h;split at h
   .rw[UO,show i+1+(j-(i+1))=j by omega,Wc l]at h;cases h;exact(o sp).symm
   cases h
  rfl
 have e:∀p,Yb c (f.set j x) i p=Yb c f i p:=by intro p;unfold Yb;simp only[WO,g]
 grind
def Xck{h:Wm}(l:h.p.length<=100000)(hN:1000000<N)(e:List Wv)(f:e.length=h.p.length)(j:∀i(o:i<h.p.length),Yb h.c e i (e[i]'aa)=Yb h.c h.p i h.p[i])(ws:List Int)(b:Int):∀(n i:Nat),i<=h.p.length->Qag N ⟨h.c,ws,e,h.s,b⟩ n (i:Int)=Qag N h n (i:Int)
 |0,i,_=>by rfl
 |n+1,i,o=>by
  rw[Qag,Qag];dsimp only;rw[f];by_cases g:i<h.p.length;case neg=>grind
  rw[Wd (show(i:Int)<_ by omega),Wb,Wb,KH aa hN aa,KH l hN g,j i g,Xa,Xa];have q:=Xdy (c:=h.c) g (p:=h.p[i]);generalize Yb h.c h.p i h.p[i]=s at *;by_cases r:s=0
  .simp_all
  rw[show((s:Int)==0)=false by simp_all,Wa,Wa,Xd aa aa,show(i:Int)+(s:Int)=((i+s:Nat):Int) by omega];exact Xck l hN e f j ws b n (i+s) aa
structure OU(h:Wm):Prop where
 conf:X8 h.c=true
 words:(h.w.length:Int)=h.c.p*h.c.W
 pages:(h.p.length:Int)=h.c.p
 space:0<=h.s/\h.s<=1
 bump:h.b = -1\/(0<=h.b/\h.b<h.p.length/\(pg h.p h.b).k=1)
def Uv.pre{h:Wm}(hp:Uv h):OU h:=⟨hp.conf,hp.words,hp.pages,hp.space,hp.bump⟩
def JA{h:Wm}(hp:OU h):QbS N h=bnd (Qag N h N 0) λe=>exK e (λr=>some r) λ_=>some true:=by
 have o:=Xo.1 hp.conf;have q:=XZ hp.conf (i:=0) aa aa;have hw:=hp.words;have f:=hp.pages;have g:((h.w.length:Int) != wI (h.c.W*h.c.p))=false:=by rw[Int.mul_comm,Xd aa aa];simpa using hw
 have j:((h.p.length:Int) != h.c.p)=false:=by simpa using f
 have e3:∀{α:Type} (x y z:α),(bif h.s != 0 then(bif h.s != 1 then x else y)else y)=y:=by
  intro α x y z;by_cases u:h.s=0
  .simp_all
  have v:h.s=1:=by have:=hp.space;omega
  simp_all
 rw[QbS];simp only[Xv,Jh,Xa,hp.conf,Wi,Wa,g,j];rw[e3 _ _ (some true)];rcases hp.bump with hb|⟨b0,l,b2⟩
 .simp_all
 rw[show(h.b != -1)=true by grind,Wb,XW (show¬h.b<0 by omega),Wa,XW (show¬h.b>=(h.p.length:Int) by omega),Wa,XH b0 l,Xa,b2];rfl
def Xcl{h:Wm}(hN:NB N)(hb:HB h)(ep:Qac N h=some true){e:List Wv}(f:e.length=h.p.length)(l:∀i(o:i<h.p.length),Yb h.c e i (e[i]'aa)=Yb h.c h.p i h.p[i]){ws:List Int}(hw:ws.length=h.w.length){b:Int}(g:b = -1\/(0<=b/\b<e.length/\(pg e b).k=1)):Qac N ⟨h.c,ws,e,h.s,b⟩=some true:=by
 have j:1000000<N:=by unfold NB at hN;omega
 have hp:=Yl hN hb ep;rw[←Yd (by rw[f];exact hb.2) j,JA (h:=⟨h.c,ws,e,h.s,b⟩) ⟨hp.conf,by rw[hw];exact hp.words,by rw[f];exact hp.pages,hp.space,g⟩];have:=Xck hb.2 j e f l ws b N 0 aa;rw[show((0:Nat):Int)=0 from rfl]at this;rw[this,←JA hp.pre,Yd hb.2 j,ep]
end
section
variable {N:Nat}
def Xb2(hN:NB N){h:Wm}(hb:HB h)(ep:Qac N h=some true){d:WC}(f:XL d=true){a:Int}(g:Yp h.w a (d.n.toNat+1)):∃j,Qbw N h a d=some (j,0):=by
 have l:=XO f;have⟨n,o⟩:∃n:Nat,d.n=(n:Int):=⟨d.n.toNat,aa⟩
 have e:d.n.toNat=n:=aa;rw[e]at g;rw[Qbw,KX,Wq f,ep,Xa,Xa,Wi,Wa];rw[show((0:Int) != 0)=false from rfl,Wa,Xc aa,e,Xc aa,ZQ (by unfold BIG;have:=hb.1;omega) (by unfold BIG;simp;omega) (by simp;unfold NB at hN;omega),Wq (by simpa using g),Xa];simp
def XfK(hN:1000000<N){ps:List Wv}(h:ps.length<=100000){i:Int}(f r:Wv)(k:Nat)(y:1<=k)(o:k<=1000)(q:RunOK ps i (k:Int)):QdP N ps i (k:Int) f r=some (Ki ps (f::List.replicate (k-1) r) i.toNat,0):=by
 have⟨z,_,A,s⟩:=q;obtain⟨j,rfl⟩:∃j:Nat,i=(j:Int):=⟨i.toNat,aa⟩
 have g:((ps.drop j).take k).any VY=false:=by
  rw[List.any_eq_false];intro p hp hb;obtain⟨m,u,rfl⟩:=WM hp;rw[Wl,Wn]at u;rw[Ij,IH]at hb;have:=s (m:Int) aa aa;have e:pg ps ((j:Int)+(m:Int))=ps[j+m]'aa:=by unfold pg;rw[show((j:Int)+(m:Int)).toNat=j+m by omega,Wr,Wc aa];rfl
  rw[e]at this;unfold VY at hb;rw[this]at hb;cases hb
 have ht:=XfJ (N:=N) 0 j k f r ps h aa N 0 aa aa;have l:Ki ps (List.replicate 0 r) j=ps:=by unfold Ki;simp
 rw[l,IR,Nat.sub_zero,show((0:Nat):Int)=0 from rfl,g,Wk ab]at ht;rw[QdP,XW (show¬(j:Int)<0 by omega),Wa,XW (show¬(j:Int)>=(ps.length:Int) by omega),Wa,Xd (n:=(ps.length:Int)-(j:Int)) aa aa,XW (show¬(k:Int)>(ps.length:Int)-(j:Int) by omega),Wa,Xc aa,ht,Xa,Xp];have v:(Ki ps (List.replicate k r) j).length=ps.length:=VZ (by grind);rw[Xe,Wc aa,Xa,show(j:Int).toNat=j from rfl];unfold Ki;obtain⟨m,rfl⟩:∃m,k=m+1:=⟨k-1,aa⟩
 rw[WV,Iu,Um,WV,List.replicate_succ,List.set_append_left _ _ (by grind),Iv _ _ (by grind)];simp only[Wl];rw[show j-min j ps.length=0 by omega,Ip]
end
section
variable {N:Nat}
def XeS{c:WW}{e:List Wv}{j:Nat}{p:Wv}(f:p.k=1)(g:0<=p.s/\p.s<=1)(hp:0<=p.P/\p.P<=2147483647)(h:0<=p.u/\p.u<=c.W):Yb c e j p=1:=by unfold Yb;grind
def Xiw{c:WW}{e:List Wv}{j:Nat}:Yb c e j Jr=1:=rfl
def Xbv{e:List Wv}{j:Nat}(f:j<e.length):pg e (j:Int)=e[j]:=by unfold pg;simp_all
def Xhg(hN:NB N){h:Wm}(hb:HB h)(ep:Qac N h=some true){j:Nat}(f:j<h.p.length){x:Wv}(q:x.k=1)(r:0<=x.s/\x.s<=1)(l:0<=x.P/\x.P<=2147483647)(v:0<=x.u/\x.u<=h.c.W)(g:h.p[j].k=0\/h.p[j].k=1){b:Int}(o:b=(j:Int)):Qac N ⟨h.c,h.w,h.p.set j x,h.s,b⟩=some true:=by
 have hp:=Yl hN hb ep;have e:=hp.pgs (j:Int) aa aa;have y:Yb h.c h.p j h.p[j]=1:=by
  rcases g with g|g
  .have:=e.free (by simp_all[Xbv,f]);rw[Xbv f]at this;rw[this];rfl
  have a:=e.space;have b:=e.pins;have c:=e.small (by simp_all[Xbv,f]);rw[Xbv f]at a b c;exact XeS g a b c
 have A:∀(p:Wv) (sp:Int),p.k=0\/p.k=1->Yc sp p=false:=by intro p sp h;unfold Yc Kh;rw[show(p.k==3)=false by grind];rfl
 refine Xcl hN hb ep ab (λi z=>Xm2 f (λsp=>by simp_all) ?_ i z) rfl (.inr ⟨aa,by simp_all,?_⟩)
 .rw[y];exact XeS q r l v
 unfold pg;simp_all
def Xhh(N:Nat)(h:Wm)(n u first:Int):Option (Nat×Int):=
 if 0<=h.b/\u<=KZ h.c/\(pg h.p h.b).s=h.s/\(pg h.p h.b).u+n<=h.c.W then some (h.b.toNat,(pg h.p h.b).u)
 else if 0<=first/\u<KZ h.c then some (first.toNat,0)else none
def JL(h:Wm)(n:Int)(j:Nat)(at_:Int):Wm:=⟨h.c,h.w,h.p.set j ⟨1,h.s,at_+n,(pg h.p (j:Int)).P⟩,h.s,(j:Int)⟩
def Xb3(hN:NB N){h:Wm}(hb:HB h)(hp:Uv h){n u f:Int}(Z:0<=n/\n<=300)(I:Qc7 N h.p=some u)(G:Qby N h.p 1=some f):
 Qe5 N h n=some (match Xhh N h n u f with|some (j,a)=>(JL h n j a,Xj h.c (j:Int) a,true)|none=>(zHp,0,false)):=by
 have r:1000000<N:=by unfold NB at hN;omega
 have v:=hb.2;have hpages:=hp.pages;have J:=Xo.1 hp.conf;have fresh:(bif decide (f<0)then some (zHp,(0:Int),false)else bif decide (u>=KZ h.c)then some (zHp,0,false)else bnd (QbR N h.p f h.s) λq=>bnd (Xb q.1 f) λy=>bnd (Xb q.1 f) λz=>bnd (Xb q.1 f) λl=>some ((Wm.mk h.c h.w (q.1.set f.toNat (Wv.mk l.k l.s (wI (z.u+n)) l.P)) h.s f),(wU (wI ((wI (4096+(wI (f*h.c.W))))+y.u))),true))=some (match (if 0<=f/\u<KZ h.c then some (f.toNat,(0:Int))else none)with|some (j,a)=>(JL h n j a,Xj h.c (j:Int) a,true)|none=>(zHp,0,false)):=by
  by_cases K:f<0
  .grind
  by_cases L:u>=KZ h.c
  .grind
  rw[XW K,Wa,XW L,Wa,Wq aa]
  have g:RunOK h.p f 1:=by
   rcases(Zl (N:=N) (ps:=h.p) 1 aa aa).get_eq G with A|A
   .omega
   .omega
  obtain⟨j,rfl⟩:∃j:Nat,f=(j:Int):=⟨f.toNat,aa⟩
  have H:j<h.p.length:=by have:=g.2.2.1;omega
  have M:=hp.space
  have O:=XZ hp.conf (i:=(j:Int)) aa aa
  have R:=XfK r v (Wv.mk 1 h.s 0 0) (Wv.mk 0 0 0 0) 1 aa aa g
  have B:QdP N h.p (j:Int) 1 (Wv.mk 1 h.s 0 0) (Wv.mk 0 0 0 0)=_:=R
  have o:Ki h.p (Wv.mk 1 h.s 0 0::List.replicate (1-1) (Wv.mk 0 0 0 0)) j=h.p.set j (Wv.mk 1 h.s 0 0):=by
   unfold Ki
   rw[List.set_eq_take_append_cons_drop,Wq H];simp
  rw[QbR,XW (show¬h.s<0 by omega),Wa,XW (show¬h.s>1 by omega),Wa,B,show(j:Int).toNat=j from rfl,o,Xa,Xa]
  have S:Xb (h.p.set j (Wv.mk 1 h.s 0 0)) (j:Int)=some (Wv.mk 1 h.s 0 0):=by
   rw[Xe,IQ H]
  dsimp only
  have T:(pg h.p (j:Int)).P=0:=by
   have:=(hp.pgs (j:Int) aa aa).free (by have:=g.2.2.2 0 aa aa;assumption)
   rw[this];rfl
  simp only[S,Xa]
  unfold JL Xj
  rw[List.set_set,T,Xd (n:=0+n) aa aa,Xd (n:=(j:Int)*h.c.W) aa aa,Xd (n:=4096+(j:Int)*h.c.W) aa aa,Xd (n:=4096+(j:Int)*h.c.W+0) aa aa,Xw aa aa]
 rw[Qe5,Xc aa,XbL,Xa,I,Xa,Xv,G];simp only[Xa];unfold Xhh;by_cases b0:h.b<0
 .grind
 have e:0<=h.b/\h.b<h.p.length/\(pg h.p h.b).k=1:=by
  rcases hp.bump with A|A
  .omega
  omega
 have D:=hp.pgs h.b e.1 e.2.1;have U:=D.small e.2.2;have O:=XZ hp.conf (i:=h.b) aa aa;rw[XW b0,Wa,XH e.1 e.2.1];simp only[Xa];rw[Xd (n:=(pg h.p h.b).u+n) aa aa];by_cases V:(pg h.p h.b).s=h.s;case neg=>grind
 rw[show((pg h.p h.b).s != h.s)=false by simp_all,Wa];by_cases b2:(pg h.p h.b).u+n>h.c.W
 .grind
 by_cases Y:u>KZ h.c
 .grind
 rw[XW b2,Wa,XW Y,Wa,Wq (c:=0<=h.b/\u<=KZ h.c/\_) aa];dsimp only;unfold JL Xj;have E:(h.b.toNat:Int)=h.b:=aa;rw[E,e.2.2,V,Xd (n:=h.b*h.c.W) aa aa,Xd (n:=4096+h.b*h.c.W) aa aa,Xd (n:=4096+h.b*h.c.W+(pg h.p h.b).u) aa aa,Xw aa aa]
end
section
variable {N:Nat}
def Xhi(hN:NB N){h:Wm}(hb:HB h)(hp:Uv h){n u f:Int}(V:0<=n/\n<=300)(G:XD h.c n=0)(H:Qc7 N h.p=some u)(D:Qby N h.p 1=some f):
 Qff N h n=some (match Xhh N h n u f with|some (j,a)=>(JL h n j a,⟨(j:Int),a⟩,0)|none=>(zHp,⟨0,0⟩,3)):=by
 have o:1000000<N:=by unfold NB at hN;omega
 have q:=hb.2;have I:=Xo.1 hp.conf;have fresh:(bif decide (f>=0)then(bif decide (u<KZ h.c)then(bnd (Qeq N h.p f h.s) λl=>bif (l.2 != 0)then some (zHp,(I5.mk 0 0),l.2)else bnd (Xb l.1 f) λr=>some ((Wm.mk h.c h.w (l.1.set f.toNat (Wv.mk r.k r.s n r.P)) h.s f),(I5.mk f 0),0))else some (zHp,(I5.mk 0 0),3))else some (zHp,(I5.mk 0 0),3))=some (match (if 0<=f/\u<KZ h.c then some (f.toNat,(0:Int))else none)with|some (j,a)=>(JL h n j a,I5.mk (j:Int) a,(0:Int))|none=>(zHp,I5.mk 0 0,3)):=by
  by_cases J:f>=0
  case neg=>grind
  by_cases K:u<KZ h.c
  case neg=>grind
  rw[Wd J,Wb,Wd K,Wb,Wq aa]
  have g:RunOK h.p f 1:=by
   rcases(Zl (N:=N) (ps:=h.p) 1 aa aa).get_eq D with y|y
   .omega
   .omega
  obtain⟨j,rfl⟩:∃j:Nat,f=(j:Int):=⟨f.toNat,aa⟩
  have E:j<h.p.length:=by have:=g.2.2.1;omega
  have L:=hp.space
  have M:=XfK o q (Wv.mk 1 h.s 0 0) (Wv.mk 0 0 0 0) 1 aa aa g
  have z:QdP N h.p (j:Int) 1 (Wv.mk 1 h.s 0 0) (Wv.mk 0 0 0 0)=_:=M
  have v:Ki h.p (Wv.mk 1 h.s 0 0::List.replicate (1-1) (Wv.mk 0 0 0 0)) j=h.p.set j (Wv.mk 1 h.s 0 0):=by
   unfold Ki
   rw[List.set_eq_take_append_cons_drop,Wq E];simp
  rw[XeP o q,QbR,XW (show¬h.s<0 by omega),Wa,XW (show¬h.s>1 by omega),Wa,z,show(j:Int).toNat=j from rfl,v,Xa,Xa]
  have O:Xb (h.p.set j (Wv.mk 1 h.s 0 0)) (j:Int)=some (Wv.mk 1 h.s 0 0):=by
   rw[Xe,IQ E]
  dsimp only
  have R:(pg h.p (j:Int)).P=0:=by
   have:=(hp.pgs (j:Int) aa aa).free (by have:=g.2.2.2 0 aa aa;assumption)
   rw[this];rfl
  rw[show((0:Int) != 0)=false from rfl,Wa,O,Xa]
  unfold JL
  rw[List.set_set,R,Int.zero_add]
 rw[Qff,XbZ,H,Xa,XjA,Xa,VT,G,Xa,XW (show¬(0:Int)>0 by omega),Wa,Xb0 o q,D];simp only[Xa,Xv];unfold Xhh;by_cases b0:h.b>=0;case neg=>grind
 have e:0<=h.b/\h.b<h.p.length/\(pg h.p h.b).k=1:=by
  rcases hp.bump with y|y
  .omega
  omega
 have A:=hp.pgs h.b e.1 e.2.1;have S:=A.small e.2.2;rw[Wd b0,Wb];by_cases T:u<=KZ h.c;case neg=>grind
 rw[Wd T,Wb,XH e.1 e.2.1,Xa];by_cases U:(pg h.p h.b).s=h.s;case neg=>grind
 rw[show((pg h.p h.b).s==h.s)=true by simp_all,Wb,Xd (n:=h.c.W-(pg h.p h.b).u) aa aa];by_cases b2:n<=h.c.W-(pg h.p h.b).u;case neg=>grind
 rw[Wd b2,Wb,Wq (c:=0<=h.b/\u<=KZ h.c/\_) aa,Qab,Xa,XH e.1 e.2.1,Xa,Xa];dsimp only;unfold JL;have B:(h.b.toNat:Int)=h.b:=aa;rw[B,e.2.2,U,Xd (n:=(pg h.p h.b).u+n) aa aa]
def Xm3(hN:NB N){h:Wm}(hb:HB h)(ep:Qac N h=some true){n u f:Int}(E:1<=n/\n<=h.c.W)(D:Qby N h.p 1=some f){j:Nat}{a:Int}(g:Xhh N h n u f=some (j,a)):j<h.p.length/\0<=a/\a+n<=h.c.W/\Qac N (JL h n j a)=some true:=by
 have hp:=Yl hN hb ep;have G:=hb.2;have y:=hp.space;unfold Xhh at g;split at g
 .cases g;have e:0<=h.b/\h.b<h.p.length/\(pg h.p h.b).k=1:=by
   rcases hp.bump with z|z
   .omega
   exact z
  have l:=hp.pgs h.b e.1 e.2.1;have A:=l.small e.2.2;have q:(h.b.toNat:Int)=h.b:=aa;have r:h.b.toNat<h.p.length:=aa;refine⟨r,A.1,aa,?_⟩;unfold JL;rw[q];refine Xhg (x:=⟨1,h.s,(pg h.p h.b).u+n,(pg h.p h.b).P⟩) hN hb ep r rfl y l.pins (by show 0<=(pg h.p h.b).u+n/\_;exact⟨aa,by show(pg h.p h.b).u+n<=_;omega⟩) (.inr ?_) q.symm;rw[←Xbv r,q];omega
 split at g
 .cases g;have o:RunOK h.p f 1:=by
   rcases(Zl (N:=N) (ps:=h.p) 1 aa (by unfold NB at hN;omega)).get_eq D with z|z
   .omega
   exact z
  have H:=o.2.2.1;have v:(f.toNat:Int)=f:=aa;have r:f.toNat<h.p.length:=aa;have B:(pg h.p f).k=0:=by have:=o.2.2.2 0 aa aa;simpa using this
  refine⟨r,aa,aa,?_⟩;unfold JL;have l:=hp.pgs f aa aa;rw[v];refine Xhg (x:=⟨1,h.s,0+n,(pg h.p f).P⟩) hN hb ep r rfl y l.pins (by show 0<=0+n/\_;exact⟨aa,by show 0+n<=_;omega⟩) (.inl ?_) v.symm;rw[←Xbv r,v];exact B
 simp_all
end
section
variable {N:Nat}
def Xbw(hN:1000000<N)(c:WW)(d:WC):QcA N c d=some (XL d&&(d.k != 0&&XD c (XF d) != -1)):=by rw[QcA,Zq,Xa,X5];simp only[Xa,ZG (show 10<=N by omega)];grind
def XdL{h:Wm}(hb:HB h)(n:Int)(j:Nat)(a:Int):HB (JL h n j a):=⟨hb.1,by show(h.p.set j _).length<=_;rw[WO];exact hb.2⟩
def Xix(hN:NB N){h:Wm}(hb:HB h){d:WC}(y:tW d.Map)(g:XD h.c (XF d)=0):Qfa N h d=Qch N h d:=by
 have e:1000000<N:=by unfold NB at hN;omega
 have z:=hb.2;rw[Qfa,Qch,Yd z e,Jz e];have⟨b,eb⟩:=Zu (N:=N) hN hb;rw[eb,Xa,Xa];cases b with
 |false=>rfl
 |true=>
 rw[Wi,Wa,Wa,Xbw e,Xa,Xa];cases l:XL d with
 |false=>rfl
 |true=>
 cases A:(d.k != 0)with
 |false=>rfl
 |true=>
 have hp:=Yl hN hb eb;have B:=XO l;have K:XF d=d.n+1:=by unfold XF;rw[Wq l]
 have D:1<=XF d/\XF d<=h.c.W:=by
  have s:1<=XF d:=aa;refine⟨s,?_⟩;unfold XD at g;rw[Wq ⟨hp.conf,s⟩]at g;by_cases E:XF d<=h.c.W / 4
  .omega
  omega
 have⟨u,v,_⟩:=VO (N:=N) (ps:=h.p) aa aa;have⟨f,o,_⟩:=Zl (N:=N) (ps:=h.p) 1 aa aa;simp only[show((0:Int) != -1)=true from rfl,II,Wi,Wa,YV (show 1000<N by omega),X5,Xa,ZG (show 10<=N by omega),g,Xb3 hN hb hp (n:=XF d) ⟨aa,aa⟩ v o,Xhi hN hb hp (n:=XF d) ⟨aa,aa⟩ g v o,Xv,show decide ((0:Int)>0)=false from rfl];cases q:Xhh N h (XF d) u f with
 |none=>rfl
 |some G=>
  have⟨j,a⟩:=G;have⟨L,M,O,H⟩:=Xm3 hN hb eb D o q;have I:=hp.pages;have R:=XZ hp.conf (i:=(j:Int)) aa aa;have hw:=hp.words;dsimp only;have r:Yp (JL h (XF d) j a).w (Xj h.c (j:Int) a) (d.n.toNat+1):=by
   unfold Yp Xj;show _/\_<=4096+(h.w.length:Int);constructor
   .omega
   omega
  have⟨S,J⟩:=Xb2 hN (XdL hb _ j a) H l r;rw[show((0:Int) != 0)=false from rfl,Wa,VU,K1,Wk (by simp[hp.conf]),Wq aa,Xa];rw[show((0:Int) != 0)=false from rfl,Wa,XdK hN (XdL hb _ j a) (by unfold Xj;omega) y,J,Xa];rw[show((0:Int) != 0)=false from rfl,Wa,Wi,Wa];rw[Xa]
end
section
variable {N:Nat}
def Xm4{e l:List Wv}{j:Nat}(h:j+l.length<=e.length)(i:Nat):(Ki e l j)[i]? = if i<j then e[i]? else if i<j+l.length then l[i-j]? else e[i]?:=by unfold Ki;grind
def XkN{α:Type}(q:α->Bool){l e:List α}(f:l.length=e.length)(h:(∀i:Nat,l[i]? = e[i]?)\/∃(i:Nat) (x y:α),l[i]? = some x/\e[i]? = some y/\q x=false/\q y=false):l.all q=e.all q:=by
 rcases h with h|⟨i,x,y,g,j,o,p⟩
 .rw[List.ext_getElem? h]
 grind
def Xm5{c:WW}{ps:List Wv}{i:Nat}{p:Wv}{s:Nat}(h:Yb c ps i p=s)(e:2<=s):((ps.drop (i+1)).take (s-1)).all (Yc p.s)=true/\s<=ps.length-i:=by unfold Yb at h;grind
def Xm6{c:WW}{f e:List Wv}(g:e.length=f.length){i:Nat}(hd:∀m sp,((e.drop (i+1)).take m).all (Yc sp)=((f.drop (i+1)).take m).all (Yc sp))(p:Wv):Yb c e i p=Yb c f i p:=by unfold Yb;simp_all
def XdM{h:Wm}(e:h.p.length<=100000)(hN:1000000<N):∀(k n j:Nat),j+k<=h.p.length->(∀m,m<k->∀(g:j+m<h.p.length),h.p[j+m]=Jr)->Qag N h (n+k) (j:Int)=Qag N h n ((j+k:Nat):Int)
 |0,n,j,_,_=>rfl
 |k+1,n,j,o,f=>by rw[show n+(k+1)=(n+k)+1 from rfl,Qag,Wd aa,Wb,KH e hN (show j<h.p.length by omega),Xa];have:=f 0 aa aa;simp at this;rw[this,Xiw,show((((1:Nat)):Int)==0)=false from rfl,Wa,show((1:Nat):Int)=1 from rfl,Xg aa,XdM e hN k n (j+1) aa (λm g l=>by have:=f (m+1) aa aa;simpa only[show j+(m+1)=j+1+m by omega]using this)];grind
def XdN(hN:NB N){h:Wm}(hb:HB h)(ep:Qac N h=some true){j k:Nat}(hk:1<=k)(hr:RunOK h.p (j:Int) (k:Int)){w:Int}(hw:XD h.c w=(k:Int)):Qac N ⟨h.c,h.w,Ki h.p (Wv.mk 2 h.s w 0::List.replicate (k-1) (Wv.mk 3 h.s 0 0)) j,h.s,h.b⟩=some true:=by
 have l:1000000<N:=by unfold NB at hN;omega
 have hp:=Yl hN hb ep;have I:=hb.2;have hsp:=hp.space;have⟨_,_,hfit,z⟩:=hr;generalize H:(Wv.mk 2 h.s w 0::List.replicate (k-1) (Wv.mk 3 h.s 0 0))=L;have J:L.length=k:=by rw[←H];simp;omega
 have B:j+L.length<=h.p.length:=aa;have o:(Ki h.p L j).length=h.p.length:=VZ B;have K:∀m,m<k->∀(M:j+m<h.p.length),h.p[j+m]=Jr:=by intro m M u;have:=(hp.pgs ((j:Int)+m) aa aa).free (z m aa aa);rw[show(j:Int)+(m:Int)=((j+m:Nat):Int) by omega,Xbv u]at this;exact this
 generalize hq:Ki h.p L j=e at *;have g:∀i,e[i]? = if i<j then h.p[i]? else if i<j+k then L[i-j]? else h.p[i]?:=by intro i;rw[←hq,Xm4 B,J]
 have v:∀i(hi:i<h.p.length),(i<j\/j+k<=i)->e[i]'aa=h.p[i]:=by
  intro i hi r;have a:=g i;rw[Wc aa,Wc hi]at a;rcases r with r|r
  .simp_all
  grind
 have D:∀i,(i<j\/j+k<=i)->∀m sp,((e.drop (i+1)).take m).all (Yc sp)=((h.p.drop (i+1)).take m).all (Yc sp):=by
  intro i r m sp;refine XkN _ (by simp_all) ?_;by_cases hcov:i<j/\j<i+1+m
  .right;refine⟨j-(i+1),Wv.mk 2 h.s w 0,Jr,?_,?_,rfl,rfl⟩
   .rw[Un,Wq aa,UO,show i+1+(j-(i+1))=j by omega,g,Wk aa,Wq aa,IU,←H];rfl
   grind
  grind
 have main:∀(m i n f:Nat),h.p.length-i<=m->i<=h.p.length->(i<=j\/j+k<=i)->h.p.length-i+200<n->h.p.length-i+200<f->Qag N ⟨h.c,h.w,e,h.s,h.b⟩ n (i:Int)=Qag N h f (i:Int):=by
  intro m;induction m with
  |zero=>
   intro i n f h1 h2 h3 h4 h5;obtain⟨n,rfl⟩:∃q,n=q+1:=⟨n-1,aa⟩
   obtain⟨f,rfl⟩:∃q,f=q+1:=⟨f-1,aa⟩
   rw[Qag,Qag];grind
  |succ m ih=>
   intro i n f h1 h2 h3 h4 h5;by_cases u:i<h.p.length;case neg=>
    grind
   by_cases O:i=j
   .subst O;obtain⟨n,rfl⟩:∃q,n=q+1:=⟨n-1,aa⟩
    obtain⟨f,rfl⟩:∃q,f=q+k:=⟨f-k,aa⟩
    rw[XdM I l k f i aa K,Qag];dsimp only;have hx:e[i]'aa=Wv.mk 2 h.s w 0:=by have a:=g i;rw[Wc aa,Wk aa,Wq aa,IU,←H]at a;exact WG a
    have R:((e.drop (i+1)).take (k-1)).all (Yc h.s)=true:=by
     rw[Ud];intro y hy;obtain⟨q,S,rfl⟩:=WM hy;rw[Wl,Wn]at S;have a:=g (i+1+q);have T:L[i+1+q-i]? = some (Wv.mk 3 h.s 0 0):=by rw[←H,show i+1+q-i=q+1 by omega,List.getElem?_cons_succ,List.getElem?_replicate,Wq aa]
     rw[Wc aa,Wk aa,Wq aa,T]at a;rw[Ij,IH,WG a];simp[Yc,Kh]
    have U:Yb h.c e i (e[i]'aa)=k:=by rw[hx];unfold Yb;have V:(XD h.c w).toNat=k:=aa;rw[Wk (show¬(2:Int)=0 by omega),Wq (by grind),Wk (show¬(2:Int)=1 by omega),Wq rfl];dsimp only;rw[V,Wq ⟨aa,aa,R⟩]
    rw[Wd aa,Wb,KH aa l aa,U,Xa,show((k:Int)==0)=false by grind,Wa,Xd aa aa,show(i:Int)+(k:Int)=((i+k:Nat):Int) by omega];exact ih (i+k) n f aa aa (.inr aa) aa aa
   have r:i<j\/j+k<=i:=aa;obtain⟨n,rfl⟩:∃q,n=q+1:=⟨n-1,aa⟩
   obtain⟨f,rfl⟩:∃q,f=q+1:=⟨f-1,aa⟩
   rw[Qag,Qag];dsimp only;rw[o,Wd aa,Wb,Wb,KH aa l aa,KH I l u,v i u r,Xm6 o (D i r),Xa,Xa];have E:=Xm5 (c:=h.c) (ps:=h.p) (i:=i) (p:=h.p[i]) rfl;generalize Yb h.c h.p i h.p[i]=s at *;by_cases h0:s=0
   .simp_all
   rw[show((s:Int)==0)=false by simpa using h0,Wa,Wa,Xd aa aa,show(i:Int)+(s:Int)=((i+s:Nat):Int) by omega];refine ih (i+s) n f aa aa ?_ aa aa;rcases r with r|r
   .left;by_cases W:2<=s
    .have⟨ha,_⟩:=E W;by_cases Y:i+s<=j
     .exact Y
     rw[Ud]at ha;have M:Jr∈(h.p.drop (i+1)).take (s-1):=by refine Ue (i:=j-(i+1)) ?_;rw[Un,Wq aa,UO,show i+1+(j-(i+1))=j by omega,Wc aa];have:=K 0 aa aa;simp only[IR]at this;rw[this]
     have:=ha _ M;cases this
    omega
   omega
 have A:h.b = -1\/(0<=h.b/\h.b<e.length/\(pg e h.b).k=1):=by
  rcases hp.bump with hh|⟨b0,b1,b2⟩
  .omega
  have⟨q,Z⟩:∃q:Nat,h.b=(q:Int):=⟨h.b.toNat,aa⟩
  rw[Z]at b1 b2⊢;have G:q<h.p.length:=aa;rw[Xbv G]at b2;by_cases hin:q<j\/j+k<=q
  .rw[Xbv aa,v q G hin];omega
  have:=K (q-j) aa aa;simp only[show j+(q-j)=q by omega]at this;rw[this]at b2;cases b2
 rw[←Yd (by simp_all) l,JA (h:=⟨h.c,h.w,e,h.s,h.b⟩) ⟨hp.conf,hp.words,by rw[o];exact hp.pages,hp.space,A⟩];have:=main h.p.length 0 N N aa aa (.inl aa) aa aa;rw[show((0:Nat):Int)=0 from rfl]at this;rw[this,←JA hp.pre,Yd I l,ep]
end
section
variable {N:Nat}
def Xb4(h:Wm)(n:Int)(j k:Nat):Wm:=⟨h.c,h.w,Ki h.p (Wv.mk 2 h.s n 0::List.replicate (k-1) (Wv.mk 3 h.s 0 0)) j,h.s,h.b⟩
def Xhj(hN:1000000<N){h:Wm}(e:h.p.length<=100000)(hp:Uv h){n:Int}{j k:Nat}(f:1<=k)(g:k<=4)(hw:XD h.c n=(k:Int))(l:RunOK h.p (j:Int) (k:Int)):Qeo N h.c h.p (j:Int) h.s n=some ((Xb4 h n j k).p,0):=by have o:=hp.space;rw[Qeo,ZG aa,Xa,hw,XW (show¬(k:Int)<1 by omega),Wa,XW (show¬h.s<0 by omega),Wa,XW (show¬h.s>1 by omega),Wa,XfK hN e _ _ k f aa l,Xa];rfl
def Xhk{h:Wm}(hb:HB h)(n:Int){j k:Nat}(e:1<=k)(f:j+k<=h.p.length):HB (Xb4 h n j k):=⟨hb.1,by
 show(Ki h.p _ j).length<=_
 rw[VZ (by simp_all)];exact hb.2⟩
def Xiy(hN:NB N){h:Wm}(hb:HB h){d:WC}(S:tW d.Map)(z:0<XD h.c (XF d)):Qfa N h d=Qch N h d:=by
 have e:1000000<N:=by unfold NB at hN;omega
 have y:=hb.2;rw[Qfa,Qch,Yd y e,Jz e];have⟨b,eb⟩:=Zu (N:=N) hN hb;rw[eb,Xa,Xa];cases b with
 |false=>rfl
 |true=>
 rw[Wi,Wa,Wa,Xbw e,Xa,Xa];cases A:XL d with
 |false=>rfl
 |true=>
 cases T:(d.k != 0)with
 |false=>rfl
 |true=>
 have hp:=Yl hN hb eb;have U:=Xo.1 hp.conf;have V:=XO A;have hpages:=hp.pages;have hs:XF d=d.n+1:=by unfold XF;rw[Wq A]
 have B:=K0 h.c (XF d);have⟨k,o⟩:∃k:Nat,XD h.c (XF d)=(k:Int):=⟨(XD h.c (XF d)).toNat,aa⟩
 have l:=Xfp hp.conf (w:=XF d) aa;rw[o]at l z B⊢;have⟨u,H,hu⟩:=VO (N:=N) (ps:=h.p) aa aa;have⟨f1,D,_⟩:=Zl (N:=N) (ps:=h.p) 1 aa aa;have⟨f,I,Y⟩:=Zl (N:=N) (ps:=h.p) (k:Int) aa aa;have J:0<=KZ h.c/\KZ h.c<=16:=by unfold KZ;rw[Wq hp.conf];omega
 have Z:((k:Int) != -1)=true:=by simp
 simp only[Z,II,Wi,Wa,YV (show 1000<N by omega),X5,Xa,ZG (show 10<=N by omega),o,Xb3 hN hb hp (n:=XF d) ⟨aa,aa⟩ H D,Xv,Wd (show(k:Int)>0 by omega),Wb];rw[Qe6,I,Xa,Qff,XbZ,H,Xa,XjA,Xa,VT,o,Xa,Wd (show(k:Int)>0 by omega),Wb,Xb0 e y,I,Xa,Xv];by_cases K:f>=0;case neg=>
  rw[Wh K,Wa,Xa,Wd (show f<0 by omega),Wb,Xa];rfl
 rw[Wd K,Wb,XW (show¬f<0 by omega),Wa,XbL];simp only[Xa];rw[Xd (n:=KZ h.c-(k:Int)) aa aa,Xd (n:=u+(k:Int)) aa aa];by_cases L:u<=KZ h.c-(k:Int);case neg=>
  rw[Wh L,Wa,Xa,Wd (show u+(k:Int)>KZ h.c by omega),Wb,Xa];rfl
 rw[Wd L,Wb,XW (show¬u+(k:Int)>KZ h.c by omega),Wa,XkM e y];have g:RunOK h.p f (k:Int):=by
  rcases Y with M|M
  .omega
  exact M
 obtain⟨j,rfl⟩:∃j:Nat,f=(j:Int):=⟨f.toNat,aa⟩
 have O:=g.2.2.1;rw[Xhj e y hp aa aa o g];simp only[Xa];have E:=XdN hN hb eb aa g o;have q:=Xhk hb (XF d) (j:=j) (k:=k) aa aa;have hm:=XZ hp.conf (i:=(j:Int)) aa aa;have hw:=hp.words;have r:((j:Int)+(k:Int))*h.c.W<=h.c.p*h.c.W:=Ut aa aa;rw[IF]at r;have G:Yp (Xb4 h (XF d) j k).w (Xj h.c (j:Int) 0) (d.n.toNat+1):=by
  unfold Yp Xj;show _/\_<=4096+(h.w.length:Int);constructor
  .omega
  have:(((d.n.toNat+1:Nat)):Int)=XF d:=aa;rw[this];omega
 have⟨v,R⟩:=Xb2 hN q E A G;have ea:wU (wI (4096+wI ((j:Int)*h.c.W)))=Xj h.c (j:Int) 0:=by unfold Xj;rw[Xd (n:=(j:Int)*h.c.W) aa aa,Xd (n:=4096+(j:Int)*h.c.W) aa aa,Xw aa aa];omega
 rw[show((0:Int) != 0)=false from rfl,Wa,VU,K1,Wk (by rw[hp.conf];simp),Wq aa,Xa];rw[show((0:Int) != 0)=false from rfl,Wa,ea,Wi,Wa];have e3:QfX N (Wm.mk h.c h.w (Xb4 h (XF d) j k).p h.s h.b) (Xj h.c (j:Int) 0) d=some (v,0):=(XdK hN q (by unfold Xj;omega) S).trans R;have e4:Qbw N (Wm.mk h.c h.w (Xb4 h (XF d) j k).p h.s h.b) (Xj h.c (j:Int) 0) d=some (v,0):=R;simp[e3,e4,Xa]
def XjB(hN:NB N){h:Wm}(hb:HB h){d:WC}(f:tW d.Map):Qfa N h d=Qch N h d:=by
 have g:=K0 h.c (XF d);by_cases j:XD h.c (XF d)=0
 .exact Xix hN hb f j
 by_cases l:0<XD h.c (XF d)
 .exact Xiy hN hb f l
 have e:1000000<N:=by unfold NB at hN;omega
 have o:XD h.c (XF d) = -1:=aa;rw[Qfa,Qch,Yd hb.2 e,Jz e,Xbw e,o];have⟨b,eb⟩:=Zu (N:=N) hN hb;simp[eb,Xa]
end
def GR{β:Type}(N:Nat)(c:WW)(sp n:Int)(e:List Wv)(tk:List Int)(h:Int->Int->Int->List Wv->List Int->Option β):Option β:=
 grd (tk.length<=140737488355328) <|
 jn (λ(_:Unit)=>
  bnd (Qer N e 1) λf=>
  bif (decide (f<0))then h 0 0 3 e tk
  else bnd (Qeq N e f (wI (1-sp))) λj=>
  bif (j.2 != 0)then none
  else grd ((tk.length+1)*8<=140737488355328) <|
  h f 0 0 j.1 (tk++[f])) λg=>
 bif (decide ((tk.length:Int)>0))then(bnd (Xb tk (wI ((tk.length:Int)-1))) λp=>
  bif (decide (p>=0))then(bnd (Xb tk (wI ((tk.length:Int)-1))) λq=>
   grd (e.length<=140737488355328) <|
   bif (decide (q<(e.length:Int)))then(bnd (Xb tk (wI ((tk.length:Int)-1))) λl=>
    bnd (Xb e l) λo=>
    bif (decide (n<=(wI (c.W-o.u))))then h l o.u 0 e tk
    else g ())
   else g ())
  else g ())
 else g ()
def FT{β:Type}(N:Nat)(c:WW)(o:Int)(ws:List Int)(j:List Wv)(q:List Int)(f h:Int)(p:Int->Int->Int->List Int->List Wv->List Int->Option β)(i u:Int):Option β:=
 bnd (QdT N c i u) λg=>
 bif (g.2 != 0)then p 0 g.2 o ws j q
 else grd ((h.toNat-f.toNat)<=140737488355328) <|
 bnd (Qcc N c g.1) λe=>
 bif (e.2.2 != 0)then(bnd (Qce N g.1) λy=>
  p 0 19 o ws j q)
 else grd (ws.length<=140737488355328) <|
 bif (decide ((((h.toNat-f.toNat):Nat):Int)>(wI ((ws.length:Int)-(wI ((wI (e.1*c.W))+e.2.1))))))then(bnd (Qce N g.1) λz=>
  p 0 19 o ws j q)
 else grd (0<=(wI ((wI (e.1*c.W))+e.2.1))/\(wI ((wI (e.1*c.W))+e.2.1))<=(wI ((wI ((wI (e.1*c.W))+e.2.1))+(((h.toNat-f.toNat):Nat):Int)))/\(wI ((wI ((wI (e.1*c.W))+e.2.1))+(((h.toNat-f.toNat):Nat):Int)))<=(ws.length:Int)) <|
 bnd (Qce N g.1) λr=>
 bif (r.2 != 0)then p 0 19 o ws j q
 else grd ((h.toNat-f.toNat)<=((wI ((wI ((wI (e.1*c.W))+e.2.1))+(((h.toNat-f.toNat):Nat):Int))).toNat-(wI ((wI (e.1*c.W))+e.2.1)).toNat)) <|
 bnd (KM (((ws.take (wI ((wI (e.1*c.W))+e.2.1)).toNat)++((ws.drop f.toNat).take (h.toNat-f.toNat)))++(ws.drop ((wI ((wI (e.1*c.W))+e.2.1)).toNat+(h.toNat-f.toNat)))) (f.toNat) (h.toNat-f.toNat) 0) λA=>
 bnd (Xb j i) λv=>
 grd ((h.toNat-f.toNat)<=140737488355328) <|
 bnd (Xb j i) λl=>
 grd ((q.length+1)*8<=140737488355328) <|
 p g.1 0 (wI (o+1)) ((((ws.take (wI ((wI (e.1*c.W))+e.2.1)).toNat)++((ws.drop f.toNat).take (h.toNat-f.toNat)))++(ws.drop ((wI ((wI (e.1*c.W))+e.2.1)).toNat+(h.toNat-f.toNat)))).set f.toNat r.1) (j.set i.toNat (Wv.mk l.k l.s (wI (v.u+(((h.toNat-f.toNat):Nat):Int))) l.P)) (q++[g.1])
end Go.Sx
