import Derived.Test.YtgbmffljpneflaaGreatDoorSD
set_option linter.all false
namespace Go.Sx
def Oc{β κ:Type}{P:β->Prop}{k:κ->Option β}{f:(κ->Option β)->Option β}(h:∀x,Ok (k x) P)(g:∀j:κ->Option β,(∀x,Ok (j x) P)->Ok (f j) P):Ok (Sx.jn k f) P:=by simp_all[Xz]
def Ui{β:Type}{P:β->Prop}{b:Bool}{x y:Option β}(e:Ok x P)(f:Ok y P):Ok (bif b then x else y) P:=by grind
def Uo{α β:Type}{P:β->Prop}{o:Option α}{Q:α->Prop}{f:α->Option β}(h:Ok o Q)(k:∀y,Q y->Ok (f y) P):Ok (Sx.bnd o f) P:=WH h λy _ e=>k y e
def Ok.t{α:Type}{o:Option α}{P:α->Prop}(h:Ok o P):Ok o λ_=>True:=h.mono λ_ _=>trivial
section
variable {N:Nat}{x:WI}
abbrev EP(r:WI×Int×Int):Prop:=EB r.1
def XjQ(e:Int):Ok (Qad N e) EP:=by exact Wg Xc1
def XE(e:Int):Ok (bnd (Qad N e) λy=>some (y.1,y.2.1,y.2.2)) EP:=Uo (XjQ e) λy f=>Wg f
def XlS(a b c:Int):Ok (QbI N a b c) λ_=>True:=by exact Ui (Ui (Wg trivial) (Wg trivial)) (Wg trivial)
def V4(hN:NB N)(e:EB x)(a:Int):Ok (Qbq N x a) EP:=by have f:=hN;unfold NB at f;refine Ui (Wg e) ?_;rw[Jv e.loc aa,Xa];exact Ui (XE _) (Uo (ZC _) λy _=>Wg ⟨e.heap,XiE e.loc a,e.glo,e.wea,e.pins,e.roots⟩)
def XhE(hN:NB N)(f:EB x)(a b c:Int):Ok (QdE N x a b c) EP:=by have e:=hN;unfold NB at e;refine Ui (XE _) (Uo (XlS _ _ _) λy _=>Iu (Ui (XE _) (Uo (Xfa hN _ _) λz _=>Ui (XE _) ?_)));rw[Jv f.loc aa,Xa];exact Ui (XE _) (Uo (Xec hN f _) λj g=>Ui (XE _) (Uo (V4 hN g _) λk h=>Wg h))
def V5(hN:NB N)(e:EB x)(a:Int):Ok (QaN N x a) λ_=>True:=by exact Uo (Zx hN e a) λy _=>Ui (Ui (Wg trivial) (Wg trivial)) (Wg trivial)
def Xed(hN:NB N)(e:EB x)(a b:Int)(c:Bool):Ok (QcU N x a b c) λ_=>True:=by refine Uo (V5 hN e a) λy _=>Ui (Wg trivial) (Uo (XcP hN e.heap _) λz _=>Ui (Wg trivial) ?_);rw[Kv,Xa];exact Ui (Wg trivial) (Wg trivial)
def XjR(hN:NB N)(e:EB x)(a b c d:Int):Ok (Qdv N x a b c d) EP:=by
 have k:∀i j v:Int,Ok (α:=WI×Int×Int) (bnd (Qcm N x.h i j v) λf=>some ((WI.mk f.1 x.l x.g x.v x.P x.R),0,0)) EP:=λi j v=>
  Uo (Xga hN e.heap i j v) λy o=>Wg ⟨o,e.loc,e.glo,e.wea,e.pins,e.roots⟩
 refine Iu (Ui (Uo (Xed hN e _ _ _) λy _=>?_) (Uo (Xed hN e _ _ _) λy _=>?_))<;>
 exact Ui (XE _) (Uo (Xf9 hN e.heap _ _) λz _=>Ui (Wg e) (Ui (Uo (V4 hN e _) λq p=>Wg p) (Iu (Ui (Uo (Zx hN e _) λr _=>Ui (XE _) (k _ _ _)) (k _ _ _)))))
def XjS(hN:NB N)(e:EB x)(a b c:Int):Ok (Qdw N x a b c) EP:=by refine Oc (λh=>Ui (Uo (V5 hN e _) λy _=>Ui (XE _) (Uo (XcP hN e.heap _) λz _=>Ui (Wg e) (Wg e))) (Ui (Uo (Zx hN e _) λy _=>Ui (XE _) (Uo (Zx hN e _) λz _=>Ui (XE _) (Ui (Wg e) (Wg e)))) (Uo (Zx hN e _) λy _=>Ui (XE _) (Uo (V4 hN e _) λz g=>Wg g)))) λj f=>Ui (f _) (f _)
def Xgt(hN:NB N)(f:EB x)(a b:Int):Ok (QdS N x a b) EP:=by
 have j:=hN;unfold NB at j;refine Uo (V5 hN f _) λy _=>Ui (XE _) (Iu (Ui ?_ ?_))
 .show Ok (bnd (QcH N ⟨x.v.e⟩ y.1) _) EP;rw[Vd (t:=⟨x.v.e⟩) f.wea aa,Xa];have h:=XiH (t:=⟨x.v.e⟩) f.wea y.1;exact Ui (XE _) (Iu (Ui (Uo (ZC _) λz _=>Wg ⟨f.heap,f.loc,f.glo,h,f.pins,f.roots⟩) (Uo (ZC _) λz _=>Wg ⟨f.heap,f.loc,h,f.wea,f.pins,f.roots⟩)))
 show Ok (bnd (QcH N ⟨x.g.e⟩ y.1) _) EP;rw[Vd (t:=⟨x.g.e⟩) f.glo aa,Xa];have h:=XiH (t:=⟨x.g.e⟩) f.glo y.1;exact Ui (XE _) (Iu (Ui (Uo (ZC _) λz _=>Wg ⟨f.heap,f.loc,f.glo,h,f.pins,f.roots⟩) (Uo (ZC _) λz _=>Wg ⟨f.heap,f.loc,h,f.wea,f.pins,f.roots⟩)))
def XhF(hN:NB N)(e:EB x)(a b:Int):Ok (QdF N x a b) EP:=by
 have f:=hN;unfold NB at f;refine Ui (XE _) (Uo (Zx hN e _) λy _=>Ui (XE _) (Uo (Xby _) λz _=>Oc (λ_=>Ui ?_ (Ui ?_ ?_)) λg h=>Oc (λ_=>XE _) λj k=>?_))
 .rw[Xe9 e.loc aa,Xa];exact Wg ⟨e.heap,XiF e.loc _ _,e.glo,e.wea,e.pins,e.roots⟩
 .rw[V2 e.glo aa,Xa];exact Wg ⟨e.heap,e.loc,XiI e.glo _ _,e.wea,e.pins,e.roots⟩
 .rw[V2 e.wea aa,Xa];exact Wg ⟨e.heap,e.loc,e.glo,XiI e.wea _ _,e.pins,e.roots⟩
 grind
def XhG(hN:NB N)(e:EB x)(a b:Int):Ok (Qen N x a b) EP:=by
 have f:=hN;unfold NB at f;refine Ui (Ui (XE _) ?_) (Uo (Zx hN e _) λy _=>Ui (XE _) ?_)
 .rw[Xa6 e.loc aa,Xa];exact Ui (XE _) (Wg ⟨e.heap,Xgk e.loc _,e.glo,e.wea,e.pins,e.roots⟩)
 rw[Xcd e.loc aa,Xa];exact Ui (XE _) (Uo (V4 hN (x:=⟨x.h,(Kt x.l).1,x.g,x.v,x.P,x.R⟩) ⟨e.heap,Xce e.loc,e.glo,e.wea,e.pins,e.roots⟩ _) λz j=>Wg j)
def XlT(hN:NB N)(e:EB x)(a b:Int):Ok (QfC N x a b) EP:=by refine Uo (V5 hN e _) λy _=>Ui (XE _) (Ui (Uo (Xc0 hN e.heap e.pins _) λz f=>Ui (XE _) (Wg ⟨f.1,e.loc,e.glo,e.wea,f.2,e.roots⟩)) (Uo (Xeb hN e.heap e.pins _) λz f=>Ui (XE _) (Wg ⟨f.1,e.loc,e.glo,e.wea,f.2,e.roots⟩)))
def Xgu(hN:NB N)(f:EB x)(op a b c:Int):Ok (Qae N x op a b c) EP:=by
 have thr:∀{o:Option (WI×Int×Int)},Ok o EP->Ok (bnd o λy=>some (y.1,y.2.1,y.2.2)) EP:=λh=>Uo h λy k=>Wg k;refine Uo (ZE hN f) λl _=>Ui (XE _) ?_;refine Oc (λe=>Ui (thr (XhE hN f _ _ _)) ?_) λp g=>?_
 .refine Oc (λe=>Ui (thr (XjR hN f _ _ _ _)) ?_) λj h=>?_
  .refine Oc (λe=>Ui (thr (XjS hN f _ _ _)) ?_) λj h=>?_
   .refine Oc (λe=>Ui (thr (Xgt hN f _ _)) ?_) λj h=>?_
    .refine Oc (λe=>Ui (thr (XhF hN f _ _)) ?_) λj h=>?_
     .refine Oc (λe=>Ui (thr (XhG hN f _ _)) ?_) λj h=>?_
      .refine Oc (λe=>Ui (thr (XlT hN f _ _)) (XE _)) λj h=>Ui (h _) (h _)
      exact Ui (h _) (h _)
     exact Ui (h _) (Oc (λe=>h _) λj h=>Ui (h _) (h _))
    grind
   exact Ui (h _) (Oc (λe=>h _) λj h=>Ui (h _) (Oc (λe=>h _) λj h=>Ui (h _) (h _)))
  exact Ui (h _) (Oc (λe=>h _) λj h=>Ui (h _) (Oc (λe=>h _) λj h=>Ui (h _) (h _)))
 exact Ui (g _) (Oc (λe=>g _) λj h=>Ui (h _) (h _))
end
structure WB(k:Nat)(w:WU):Prop where
 kk:k<=900
 things:w.T.length<=k
 fields:∀x∈w.T,x.D.length<=1000
 loc:LBp w.l
 gloK:w.g.e.length<=1000+k
 weaK:w.v.e.length<=1000+k
 marksK:w.m.length<=100+k
 rootsK:w.R.length<=100+k
def WB.glo{k:Nat}{w:WU}(h:WB k w):TB w.g:=by have:=h.kk;have:=h.gloK;unfold TB;omega
def WB.wea{k:Nat}{w:WU}(h:WB k w):TB w.v:=by have:=h.kk;have:=h.weaK;unfold TB;omega
def WB.marks{k:Nat}{w:WU}(h:WB k w):w.m.length<=1000:=by have:=h.kk;have:=h.marksK;omega
def WB.roots{k:Nat}{w:WU}(h:WB k w):w.R.length<=1000:=by have:=h.kk;have:=h.rootsK;omega
def VF(d:WC):Nat->List Int->List Int
 |_,[]=>[]
 |k,f::e=>if KF d k then f::VF d (k+1) e else VF d (k+1) e
def Xee(x:Ii):List Int:=VF x.H 0 x.D
def Xbz(d:WC):∀(k:Nat)(l:List Int),(VF d k l).length<=l.length
 |k,[]=>by simp[VF]
 |k,f::e=>by have:=Xbz d (k+1) e;unfold VF;grind
def ZO(n:Nat)(l:List Int):Bool:=l.all λp=>!decide (p>(n:Int))
def ZG(l:List Is)(id:Int):Int:=match l.findIdx? (λm=>m.I==id)with|some k=>(k:Int)|none=>-1
def Xc3(n:Nat)(x:Ii):Bool:=XL x.H&&(!(x.H.k==0)&&(!((x.D.length:Int) != x.H.n)&&ZO n (Xee x)))
def XiK(n:Nat)(l:List Is)(_:Unit)(i:Nat)(m:Is):Bool:=!decide (m.I<1)&&(!decide (m.I>(n:Int))&&(!(ZG l m.I != (i:Int))&&(!decide (m.M<1)&&!decide (m.M>1000))))
def Xfc(n:Nat)(l:List Is):Bool:=ZA (XiK n l) (λs _=>s) () 0 l
def YQ(w:WU):Bool:=Yk w.c&&(YY w.l&&(YX w.g.e&&(YX w.v.e&&(!decide ((w.m.length:Int)>64)&&(w.T.all (Xc3 w.T.length)&&(((XS w.g.e).all λp=>!(p==0))&&(Xfc w.T.length w.m&&(ZO w.T.length w.R&&(ZO w.T.length (X7 w.l.S)&&(ZO w.T.length (XS w.g.e)&&ZO w.T.length (XS w.v.e)))))))))))
section
variable {N:Nat}{w:WU}
def JS(ht:w.T.length<=1000){l:List Int}(g:l.length<=1000000)(hN:1000000<N):QdH N w l=some (ZO w.T.length l):=by
 have h:=Jt (l:=l) (F:=QdG N w l) (q:=λ_ p=>!decide (p>(w.T.length:Int))) (λn k p e=>by
  have f:=XC e
  rw[QdG,Xn f,Wb,Xe,e,Xa,Xg aa,XA aa aa]
  cases decide (p>(w.T.length:Int))<;>rfl) (λn=>by rw[QdG,XB,Wa]) (n:=N) aa
 rw[ZV]at h;rw[QdH,h,Xa,ZO];cases l.all λp=>!decide (p>(w.T.length:Int))
 .rw[Wa,XD]
 simp[Wb,Xq]
def Xc4{x:Ii}(e:x.D.length<=1000000):∀(n k:Nat)(v:List Int),k<=x.D.length->x.D.length-k<n->v.length<=k->Qey N x n (k:Int) v=some (v++VF x.H k (x.D.drop k))
 |0,k,v,_,f,_=>by omega
 |n+1,k,v,j,f,g=>by
  rw[Qey];by_cases h:k<x.D.length
  .rw[Xn h,Wb,Kv,Xa,Xg aa,Wu h,VF];cases hp:KF x.H (k:Int)
   .rw[Wa,Wk ab,Xc4 e n (k+1) v aa aa aa]
   rw[Wb,Wp rfl,Xe,Wc h,Xa,Xc aa,Xc4 e n (k+1) _ aa aa (by simp_all)];simp
  obtain rfl:k=x.D.length:=aa;simp[VF]
def Xgv{x:Ii}(e:x.D.length<=1000000)(hN:1000000<N):Qhb N x=some (Xee x):=by have h:=Xc4 (N:=N) (x:=x) e N 0 [] aa aa ab;rw[show((0:Nat):Int)=0 from rfl,WY,Uh]at h;rw[Qhb,h,Xa];rfl
def XiL(id:Int)(e:w.m.length<=1000000):∀(n k:Nat),k<=w.m.length->w.m.length-k<n->Qfn N w id n (k:Int)=some (match (w.m.drop k).findIdx? (λm=>m.I==id)with|some j=>.ret ((k+j:Nat):Int)|none=>.nxt ())
 |0,k,_,f=>by omega
 |n+1,k,g,f=>by
  rw[Qfn];by_cases h:k<w.m.length
  .rw[Xn h,Wb,Xe,Wc h,Xa,Xg aa,Wu h,IO];cases l:(w.m[k].I==id)
   .rw[Wa,XiL id e n (k+1) aa aa,Wk ab];cases (w.m.drop (k+1)).findIdx? (λm=>m.I==id)with
    |none=>rfl
    |some j=>simp only[UX];rw[show k+1+j=k+(j+1) by omega]
   simp
  grind
def Xfd(e:w.m.length<=1000000)(hN:1000000<N)(id:Int):Qgn N w id=some (ZG w.m id):=by
 have h:=XiL (N:=N) id e N 0 aa aa;rw[show((0:Nat):Int)=0 from rfl,WY]at h;rw[Qgn,h,Xa,ZG];cases w.m.findIdx? (λm=>m.I==id)with
 |none=>simp[Xq]
 |some j=>simp[XD,UC]
def Xgw{a:Wm}(h:YY a=true):(X7 a.S).length<=4096:=by have e:=Y6.1 h;have:=e.slots;have:=e.iss;have:=Xbx a.S;omega
def Xa7{l:List WQ}(h:YX l=true):(XS l).length<=64:=by have:=Jf h;have:=VZ l;omega
def Xcf{k:Nat}(hw:WB k w)(hN:1000000<N):Qe0 N w=some (YQ w):=by
 have f:=hw.kk;have ht:=hw.things;have B:=hw.marks;have E:=hw.roots;rw[Qe0,Zv,Xa,YQ];cases Yk w.c
 .rfl
 rw[Wi,Wa,ZB hw.loc hN,Xa,W5];cases h:YY w.l
 .rfl
 rw[Wi,Wa,Zo hw.glo hN,Xa,W5];cases j:YX w.g.e
 .rfl
 rw[Wi,Wa,Zo hw.wea hN,Xa,W5];cases o:YX w.v.e
 .rfl
 rw[Wi,Wa,W5];cases decide ((w.m.length:Int)>64);rotate_left
 .rfl
 rw[Wa,W0,W5];have r:=Jt (l:=w.T) (F:=Qd3 N w) (q:=λ_=>Xc3 w.T.length) (λn k p e=>by
  have f:=XC e
  have u:=hw.fields p (Ua e)
  have y:=Xbz p.H 0 p.D
  rw[Qd3,Xn f,Wb,Xe,e,Xa,Zl,Xa,Xgv aa hN,Xa,JS aa (by unfold Xee;omega) hN,Xa,Xg aa]
  unfold Xc3
  grind) (λn=>by rw[Qd3,XB,Wa]) (n:=N) aa
 rw[ZV]at r;rw[r,Xa];cases w.T.all (Xc3 w.T.length)
 .simp[Wa,XD]
 rw[Wb,Xq,Yr hw.glo hN,Xa,j,Wb,W5];have z:=Xa7 j;have s:=Jt (l:=XS w.g.e) (F:=Qd4 N w (XS w.g.e)) (q:=λ_ p=>!(p==0)) (λn k p e=>by
  have f:=XC e
  rw[Qd4,Xc aa,Xn f,Wb,Xe,e,Xa,Xg aa]
  simp) (λn=>by rw[Qd4,Xc aa,XB,Wa]) (n:=N) aa
 rw[ZV]at s;rw[s,Xa];cases (XS w.g.e).all λp=>!(p==0)
 .simp[Wa,XD]
 rw[Wb,Xq,W5];have A:=Jt (l:=w.m) (F:=Qd5 N w (XS w.g.e)) (q:=XiK w.T.length w.m ()) (λn k p e=>by
  have f:=XC e
  rw[Qd5,Xn f,Wb,Xe,e,Xa,Xfd aa hN,Xa,Xg aa,XA aa aa]
  unfold XiK
  grind) (λn=>by rw[Qd5,XB,Wa]) (n:=N) aa
 rw[A,Xa];show exK (bif Xfc w.T.length w.m then Ex.nxt ()else Ex.ret false) _ _=_;cases Xfc w.T.length w.m
 .simp[Wa,XD]
 rw[Wb,Xq,JS aa aa hN,Xa,W5];cases ZO w.T.length w.R
 .rfl
 have G:=Xgw h;rw[Wb,Zw hw.loc hN,Xa,h,Wb,JS aa aa hN,Xa,W5];cases ZO w.T.length (X7 w.l.S)
 .rfl
 rw[Wb,JS aa aa hN,Xa,W5];cases ZO w.T.length (XS w.g.e)
 .rfl
 have s3:=Xa7 o;rw[Wb,Yr hw.wea hN,Xa,o,Wb,JS aa aa hN,Xa,W5]
end
def Yx(v:Int):UM×Int:=
 if v=0 then(⟨0,0,0⟩,5)else if 1<=v % 4/\1<=v / 262144/\v / 262144<=4294967295 then(⟨v % 4,v / 4 % 65536,v / 262144⟩,0)else(⟨0,0,0⟩,6)
def VG{N:Nat}{v:Int}(g:tU v):QcT N v=some (Yx v):=by
 have⟨f,j⟩:=g;rw[QcT,Yx];by_cases k:v=0
 .simp_all
 rw[show(v==0)=false by simp_all,Wa,Wk k];have l:Y2 .u64 v 3=v % 4:=Ys v 2 aa f j;have o:YC .u64 v 2=v / 4:=YG v 2 aa f;have p:Y2 .u64 (v / 4) 65535=v / 4 % 65536:=Ys (v / 4) 16 aa aa aa;have q:YC .u64 v 18=v / 262144:=YG v 18 aa f;rw[o,l,p,q,Xd (n:=v % 4) aa aa,Xd (n:=v / 4 % 65536) aa aa,Xd (n:=v / 262144) aa aa,Qbd,Qhq];have r:∀x:Int,ZP .u64 x 2=wU (x*4):=λ_=>rfl;have s:∀x:Int,ZP .u64 x 18=wU (x*262144):=λ_=>rfl;rw[Wd (show v / 4 % 65536>=0 by omega),Wd (show v / 4 % 65536<=65535 by omega),Wd (show v % 4<=3 by omega)];simp only[Wb];by_cases g1:v % 4>=1
 .rw[Wd g1,Wb];by_cases g2:v / 262144>=1
  .rw[Wd g2,Wb,Xa];by_cases g3:v / 262144<=4294967295
   .rw[Wd g3,Wi,Wa,Xa,Wp ⟨g1,g2,g3⟩];have e:wU (wU (wU (v % 4)+ZP .u64 (wU (v / 4 % 65536)) 2)+ZP .u64 (wU (v / 262144)) 18)=v:=by rw[r,s,XA (n:=v % 4) aa aa,XA (n:=v / 4 % 65536) aa aa,XA (n:=v / 262144) aa aa,XA (n:=v / 4 % 65536*4) aa aa,XA (n:=v / 262144*262144) aa aa,XA (n:=v % 4+v / 4 % 65536*4) aa aa,XA aa aa];omega
    simp_all
   rw[We g3,W0,Wb,Xa,Wk (λh=>g3 h.2.2)];rfl
  rw[We g2,Wa,Xa,W0,Wb,Xa,Wk (λh=>g2 h.2.1)];rfl
 rw[We g1,Wa,Xa,W0,Wb,Xa,Wk (λh=>g1 h.1)];rfl
def Z1(w:WU)(v:Int):Int×Int:=
 if v=0 then(0,0)else if(Yx v).2≠0 then(0,(Yx v).2)else
 if(Yx v).1.Tag=1 then Ze w.l (Yx v).1.Index (Yx v).1.J else
 if(Yx v).1.Tag=2 then YE w.g.e (Yx v).1.Index (Yx v).1.J else YE w.v.e (Yx v).1.Index (Yx v).1.J
def XN(w:WU)(a:Int):Int×Int:=if(Z1 w a).2=0/\(Z1 w a).1=0 then(0,5)else Z1 w a
structure WF(w:WU):Prop where
 conf:Yk w.c=true
 loc:YY w.l=true
 glo:YX w.g.e=true
 wea:YX w.v.e=true
 m64:w.m.length<=64
 thing:∀x∈w.T,XL x.H=true/\x.H.k≠0/\(x.D.length:Int)=x.H.n/\∀r∈Xee x,r<=w.T.length
 mark:Xfc w.T.length w.m=true
 roots:∀r∈w.R,r<=w.T.length
 rloc:∀r∈X7 w.l.S,r<=w.T.length
 rglo:∀r∈XS w.g.e,r<=w.T.length
 rwea:∀r∈XS w.v.e,r<=w.T.length
def Jh{n:Nat}{l:List Int}:ZO n l=true↔∀r∈l,r<=n:=by unfold ZO;simp
def KZ{w:WU}(h:YQ w=true):WF w:=by unfold YQ at h;simp only[W7,IY,IH]at h;have⟨j,k,l,o,u,p,v,q,r,e,f,g⟩:=h;refine⟨j,k,l,o,aa,λx s=>?_,q,Jh.1 r,Jh.1 e,Jh.1 f,Jh.1 g⟩;have:=(W9.1 p) x s;unfold Xc3 at this;simp at this;exact⟨this.1,this.2.1,this.2.2.1,Jh.1 this.2.2.2⟩
def WF.mk_{w:WU}(h:WF w){k:Nat}{m:Is}(e:w.m[k]? = some m):1<=m.I/\m.I<=w.T.length/\1<=m.M/\m.M<=1000:=by have:=(Ju w.m () 0).1 h.mark k m e;unfold XiK at this;simp_all
def XjT{l:List UA}{p:UA}(hp:p∈l)(e:p.V=true):p.a∈X7 l:=by unfold X7;grind
def XjU{l:List WQ}{p:WQ}(hp:p∈l)(e:p.V=true):p.a∈XS l:=by unfold XS;grind
def XhH(a:Wm)(i g:Int):(Ze a i g).2=0\/(Ze a i g).1=0:=by
 unfold Ze;split
 .exact .inr rfl
 split
 .exact .inr rfl
 split
 .exact .inr rfl
 split
 .exact .inr rfl
 split
 .exact .inr rfl
 split
 .exact .inr rfl
 split
 .exact .inl rfl
 omega
def XhI(l:List WQ)(i g:Int):(YE l i g).2=0\/(YE l i g).1=0:=by unfold YE;grind
def Xoo{w:WU}(h:WF w)(v:Int):(Z1 w v).1<=w.T.length:=by
 have g:∀i g,(Ze w.l i g).1<=w.T.length:=by
  intro i g;by_cases f:(Ze w.l i g).2=0
  .have⟨_,_,p,hp,_,j,e⟩:=V0 f;rw[e];exact h.rloc _ (XjT (Ua hp) j)
  have:=(XhH w.l i g).resolve_left f;omega
 have t:∀(t:Wr),(∀r∈XS t.e,r<=w.T.length)->∀i g,(YE t.e i g).1<=w.T.length:=by
  intro t ht i g;by_cases f:(YE t.e i g).2=0
  .have⟨_,_,p,hp,_,j,e⟩:=V1 f;rw[e];exact ht _ (XjU (Ua hp) j)
  have:=(XhI t.e i g).resolve_left f;omega
 unfold Z1;split
 .simp
 split
 .simp
 split
 .simp_all
 split
 .exact t _ h.rglo _ _
 exact t _ h.rwea _ _
section
variable {N:Nat}{w:WU}{k:Nat}
def JC(hw:WB k w)(hN:1000000<N)(h:YQ w=true){v:Int}(j:tU v):QaS N w v=some (Z1 w v):=by
 rw[QaS,Xcf hw hN,Xa,h,Wi,Wa,Z1];by_cases e:v=0
 .rw[Wp e,e];rfl
 rw[Wk e,show(v==0)=false by simpa using e,Wa,VG j,Xa];by_cases l:(Yx v).2=0
 .rw[l,show((0:Int) != 0)=false from rfl,Wa,Wk ab];by_cases f:(Yx v).1.Tag=1
  .rw[Wp f,f,show((1:Int)==1)=true from rfl,Wb,Vc hw.loc hN,Xa]
  rw[Wk f,show((Yx v).1.Tag==1)=false by simpa using f,Wa];by_cases g:(Yx v).1.Tag=2
  .rw[Wp g,g,show((2:Int)==2)=true from rfl,Wb,Ka hw.glo hN,Xa]
  rw[Wk g,show((Yx v).1.Tag==2)=false by simpa using g,Wa,Ka hw.wea hN,Xa]
 grind
def Xa8(hw:WB k w)(hN:1000000<N)(e:YQ w=true){v:Int}(f:tU v):Qe1 N w v=some (XN w v):=by rw[Qe1,JC hw hN e f,Xa,XN];grind
end
def zTh:Ii:=⟨⟨0,0,0⟩,[]⟩
def thg(w:WU)(id:Int):Ii:=w.T.getD (id-1).toNat zTh
def JD(a:Wm)(id:Int):Int:=if id=0 then 0 else(Yp a id).2.2.2
def okW(op a b:Int):Prop:=a<=2147483647/\(op=1->b<=4294967295)
instance(op a b:Int):Decidable (okW op a b):=by unfold okW;infer_instance
def hdW(op a b:Int):WC:=⟨op,a,if op=1 then b else 0⟩
def Xa9(c:WV)(d:WC):Bool:=XL d&&(d.k != 0&&XF c (XM d) != -1)
def Xba(w:WU)(op a b:Int)(failed:Bool):Int:=
 if w.m.length>0 then 15 else if¬okW op a b then 1 else if Xa9 w.c (hdW op a b)=false then 1 else
 if JD w.l 1≠0 then JD w.l 1 else if failed then 3 else 0
def Xc5(op:Int):Bool:=op==8||op==9
def Xcg(w:WU)(op a b c:Int):Int:=
 if(XN w a).2≠0 then(XN w a).2 else if b>=(thg w (XN w a).1).H.n then 2 else
 if KF (thg w (XN w a).1).H b≠Xc5 op then 4 else
 if op=8 then JD w.l ((thg w (XN w a).1).D.getD b.toNat 0)else if op=9 then(Z1 w c).2 else 0
def Xc6(w:WU)(op a:Int):Int:=
 if a=0 then 5 else if(Z1 w a).2≠0 then(Z1 w a).2 else
 if(Yx a).1.Tag≠(if op=16 then 3 else if op=14 then 2 else 1)then 4 else 0
def XhJ(w:WU)(op a:Int):Int:=
 if(XN w a).2≠0 then(XN w a).2 else(YI (if op=15 then w.v else w.g) (XN w a).1).2.2.2
def Xfe(w:WU)(op a:Int):Int:=
 if op=17 then(if a>64 then 1 else(Jw w.l a).2)else
 if(Z1 w a).2≠0 then(Z1 w a).2 else if(Kt w.l).2≠0 then(Kt w.l).2 else JD (Kt w.l).1 (Z1 w a).1
def Xgx(l:List Is)(i:Int):Is:=l.getD i.toNat ⟨0,0,0⟩
def XiM(w:WU)(op a:Int)(failed:Bool):Int:=
 if(XN w a).2≠0 then(XN w a).2 else
 if op=20 then(if ZG w.m (XN w a).1<0 then 12 else 0)else
 if 0<=ZG w.m (XN w a).1/\(Xgx w.m (ZG w.m (XN w a).1)).M=1000 then 18 else
 if ZG w.m (XN w a).1<0/\w.m.length=64 then 18 else if failed then 18 else 0
def Xc7(w:WU)(op a b:Int):Int:=
 if op=4\/op=5 then(XN w a).2 else if(Z1 w a).2≠0 then(Z1 w a).2 else
 if op=10 then(Z1 w b).2 else JD w.l (Z1 w a).1
def XlU(w:WU)(op a b c:Int)(failed:Bool):Int:=
 if YQ w=false then 19 else
 if op=1\/op=2\/op=3 then Xba w op a b failed else
 if op=6\/op=7\/op=8\/op=9 then Xcg w op a b c else
 if op=12\/op=14\/op=16 then Xc6 w op a else
 if op=13\/op=15 then XhJ w op a else
 if op=17\/op=18 then Xfe w op a else
 if op=19\/op=20 then XiM w op a failed else
 if op=4\/op=5\/op=10\/op=11 then Xc7 w op a b else 1
def Xf{a b:Int}(h:¬a=b):(a==b)=false:=by simp_all
def XO{a b:Int}(h:a=b):(a==b)=true:=by simp_all
def ZW{a b:Int}(h:a=b):(a != b)=false:=by simp_all
def Xl{a b:Int}(h:¬a=b):(a != b)=true:=by simp_all
section
variable {N:Nat}{w:WU}{k:Nat}
def Xop(hw:WB k w)(f:YQ w=true)(tw:X1 w){v:Int}(e:tU v):tU (Z1 w v).1:=by have:=Qgt (N:=1000001) tw e;exact this _ (JC (N:=1000001) hw aa f e)
def Xef(hw:WB k w)(e:YQ w=true)(tw:X1 w){v:Int}(f:tU v)(h:(XN w v).2=0):1<=(XN w v).1/\(XN w v).1<=w.T.length/\XN w v=Z1 w v:=by
 have g:=Xop hw e tw f;have l:=Xoo (KZ e) v;unfold XN at h⊢;by_cases j:(Z1 w v).2=0/\(Z1 w v).1=0
 .simp_all
 rw[Wk j]at h⊢;unfold tU at g;grind
def Jx(hw:WB k w){id:Int}(g:1<=id)(h:id<=w.T.length):Xb w.T (wU (id-1))=some (thg w id)/\thg w id∈w.T:=by
 have j:=hw.kk;have ht:=hw.things;have e:=Wc (show(id-1).toNat<w.T.length by omega);have f:thg w id=w.T[(id-1).toNat]'aa:=by unfold thg;rw[Wq,e];rfl
 rw[XA aa aa,X0 aa aa,f];simp
def Ve(e:LBp w.l)(hN:1000000<N)(id:Int):Qdx N w.l id=some (JD w.l id):=by
 rw[Qdx,JD];by_cases h:id=0
 .rw[Wp h,h];rfl
 simp[Wk,h,Xf,Wa,Jv,e,hN,Xa]
def Xgy{a:Wm}(e:LBp a)(hN:1000000<N)(id:Int):Qdx N a id=some (JD a id):=Ve (w:=⟨⟨0,0⟩,[],a,zT,zT,[],[]⟩) e hN id
def Xgz(op:Int){a b:Int}(l:tU a)(o:tU b):∃d,QbI N op a b=some (d,decide (okW op a b))/\(okW op a b->d=hdW op a b):=by
 unfold tU at l o;have f:a<=2147483647->wI (Y2 .u64 a 2147483647)=a:=λh=>by have:Y2 .u64 a 2147483647=a % 2147483648:=Ys a 31 aa l.1 l.2;rw[this,Xd aa aa];omega
 rw[QbI];by_cases g:op=1
 .rw[XO g,Wb];by_cases j:a<=2147483647
  .rw[Wd j,Wb];refine⟨⟨op,wI (Y2 .u64 a 2147483647),wW b⟩,?_,λh=>?_⟩
   .exact congrArg (λx=>some (_,x)) (decide_eq_decide.2 ⟨λh=>⟨j,λ_=>h⟩,λh=>h.2 g⟩)
   rw[f j,Xlx aa (by have:=h.2 g;omega),hdW,Wp g]
  rw[We j,Wa];refine⟨⟨op,wI (Y2 .u64 a 2147483647),wW b⟩,?_,λh=>absurd h.1 j⟩;rw[We (show¬okW op a b fromλh=>j h.1)]
 rw[Xf g,Wa];refine⟨⟨op,wI (Y2 .u64 a 2147483647),0⟩,?_,λh=>?_⟩
 .exact congrArg (λx=>some (_,x)) (decide_eq_decide.2 ⟨λh=>⟨h,λe=>absurd e g⟩,λh=>h.1⟩)
 rw[f h.1,hdW,Wk g]
def Xch(hN:10<=N)(c:WV)(d:WC):Qck N c d=some (Xa9 c d):=by rw[Qck,Zl,Xa,Xa9,X6,Xa,ZN hN,Xa];grind
def XhK(hw:WB k w)(hN:1000000<N)(op:Int){a b:Int}(o:tU a)(p:tU b)(f:Bool):Qgx N w op a b f=some (Xba w op a b f):=by
 have⟨d,hd,g⟩:=Xgz (N:=N) op o p;rw[Qgx,Xba];by_cases j:w.m.length>0
 .rw[Wd (show(w.m.length:Int)>0 by omega),Wb,Wp j]
 rw[We (show¬(w.m.length:Int)>0 by omega),Wa,Wk j,hd,Xa];by_cases h:okW op a b
 .rw[Wd h,Wi,Wa,Wk (by simpa using h),Xch aa,Xa,g h];cases q:Xa9 w.c (hdW op a b)
  .rfl
  rw[Wi,Wa,Wk ab,Ve hw.loc hN,Xa];by_cases e:JD w.l 1=0
  .rw[ZW e,Wa,Wk (by simpa using e)];cases f<;>rfl
  rw[Xl e,Wb,Wp e]
 simp_all
def XjV(hw:WB k w)(hN:1000000<N)(e:YQ w=true)(tw:X1 w)(op:Int){a b c:Int}(g:tU a)(r:tU b)(s:tU c):QgW N w op a b c=some (Xcg w op a b c):=by
 rw[QgW,Xa8 hw hN e g,Xa,Xcg];by_cases h:(XN w a).2=0;rotate_left
 .grind
 have⟨u,v,_⟩:=Xef hw e tw g h;have⟨g1,g2⟩:=Jx hw u v;have⟨y,I,J,K⟩:=(KZ e).thing _ g2;have L:=XY y;unfold tU at r;rw[ZW h,Wa,Wk aa,g1,Xa,XA (n:=(thg w (XN w a).1).H.n) aa aa];by_cases j:b>=(thg w (XN w a).1).H.n
 .simp_all
 rw[We j,Wa,Wk j,Xd (n:=b) aa aa];have key:∀x:Bool,x=Xc5 op->(bnd (Qcf N (thg w (XN w a).1).H b) λz=>
  bif (!(z==x))then some 4
  else bif (op==8)then(bnd (Xb (thg w (XN w a).1).D b) λA=>
   bnd (Qdx N w.l A) λB=>
   some B)
  else bif (op==9)then(bnd (QaS N w c) λE=>
   some E.2)
  else some (XN w a).2)=some (if KF (thg w (XN w a).1).H b≠Xc5 op then 4 else
 if op=8 then JD w.l ((thg w (XN w a).1).D.getD b.toNat 0)else if op=9 then(Z1 w c).2 else 0):=by
  intro x G
  subst G
  rw[Kv,Xa]
  by_cases o:KF (thg w (XN w a).1).H b=Xc5 op
  .rw[show(KF (thg w (XN w a).1).H b==Xc5 op)=true by simpa using o,Wi,Wa,Wk (by simpa using o)]
   by_cases f:op=8
   .rw[XO f,Wb,Wp f,X0 aa aa,Xa,Ve hw.loc hN,Xa,Wq,Wc aa];rfl
   rw[Xf f,Wa,Wk f]
   by_cases p:op=9
   .rw[XO p,Wb,Wp p,JC hw hN e s,Xa]
   grind
  .grind
 rw[Xz];cases q:(op==8)
 .have:=key (op==9) (by unfold Xc5;rw[q,Ie]);grind
 have:=key true (by unfold Xc5;rw[q,Bool.true_or]);simp_all
def XhL(hw:WB k w)(hN:1000000<N)(h:YQ w=true)(op:Int){a:Int}(g:tU a):Qgy N w op a=some (Xc6 w op a):=by
 rw[Qgy,Xc6];by_cases e:a=0
 .rw[XO e,Wb,Wp e]
 rw[Xf e,Wa,Wk e,JC hw hN h g,Xa];by_cases f:(Z1 w a).2=0;rotate_left
 .rw[Xl f,Wb,Wp f]
 rw[ZW f,Wa,Wk (by simpa using f),VG g,Xa,Xz];grind
def XlV(hw:WB k w)(hN:1000000<N)(g:YQ w=true)(op:Int){a:Int}(h:tU a):Qhr N w op a=some (XhJ w op a):=by
 rw[Qhr,Xa8 hw hN g h,Xa,XhJ];by_cases e:(XN w a).2=0;rotate_left
 .rw[Xl e,Wb,Wp e]
 rw[ZW e,Wa,Wk (by simpa using e),Xz];by_cases f:op=15
 .rw[Wp f,XO f,Wb];show bnd (QcH N w.v (XN w a).1) _=_;rw[Vd hw.wea hN,Xa]
 simp[Wk,f,Xf,Wa,Vd,hw.glo,hN,Xa]
def XjW(hw:WB k w)(hN:1000000<N)(h:YQ w=true)(op:Int){a:Int}(g:tU a):QgX N w op a=some (Xfe w op a):=by
 rw[QgX,Xfe];by_cases e:op=17
 .rw[XO e,Wb,Wp e];by_cases f:a>64
  .simp_all
  unfold tU at g;rw[We f,Wa,Wk f,Xd (n:=a) aa aa,Xa6 hw.loc hN,Xa]
 rw[Xf e,Wa,Wk e,JC hw hN h g,Xa];by_cases f:(Z1 w a).2=0;rotate_left
 .grind
 rw[ZW f,Wa,Wk aa,Xcd hw.loc hN,Xa];by_cases j:(Kt w.l).2=0;rotate_left
 .grind
 rw[ZW j,Wa,Wk aa,Xgy (Xce hw.loc) hN,Xa]
def XbA{l:List Is}{id:Int}(h:0<=ZG l id):ZG l id<l.length/\Xb l (ZG l id)=some (Xgx l (ZG l id))/\(Xgx l (ZG l id)).I=id:=by
 unfold ZG at h⊢;cases e:l.findIdx? (λm=>m.I==id)with
 |none=>simp_all
 |some j=>have f:=UH.1 e;have⟨g,hp,_⟩:=f;simp_all[Xe,Xgx,Wq,UT,Wc,g]
def XjX(hw:WB k w)(hN:1000000<N)(o:YQ w=true)(op:Int){a:Int}(p:tU a)(f:Bool):QhQ N w op a f=some (XiM w op a f):=by
 have r:=hw.marks;rw[QhQ,Xa8 hw hN o p,Xa,XiM];by_cases g:(XN w a).2=0;rotate_left
 .rw[Xl g,Wb,Wp g]
 rw[ZW g,Wa,Wk (by simpa using g),Xfd aa hN,Xa];by_cases j:op=20
 .rw[XO j,Wb,Wp j];by_cases e:ZG w.m (XN w a).1<0
  .rw[Wd e,Wb,Wp e]
  rw[We e,Wa,Wk e]
 rw[Xf j,Wa,Wk j];by_cases e:0<=ZG w.m (XN w a).1
 .have⟨s,q,u⟩:=XbA e;rw[Wd (show ZG w.m (XN w a).1>=0 from e),Wb,q,Xa,We (show¬ZG w.m (XN w a).1<0 by omega),Wa];rw[Wk (show¬(ZG w.m (XN w a).1<0/\w.m.length=64) by omega)];by_cases l:(Xgx w.m (ZG w.m (XN w a).1)).M=1000
  .rw[XO l,Wb,Wp ⟨e,l⟩]
  rw[Xf l,Wa,Wk (λh=>l h.2)];cases f<;>rfl
 grind
def XlW(hw:WB k w)(hN:1000000<N)(g:YQ w=true)(op:Int){a b:Int}(l:tU a)(o:tU b):Qhs N w op a b=some (Xc7 w op a b):=by
 rw[Qhs,Xc7,Xz,Xa8 hw hN g l,Xa];by_cases h:op=4
 .rw[XO h,Wb,Wp (.inl h)]
 rw[Xf h,Wa];by_cases j:op=5
 .rw[XO j,Wb,Wp (.inr j)]
 rw[Xf j,Wa,Wk aa,JC hw hN g l,Xa];by_cases f:(Z1 w a).2=0;rotate_left
 .rw[Xl f,Wb,Wp f]
 rw[ZW f,Wa,Wk (by simpa using f)];by_cases e:op=10
 .rw[XO e,Wb,Wp e,JC hw hN g o,Xa]
 simp[Xf,e,Wa,Wk,Ve,hw.loc,hN,Xa]
end
def Xpj{β:Type}(K:Bool->β)(e f:Bool):(jn K λj=>bif e then j true else j f)=K (e||f):=by grind[Xz]
def b2(op a b:Int):(op==a||op==b)=decide (op=a\/op=b):=by grind
def bd(op a:Int)(p:Prop)[Decidable p]:(op==a||decide p)=decide (op=a\/p):=by grind
def Xpk{β:Type}{p:Prop}[Decidable p](x y:β):(bif decide p then x else y)=if p then x else y:=by simp
def Xoq{β:Type}(o:Option β):(bnd o λy=>some y)=o:=by
 cases o
 .exact ZR _
 exact Xa _ _
def Xor{β:Type}{p:Prop}[Decidable p](x y:β):(if p then some x else some y)=some (if p then x else y):=by grind
section
variable {N:Nat}{w:WU}{k:Nat}
def Xp6(hw:WB k w)(hN:1000000<N)(tw:X1 w)(op:Int){a b c:Int}(e:tU a)(h:tU b)(j:tU c)(f:Bool):Qgz N w op a b c f=some (XlU w op a b c f):=by
 rw[Qgz,Xcf hw hN,Xa,XlU];cases g:YQ w
 .rfl
 rw[Wi,Wa,Wk ab];simp only[Xpj,Xoq,XhK hw hN op e h f,XjV hw hN g tw op e h j,XhL hw hN g op e,XlV hw hN g op e,XjW hw hN g op e,XjX hw hN g op e f,XlW hw hN g op e h,b2,bd,Xpk,Xor]
end
def XbB(d:WC):∀(k:Nat)(l:List Int),∀r∈VF d k l,r∈l
 |k,[],r,h=>by assumption
 |k,f::e,r,h=>by
  unfold VF at h;split at h
  .rcases UY.1 h with h|h
   .simp_all
   exact Uj _ (XbB d (k+1) e r h)
  exact Uj _ (XbB d (k+1) e r h)
def zWo:WU:=⟨⟨0,0⟩,[],zL,zT,zT,[],[]⟩
def XlX{k:Nat}(e:k<=900):WB k zWo:=⟨e,by simp[zWo],λx f=>by simp_all[zWo],ZL,by simp[zWo,zT],by simp[zWo,zT],by simp[zWo],by simp[zWo]⟩
section
variable {N:Nat}{w:WU}{k:Nat}
def Xc8(o:w.m.length<=1000):∀(n:Nat)(i:Int)(v:List Int),0<=i->i<=w.m.length->(w.m.length-i).toNat<n->v.length<=100000+i->(∀x∈v,0<=x/\x<=w.T.length)->(∀m∈w.m,0<=m.I/\m.I<=w.T.length)->Ok (QfD N w n i v) λr=>r.length<=v.length+(w.m.length-i)/\∀x∈r,0<=x/\x<=w.T.length
 |0,i,v,_,_,q,_,_,_=>by omega
 |n+1,i,v,s,y,q,z,l,e=>by
  refine Ws (λf=>?_) λf=>Wg ⟨aa,l⟩;have f:i<w.m.length:=Wz f;rw[Xd (n:=i+1) aa aa];refine Ok.get s f λp hp=>W8 aa ?_;have g:=YT hp;refine(Xc8 o n (i+1) _ aa aa aa ah (λx j=>?_) e).mono λr u=>⟨?_,u.2⟩
  .rcases WG.1 j with h|h
   .exact l x h
   rw[UP.1 h];exact e p g
  grind
def XhM(hN:NB N)(hw:WB k w)(l:YQ w=true)(tw:X1 w):Ok (QhP N w) λr=>r.length<=10000/\∀x∈r,0<=x/\x<=w.T.length:=by
 have f:=hN;unfold NB at f;have y:=hw.roots;have o:=hw.marks;have wf:=KZ l;have⟨z,q,s,A,B,u⟩:=tw;have D:=Xgw wf.loc;have E:=Xa7 wf.glo;refine W8 aa ?_;rw[Zw hw.loc aa,Xa,wf.loc,Wb];refine W8 aa ?_;rw[Yr hw.glo aa,Xa,wf.glo,Wb];refine W8 aa (WH (Xc8 o N 0 _ aa aa aa ah (λx j=>?_) λm g=>?_) λr _ h=>Wg ⟨?_,h.2⟩)
 .simp only[WG]at j;rcases j with(h|h)|h
  .exact⟨(u x h).1,wf.roots x h⟩
  .refine⟨?_,wf.rloc x h⟩;obtain⟨p,hp,rfl⟩:=UJ.1 h;exact(q p (Ux.1 hp).1).1
  refine⟨?_,wf.rglo x h⟩;obtain⟨p,hp,rfl⟩:=UJ.1 h;exact(s p (Ux.1 hp).1).1
 .have⟨i,v,e⟩:=WJ g;have:=wf.mk_ (k:=i) (m:=m) (by rw[Wc v,e]);omega
 grind
def Xbb(hN:NB N)(hw:WB k w)(g:YQ w=true)(tw:X1 w)(M:Nat)(l:M<=2000000):∀(n:Nat)(i:Int)(v:List Bool)(q:List Int),0<=i->i<=q.length->(M-i).toNat<n->v.length=w.T.length->(∀x∈q,0<=x/\x<=w.T.length)->q.length+1000*v.countP (λb=>!b)<=M->Ok (Qc9 N w n i v q) λr=>r.length=w.T.length
 |0,i,v,q,_,_,U,_,_,_=>by omega
 |n+1,i,v,q,j,Z,U,o,s,K=>by
  have u:=hN;unfold NB at u;have hk:=hw.kk;have ht:=hw.things;refine W8 aa (Ws (λf=>?_) λ_=>Wg o);have f:i<q.length:=Wz f;rw[Xd (n:=i+1) aa aa];refine Ok.get j f λp hp=>?_;have same:∀y,Xb q i=some y->y=p:=λy h=>WE (h.symm.trans hp);have V:=s p (YT hp);refine Ws (λ_=>Xbb hN hw g tw M l n (i+1) v q aa aa aa o s K) λL=>?_;have L:¬p=0:=by simpa using L
  refine Ok.get j f λO z=>?_;obtain rfl:=same O z;rw[XA (n:=O-1) aa aa];refine Ok.get aa aa λb hb=>Ws (λ_=>Xbb hN hw g tw M l n (i+1) v q aa aa aa o s K) λA=>?_;refine Ok.get j f λR B=>?_;obtain rfl:=same R B;rw[XA (n:=R-1) aa aa];refine Ok.get aa aa λ_ _=>Ok.get j f λe E=>?_;obtain rfl:=same e E;have⟨g1,g2⟩:=Jx hw (id:=e) aa aa;have hf:=hw.fields _ g2;have⟨v1,v2,v3,W⟩:=(KZ g).thing _ g2;have G:=Xbz (thg w e).H 0 (thg w e).D;have G:(Xee (thg w e)).length<=1000:=by unfold Xee;omega
  rw[g1,Xa,Xgv aa aa,Xa];have I:(e-1).toNat<v.length:=aa;have J:v[(e-1).toNat]=false:=by rw[X0 aa aa]at hb;rw[WE hb];exact A
  have hcount:(v.set (e-1).toNat true).countP (λb=>!b)+1<=v.countP (λb=>!b):=by have S:0<v.countP (λb=>!b):=List.countP_pos_iff.2 ⟨v[(e-1).toNat],WL _,by simp_all⟩;rw[List.countP_set I,J];simp;omega
  refine W8 aa (Xbb hN hw g tw M l n (i+1) _ _ aa (by rw[WO];omega) aa (by simp_all) (λx Y=>?_) (by rw[WO];omega));rcases WG.1 Y with h|h
  .simp_all
  refine⟨?_,W x h⟩;exact((tw.1 _ g2).2 x (XbB _ _ _ x h)).1
def XhN(hN:NB N)(hw:WB k w)(e:YQ w=true)(tw:X1 w):Ok (Qgw N w) λr=>r.length=w.T.length:=by have f:=hN;unfold NB at f;have j:=hw.kk;have ht:=hw.things;rw[Qgw,Xcf hw aa,Xa,e,Wi,Wa];refine W8 aa (WH (XhM hN hw e tw) λy _ g=>WH (Xbb hN hw e tw 1100000 aa N 0 _ y aa aa aa (by rw[WT];omega) g.2 ?_) λr _ h=>Wg h);grind[WT]
def Xff(y:List Bool)(h:y.length=w.T.length)(hw:WB k w):∀(n:Nat)(i:Int)(v:List Int),0<=i->i<=v.length->(v.length-i).toNat<n->v.length<=1000->(∀x∈v,0<=x/\x<=w.T.length)->Ok (Qbe N w y n i v) λr=>r.length=v.length
 |0,i,v,_,_,q,_,_=>by omega
 |n+1,i,v,f,A,q,j,l=>by
  have B:=hw.kk;have ht:=hw.things;refine W8 aa (Ws (λe=>?_) λ_=>Wg rfl);have e:i<v.length:=Wz e;rw[Xd (n:=i+1) aa aa];have next:=Xff y h hw n (i+1) v aa aa aa j l
  refine Ok.get f e λp hp=>Ws (λo=>Ok.get f e λp2 g=>?_) λ_=>next
  obtain rfl:p=p2:=WE (hp.symm.trans g);have s:=l p (YT hp);have o:¬p=0:=by simpa using o
  rw[XA (n:=p-1) aa aa];refine Ok.get aa aa λ_ _=>Ws (λ_=>Ok.get f e λ_ _=>?_) λ_=>next
  refine(Xff y h hw n (i+1) _ aa (by rw[WN];omega) (by rw[WN];omega) (by rw[WN];exact j) λx u=>?_).mono λr z=>by rw[z,WN]
  grind
def Xb0(hN:NB N)(hw:WB k w)(tw:X1 w):Ok (QdU N w) λr=>WB k r.1:=by
 have f:=hN;unfold NB at f;rw[QdU,Xcf hw aa,Xa];refine Ws (λ_=>Wg (XlX hw.kk)) λe=>?_;have e:YQ w=true:=by simpa using e
 have wf:=KZ e;have j:=Xa7 wf.wea;refine WH (XhN hN hw e tw) λy _ h=>?_;rw[Yr hw.wea aa,Xa,wf.wea,Wb];refine WH (Xff y h hw N 0 _ aa aa aa aa λx g=>⟨?_,wf.rwea x g⟩) λz _ l=>WH (Xea hw.wea aa aa) λt _ ht=>Wg ⟨hw.kk,hw.things,hw.fields,hw.loc,hw.gloK,UO ht hw.weaK,hw.marksK,hw.rootsK⟩;obtain⟨p,hp,rfl⟩:=UJ.1 g;exact(tw.2.2.2.1 p (Ux.1 hp).1).1
end
def OT{β κ:Type}{P:β->Prop}{k:κ->Option β}{f:(κ->Option β)->Option β}(Q:κ->Prop)(h:∀x,Q x->Ok (k x) P)(g:∀j:κ->Option β,(∀x,Q x->Ok (j x) P)->Ok (f j) P):Ok (Sx.jn k f) P:=by simp_all[Xz]
section
variable {N:Nat}{w:WU}{k:Nat}
def V6(hw:WB k w)(hN:1000000<N)(id:Int):Ok (Qdy N w id) λr=>WB k r.1:=by refine Ui (Wg hw) ?_;rw[Jv hw.loc hN,Xa];exact Uo (ZC _) λy _=>Wg ⟨hw.kk,hw.things,hw.fields,XiE hw.loc id,hw.gloK,hw.weaK,hw.marksK,hw.rootsK⟩
def XiN(hw:WB k w){id i v:Int}(e:1<=id)(f:id<=w.T.length)(g:0<=i)(l:i<(thg w id).D.length):Ok (Qgf N w id i v) λr=>WB k r:=by
 have o:=hw.kk;have ht:=hw.things;have⟨g1,g2⟩:=Jx hw e f;have p:=hw.fields _ g2;rw[Qgf,Xc aa,g1,Xa,Xc aa];refine Ok.get g aa λ_ _=>?_;rw[Xa];refine Wg ⟨hw.kk,?_,λx j=>?_,hw.loc,hw.gloK,hw.weaK,hw.marksK,hw.rootsK⟩
 .simp_all
 rcases Uy j with h|h
 .exact hw.fields x h
 simp_all
def XgA(hw:WB k w)(hN:1000000<N)(op id:Int):Ok (Qfp N w op id) λr=>WB k r.1:=by
 refine Iu (Ui ?_ ?_)
 .rw[Vd hw.wea hN,Xa];exact Uo (ZC _) λy _=>Wg ⟨hw.kk,hw.things,hw.fields,hw.loc,hw.gloK,Xgm hw.weaK id,hw.marksK,hw.rootsK⟩
 rw[Vd hw.glo hN,Xa];exact Uo (ZC _) λy _=>Wg ⟨hw.kk,hw.things,hw.fields,hw.loc,Xgm hw.gloK id,hw.weaK,hw.marksK,hw.rootsK⟩
def XhO(hw:WB k w)(hN:1000000<N)(v:Int):Ok (Qf5 N w v) λr=>WB k r:=by
 refine Uo (Xby _) λy _=>Ui ?_ (Ui ?_ ?_)
 .rw[Xe9 hw.loc hN,Xa];exact Wg ⟨hw.kk,hw.things,hw.fields,XiF hw.loc _ _,hw.gloK,hw.weaK,hw.marksK,hw.rootsK⟩
 .rw[V2 hw.glo hN,Xa];exact Wg ⟨hw.kk,hw.things,hw.fields,hw.loc,Xgn hw.gloK _ _,hw.weaK,hw.marksK,hw.rootsK⟩
 rw[V2 hw.wea hN,Xa];exact Wg ⟨hw.kk,hw.things,hw.fields,hw.loc,hw.gloK,Xgn hw.weaK _ _,hw.marksK,hw.rootsK⟩
def XlY(hw:WB k w)(hN:1000000<N)(o:w.m.length<=64)(op id b:Int)(j:op=20->0<=ZG w.m id):Ok (Qgo N w op id b) λr=>WB k r.1:=by
 have setM:∀l:List Is,l.length<=100+k->WB k ⟨w.c,w.T,w.l,w.g,w.v,l,w.R⟩:=λl p=>⟨hw.kk,hw.things,hw.fields,hw.loc,hw.gloK,hw.weaK,p,hw.rootsK⟩
 rw[Qgo,QhR,Xfd aa hN,Xa,Xa];refine W8 aa (Ws (λh=>?_) λ_=>Ws (λh=>?_) λh=>W8 aa (Wg (setM _ (by grind))))
 .have h:=j (by simp_all);have⟨f,_,_⟩:=XbA h;refine Ok.get h f λ_ _=>Ok.get h f λ_ _=>Ok.get h (by simp_all) λ_ _=>Ws (λ_=>?_) λ_=>Wg (setM _ (by grind));have e:=Xd (n:=ZG w.m id+1) aa aa;refine W8 aa (W8 aa (W8 aa (Wg (setM _ ?_))));simp;omega
 have h:0<=ZG w.m id:=Wz h;have⟨f,_,_⟩:=XbA h;exact Ok.get h f λ_ _=>Ok.get h f λ_ _=>Ok.get h (by simp_all) λ_ _=>Wg (setM _ (by grind))
def WB.up(hw:WB k w)(e:k+1<=900):WB (k+1) w:=⟨e,by have:=hw.things;omega,hw.fields,hw.loc,by have:=hw.gloK;omega,by have:=hw.weaK;omega,by have:=hw.marksK;omega,by have:=hw.rootsK;omega⟩
def XlZ(hN:NB N)(hw:WB k w)(hk:k+1<=900)(tw:X1 w)(op:Int){a b c:Int}(ta:tU a)(A:tU b)(tc:tU c)(ft:Oo):Ok (Qgp N w op a b c ft) λr=>WB (k+1) r.1:=by
 have hN':=hN;unfold NB at hN';have j:1000000<N:=aa;have zero:WB (k+1) zWo:=XlX hk;rw[Qgp,Xp6 hw j tw op ta A tc,Xa];refine Ws (λ_=>Wg zero) λf=>?_;have f:XlU w op a b c ft.Failed=0:=by simpa using f
 have I:YQ w=true:=by
  cases h:YQ w
  .unfold XlU at f;rw[h]at f;cases f
  rfl
 have wf:=KZ I;unfold XlU at f;rw[I,Wk ab]at f;have thing:(XN w a).2=0->1<=(Z1 w a).1/\(Z1 w a).1<=w.T.length/\XN w a=Z1 w a:=λh=>by obtain⟨J,K,t3⟩:=Xef hw I tw ta h;rw[t3]at J K;exact⟨J,K,t3⟩
 refine OT (λx=>¬(op<=3\/op=17)->x=(Z1 w a).1) (λB hx3=>?_) λj1 s=>?_;rotate_left
 .refine Ws (λhg=>Ws (λL=>?_) λL=>s _ λh=>absurd (Or.inr (by simpa using L)) h) λhg=>s _ λh=>absurd (Or.inl (by have:=WM hg;omega)) h;rw[JC hw j I ta,Xa];exact s _ λ_=>rfl
 simp only[Xpj];refine Ws (λM=>?_) λM=>?_
 ·
  have M:op=1\/op=2\/op=3:=by simpa using M
  rw[Wp M]at f;obtain⟨d,hd,hd2⟩:=Xgz (N:=N) op ta A;have E:okW op a b/\Xa9 w.c (hdW op a b)=true:=by
   unfold Xba at f;split at f
   .cases f
   split at f
   .cases f
   rename_i _ h2;split at f
   .cases f
   rename_i h3;exact⟨Classical.not_not.1 h2,by simpa using h3⟩
  have hdd:=hd2 E.1;have hvd:XL d=true:=by have:=E.2;unfold Xa9 at this;rw[W7]at this;rw[hdd];exact this.1
  have hb:=XY hvd;have main:∀w':WU,WB k w'->Ok (α:=WU×Int×Int) (bnd (QbI N op a b) λz=>
   grd (w'.T.length*48<=140737488355328) <|
   grd (0<=z.1.n/\z.1.n.toNat*8<=140737488355328) <|
   grd ((w'.T.length+1)*48<=140737488355328) <|
   grd ((w'.T.length+1)<=140737488355328) <|
   bnd (Qdy N (WU.mk (WV.mk w'.c.W w'.c.p) (w'.T++[(Ii.mk z.1 (List.replicate z.1.n.toNat 0))]) (Wm.mk w'.l.S w'.l.x w'.l.i) (Wr.mk w'.g.e) (Wr.mk w'.v.e) w'.m w'.R) (wU (((w'.T.length+1):Nat):Int))) λO=>
   some (O.1,O.2,0)) λr=>WB (k+1) r.1:=by
   intro w' q
   have ht:=q.things
   rw[hd,Xa]
   refine W8 aa (W8 (by constructor<;>simp only<;>omega) (W8 aa (W8 aa (Uo (V6 (k:=k+1) (w:=⟨w'.c,w'.T++[⟨d,List.replicate d.n.toNat 0⟩],w'.l,w'.g,w'.v,w'.m,w'.R⟩) ⟨hk,?_,λx hx=>?_,q.loc,IC q.gloK,IC q.weaK,IC q.marksK,IC q.rootsK⟩ j _) λy o=>Wg o))))
   .show(w'.T++[_]).length<=_;rw[WO];simp;omega
   .rcases WG.1 hx with h|h
    .exact q.fields x h
    .rw[UP.1 h];show(List.replicate _ _).length<=_;rw[WT];omega
  refine Iu (Ws (λ_=>WH (Xb0 hN hw tw) λy _ o=>?_) λ_=>?_)
  .exact main y.1 o
  exact main w hw
 have hn1:¬(op=1\/op=2\/op=3):=by simpa using M
 rw[Wk hn1]at f;have U:∀v e:Int,Ok (α:=WU×Int×Int) (some (w,v,e)) λr=>WB (k+1) r.1:=λv e=>Wg (hw.up hk);have up:∀{w':WU},WB k w'->WB (k+1) w':=λh=>WB.up h hk;have pl:(op=4\/op=5\/op=10\/op=11)->Xc7 w op a b=0:=λh=>by rw[Wk aa,Wk aa,Wk aa,Wk aa,Wk aa,Wp h]at f;exact f
 have len:(op=4\/op=5)->1<=B/\B<=w.T.length:=λh=>by have s:=pl aa;unfold Xc7 at s;rw[Wp h]at s;have:=thing s;rw[hx3 aa];exact⟨this.1,this.2.1⟩
 have fld:(op=6\/op=7\/op=8\/op=9)->(1<=B/\B<=w.T.length)/\b<(thg w B).D.length/\wI b=b:=λh=>by
  rw[Wp h]at f;unfold Xcg at f;by_cases s:(XN w a).2=0;rotate_left
  .rw[Wp s]at f;exact absurd f s
  rw[Wk (by simpa using s)]at f;obtain⟨J,K,t3⟩:=thing s;have e:B=(Z1 w a).1:=hx3 aa;rw[t3,←e]at f;rw[←e]at J K;obtain⟨g1,g2⟩:=Jx hw J K;obtain⟨v1,v2,v3,v4⟩:=wf.thing _ g2;have vb:=XY v1;by_cases h2:b>=(thg w B).H.n
  .rw[Wp h2]at f;cases f
  have:=A.1;exact⟨⟨J,K⟩,aa,Xd aa aa⟩
 refine Ws (λh4=>?_) λn4=>Ws (λh5=>?_) λn5=>Ws (λh6=>?_) λn6=>Ws (λh7=>?_) λn7=>Ws (λh8=>?_) λn8=>Ws (λh9=>?_) λn9=>Ws (λh10=>?_) λn10=>Ws (λh11=>?_) λn11=>?_
 .have h4:op=4:=by simpa using h4
  have:=len (.inl h4);rw[(Jx hw this.1 this.2).1,Xa];exact U _ _
 .have h5:op=5:=by simpa using h5
  have:=len (.inr h5);rw[(Jx hw this.1 this.2).1,Xa];exact U _ _
 .have h6:op=6:=by simpa using h6
  obtain⟨u,G,V⟩:=fld aa;rw[(Jx hw u.1 u.2).1,Xa];exact Ok.get A.1 G λ_ _=>U _ _
 .have h7:op=7:=by simpa using h7
  obtain⟨u,G,V⟩:=fld aa;rw[V];exact Uo (XiN hw u.1 u.2 A.1 G) λy o=>Wg (up o)
 .have h8:op=8:=by simpa using h8
  obtain⟨u,G,V⟩:=fld aa;rw[(Jx hw u.1 u.2).1,Xa];exact Ok.get A.1 G λ_ _=>Uo (V6 hw j _) λy o=>Wg (up o)
 .have h9:op=9:=by simpa using h9
  obtain⟨u,G,V⟩:=fld aa;rw[JC hw j I tc,Xa,V];exact Uo (XiN hw u.1 u.2 A.1 G) λy o=>Wg (up o)
 .rw[JC hw j I A,Xa];exact Ui (U _ _) (U _ _)
 .exact Uo (V6 hw j _) λy o=>Wg (up o)
 have n6:¬op=6:=by simpa using n6
 have n7:¬op=7:=by simpa using n7
 have n8:¬op=8:=by simpa using n8
 have n9:¬op=9:=by simpa using n9
 refine Ws (λ_=>Uo (XgA hw j _ _) λy o=>Wg (up o)) λnl=>?_;have nl:¬(op=13\/op=15):=by simpa using nl
 refine Ws (λ_=>Uo (XhO hw j _) λy o=>Wg (up o)) λnr=>?_;have nr:¬(op=12\/op=14\/op=16):=by simpa using nr
 refine Ws (λ_=>?_) λY=>Ws (λ_=>?_) λZ=>?_
 .rw[Xa6 hw.loc j,Xa];exact Wg (up ⟨hw.kk,hw.things,hw.fields,Xgk hw.loc _,hw.gloK,hw.weaK,hw.marksK,hw.rootsK⟩)
 .rw[Xcd hw.loc j,Xa];exact Uo (V6 (w:=⟨w.c,w.T,(Kt w.l).1,w.g,w.v,w.m,w.R⟩) ⟨hw.kk,hw.things,hw.fields,Xce hw.loc,hw.gloK,hw.weaK,hw.marksK,hw.rootsK⟩ j _) λy o=>Wg (up o)
 have Y:¬op=17:=by simpa using Y
 have Z:¬op=18:=by simpa using Z
 rw[Wk aa,Wk aa,Wk aa,Wk aa]at f;refine Uo (XlY hw j wf.m64 op B _ λh20=>?_) λy o=>Wg (up o);unfold XiM at f;grind
end
def XiO{α:Type}{l:List α}{F:Nat->Int->Option (Ex Int Unit)}{p:α->Bool}(g:l.length<=1000000)(e:∀(n k:Nat)(x:α),l[k]? = some x->F (n+1) (k:Int)=bif p x then some (.ret (k:Int))else F n ((k+1:Nat):Int))(f:∀n:Nat,F (n+1) (l.length:Int)=some (.nxt ())):∀(n k:Nat),k<=l.length->l.length-k<n->F n (k:Int)=some (match (l.drop k).findIdx? p with|some j=>.ret ((k+j:Nat):Int)|none=>.nxt ())
 |0,k,_,o=>by omega
 |n+1,k,q,o=>by
  by_cases h:k<l.length
  .rw[e n k _ (Wc h),Wu h,IO];cases hp:p l[k]
   .rw[Wa,XiO g e f n (k+1) aa aa,Wk ab];cases (l.drop (k+1)).findIdx? p with
    |none=>rfl
    |some j=>simp only[UX];rw[show k+1+j=k+(j+1) by omega]
   simp
  grind
def JT{α:Type}(p:α->Bool)(l:List α):Int:=match l.findIdx? p with|some j=>(j:Int)|none=>-1
def JE{α:Type}{l:List α}{F:Nat->Int->Option (Ex Int Unit)}{p:α->Bool}{N:Nat}(o:l.length<=1000000)(hN:1000000<N)(f:∀(n k:Nat)(x:α),l[k]? = some x->F (n+1) (k:Int)=bif p x then some (.ret (k:Int))else F n ((k+1:Nat):Int))(g:∀n:Nat,F (n+1) (l.length:Int)=some (.nxt ())):(bnd (F N 0) λe=>exK e (λr=>some r) λ_=>some (-1))=some (JT p l):=by
 have h:=XiO o f g N 0 aa aa;rw[show((0:Nat):Int)=0 from rfl,WY]at h;rw[h,Xa,JT];cases l.findIdx? p with
 |none=>simp[Xq]
 |some j=>simp[XD,UC]
def Ku{α:Type}(p:α->Bool)(l:List α):decide (JT p l>=0)=l.any p:=by unfold JT;grind
section
variable {N:Nat}
def Xos(e:WQ):QgB N e=some (!XbZ e):=by rw[QgB];unfold XbZ;grind
def Xfg{α:Type}(p:α->Bool)(l:List α):(!l.any λx=>!p x)=l.all p:=by grind
def JU{t:Wr}(f:TB t)(hN:1000000<N):QdA N t=some (YX t.e):=by
 unfold TB at f;rw[QdA,QaQ,QaV];rw[JE (p:=λe=>!XbZ e) f hN (λn k x e=>by
  have g:=XC e
  rw[Qal,Xn g,Wb,Xe,e,Xa,Xos,Xa,Xg aa]) (λn=>by rw[Qal,XB,Wa])]
 rw[Xa,Xa,Ku,Xfg,YX,show decide ((t.e.length:Int)<=64)=decide (t.e.length<=64)from decide_eq_decide.2 aa];grind
def XbC{t:Wr}(f:t.e.length<=1000000):∀(n k:Nat)(v:List Int),k<=t.e.length->t.e.length-k<n->v.length<=k ->
 QeC N t n (k:Int) v=some (v++XS (t.e.drop k))
 |0,k,v,_,g,_=>by omega
 |n+1,k,v,l,g,j=>by
  rw[QeC];by_cases h:k<t.e.length
  .rw[Xn h,Wb,Xe,Wc h,Xa,Xg aa,Wu h,XS];cases o:t.e[k].V
   .rw[Wa,XbC f n (k+1) v aa aa aa,UV (by simp_all)];rfl
   rw[Wb,Xc aa,XbC f n (k+1) _ aa aa (by simp_all),Uw aa];simp[XS]
  obtain rfl:k=t.e.length:=aa;simp[XS]
def K0{t:Wr}(f:TB t)(hN:1000000<N):Qeg N t=some (bif YX t.e then XS t.e else[]):=by
 rw[Qeg,JU f hN,Xa];cases g:YX t.e
 .rfl
 have h:=XbC (N:=N) (t:=t) f N 0 [] aa (by unfold TB at f;omega) ab;rw[show((0:Nat):Int)=0 from rfl,WY,Uh]at h;simp[Wi,Wa,h,Xa]
def XjY(x:Int):QgA N x=some (!(!decide (x<0)&&!decide (x>4095))):=by rw[QgA,show decide (x>=4096)=decide (x>4095)from decide_eq_decide.2 aa];cases decide (x<0)<;>cases decide (x>4095)<;>rfl
def Xeg{a:Wm}:∀(n:Nat)(s i:Int),Qa5 N ⟨a⟩ n s i=Qap N a n s i
 |0,s,i=>by rfl
 |n+1,s,i=>by rw[Qa5,Qap];have e:∀s i,Qa5 N ⟨a⟩ n s i=Qap N a n s i:=Xeg n;simp_all
def Xc9{a:Wm}:∀(n:Nat)(s i:Int),Qbi N ⟨a⟩ n s i=Qaw N a n s i
 |0,s,i=>by rfl
 |n+1,s,i=>by rw[Qbi,Qaw];have e:∀s i,Qbi N ⟨a⟩ n s i=Qaw N a n s i:=Xc9 n;grind
def XjZ{a:Wm}(g:LBp a)(e:neB a.S.length a.x=true){k:Nat}{p:UG}(hp:a.x[k]? = some p):Qep N ⟨a⟩ (k:Int)=some ((a.S.drop p.O.toNat).take ((toL a k).toNat-p.O.toNat)):=by
 have j:=VD e hp;have s:=XC hp;have o:=g.2.1;have q:(I7.mk a).l.S.length=a.S.length:=rfl;rw[Qep,Xg aa,toL];by_cases h:k+1<a.x.length
 .have f:=Wc h;have r:=VD e f;have:=j.2.2.2.2.2 _ f;rw[Xn h,Wb,Xe,hp,Xa,Xe,f,Xa,Xc aa]
 rw[show decide (((k+1:Nat):Int)<(a.x.length:Int))=false from We aa,Wa,Xe,hp,Xa,Xc aa,WZ aa];simp[Ur,Wl]
def Xda(l:List UA)(e:l.length<=1000000):∀(n k c:Nat),k<=l.length->l.length-k<n->c<=k->QbQ N l n (c:Int) (k:Int)=some (((c+(l.drop k).countP (·.V):Nat):Int))
 |0,k,c,_,f,_=>by omega
 |n+1,k,c,g,f,j=>by
  rw[QbQ];by_cases h:k<l.length
  .rw[Xn h,Wb,Xe,Wc h,Xa,Xg aa,Xg aa,Wu h,List.countP_cons];cases o:l[k].V
   .rw[Wa,Xda l e n (k+1) c aa aa aa];simp
   rw[Wb,Xda l e n (k+1) (c+1) aa aa aa];simp;omega
  grind
def XgB{a:Wm}(g:LBp a)(hN:1000000<N)(f:neB a.S.length a.x=true){k:Nat}{p:UG}(hp:a.x[k]? = some p):QdP N ⟨a⟩ (k:Int)=some ((Ky a.S p.O.toNat (toL a k).toNat:Nat):Int):=by
 have j:=g.1;rw[QdP,XjZ g f hp,Xa];have e:((a.S.drop p.O.toNat).take ((toL a k).toNat-p.O.toNat)).length<=1000000:=by rw[Wj,Wl];omega
 have h:=Xda (N:=N) _ e N 0 0 aa aa aa;rw[show((0:Nat):Int)=0 from rfl,WY,UC]at h;rw[h,Xa];rfl
def Ji{a:Wm}(o:LBp a)(hN:1000000<N):QcW N a=some (YY a):=by
 have g:=o;have⟨u,v,hl3⟩:=o;rw[QcW,Qbu,QbW];rw[JE (p:=λx=>!(!decide (x<0)&&!decide (x>4095))) hl3 hN (λn k x e=>by
  have f:=XC e
  rw[QaP,Xn f,Wb,Xe,e,Xa,XjY,Xa,Xg aa]) (λn=>by rw[QaP,XB,Wa])]
 have y:=JQ (l:=a.S) (F:=λn s i=>Qaw N a n s i) (q:=stQ a.i) (nxp:=λ_ p=>p.J) (I:=λs=>0<=s) (λn s k p r e=>by
  have f:=XC e
  show Qaw N a (n+1) s (k:Int)=_
  rw[Qaw,Xn f,Wb,Xe,e,Xa,Xg aa]
  unfold stQ
  cases g1:decide (p.J<=s)
  .cases g2:decide (p.J>(a.i.length:Int))
   .have g1:=WM g1
    have g2:=WM g2
    rw[Wa,Wa,Xd aa aa,X0 aa aa,Xa]
    have ge:a.i[(p.J-1).toNat]'aa=a.i.getD (p.J-1).toNat 0:=by
     rw[Wq,Wc aa];rfl
    rw[ge]
    cases (a.i.getD (p.J-1).toNat 0 != (k:Int))<;>cases (p.V==(p.a != 0))<;>rfl
   .rfl
  .rfl) (λn s=>by show Qaw N a (n+1) s _=_;rw[Qaw,XB,Wa]) (λs k p r e h=>by
   unfold stQ at h
   simp only[W7,IY,IH]at h
   have:=h.1
   omega) N 0 0 aa aa aa
 have z:=JQ (l:=a.x) (F:=λn s i=>Qap N a n s i) (q:=neQ a.S.length) (nxp:=λ_ p=>p.O) (I:=λ_=>True) (λn s k p r e=>by
  have f:=XC e
  show Qap N a (n+1) s (k:Int)=_
  rw[Qap,Xn f,Wb,Xe,e,Xa,Xg aa]
  unfold neQ
  cases ((k:Int)==0)<;>cases (p.O != 0)<;>cases p.B0<;>cases decide (p.O<s)<;>cases decide (p.O>(a.S.length:Int))<;>cases decide (p.C0<0)<;>cases decide (p.C0>64)<;>rfl) (λn s=>by show Qap N a (n+1) s _=_;rw[Qap,XB,Wa]) (λ_ _ _ _ _ _=>trivial) N 0 0 trivial aa aa
 have A:Qaw N a N 0 0=some (bif stB a.i a.S then .nxt ()else .ret false):=y;have e3:Qap N a N 0 0=some (bif neB a.S.length a.x then .nxt ()else .ret false):=z;have B:QdY N ⟨a⟩=some (!decide ((a.x.length:Int)>64)&&((!((a.x.length:Int)==0)||!decide ((a.S.length:Int)>0))&&neB a.S.length a.x)):=by rw[QdY,Xz,Xeg,e3,Xa];cases neB a.S.length a.x<;>cases decide ((a.x.length:Int)>64)<;>cases ((a.x.length:Int)==0)<;>cases decide ((a.S.length:Int)>0)<;>simp only[Wb,Wa,XD,Xq]<;>rfl
 have D:QdL N ⟨a⟩=some (stB a.i a.S):=by rw[QdL,Xc9,A,Xa];cases stB a.i a.S<;>simp only[Wb,Wa,XD,Xq]
 rw[Xa,Xa,Ku,B,Xa,D,Xa,YY,Xon];have E:(a.i.any λx=>!(!decide (x<0)&&!decide (x>4095))) = !(a.i.all λp=>!decide (p<0)&&!decide (p>4095)):=by rw[←Xfg,Bool.not_not]
 rw[E];cases decide ((a.i.length:Int)>4096);rotate_left
 .rfl
 cases (a.i.all λp=>!decide (p<0)&&!decide (p>4095))
 .cases decide ((a.x.length:Int)>64)<;>cases (!((a.x.length:Int)==0)||!decide ((a.S.length:Int)>0))<;>rfl
 cases decide ((a.x.length:Int)>64);rotate_left
 .rfl
 cases (!((a.x.length:Int)==0)||!decide ((a.S.length:Int)>0))
 .rfl
 cases j:neB a.S.length a.x
 .cases stB a.i a.S<;>rfl
 cases stB a.i a.S
 .rfl
 simp;have G:=Jt (l:=a.x) (F:=Qd8 N a) (q:=XlQ a ()) (λn k p e=>by
  have f:=XC e
  rw[Qd8,Xn f,Wb,Xe,e,Xa,XgB g hN j e,Xa,Xg aa]
  unfold XlQ
  cases decide (((Ky a.S p.O.toNat (toL a k).toNat:Nat):Int)>p.C0)<;>rfl) (λn=>by rw[Qd8,XB,Wa]) (n:=N) aa
 rw[G,Xa];show exK (bif XhC a then Ex.nxt ()else Ex.ret false) _ _=_;cases XhC a
 .rw[Wa,XD]
 simp[Wb,Xq]
def XbD{a:Wm}(e:a.S.length<=1000000):∀(n k:Nat)(v:List Int),k<=a.S.length->a.S.length-k<n->v.length<=k ->
 QeD N a n (k:Int) v=some (v++X7 (a.S.drop k))
 |0,k,v,_,f,_=>by omega
 |n+1,k,v,j,f,g=>by
  rw[QeD];by_cases h:k<a.S.length
  .rw[Xn h,Wb,Xe,Wc h,Xa,Xg aa,Wu h,X7];cases l:a.S[k].V
   .rw[Wa,XbD e n (k+1) v aa aa aa,UV (by simp_all)];rfl
   rw[Wb,Xc aa,XbD e n (k+1) _ aa aa (by simp_all),Uw aa];simp[X7]
  obtain rfl:k=a.S.length:=aa;simp[X7]
def XbE{a:Wm}(e:LBp a)(hN:1000000<N):Qgr N a=some (bif YY a then X7 a.S else[]):=by
 rw[Qgr,Ji e hN,Xa];cases f:YY a
 .rfl
 have h:=XbD (N:=N) (a:=a) e.1 N 0 [] aa (by have:=e.1;omega) ab;rw[show((0:Nat):Int)=0 from rfl,WY,Uh]at h;simp[Wi,Wa,h,Xa]
end
def K1(N:Nat)(c:WV):Qcn N c=some (Yk c):=by exact Zv N c
def Xl0(N:Nat)(c:WV):QfE N c=some (smC c):=by exact Xir N c
def VH(N:Nat)(c:WV)(w:Int):QfF N c w=some (XF c w):=by
 simp only[QfF,K1,Xl0,Xa,XF,smC];cases j:Yk c with
 |false=>simp
 |true=>
  have h:=Xu.1 j;simp only[Wi,Wa,if_true,Uv];rw[Xd (n:=4*c.W) aa aa];by_cases f:w<1
  .rw[Wp f,Wk (show¬(True/\1<=w)fromλh=>aa)]
  rw[Wk f,Wp (show True/\1<=w from⟨trivial,aa⟩)];by_cases g:w>4*c.W
  .rw[Wp g];simp only[Wk (show¬w<=c.W / 4 by omega),Wk (show¬c.W>=w by omega),Wk (show¬2*c.W>=w by omega),Wk (show¬3*c.W>=w by omega),Wk (show¬4*c.W>=w by omega)]
  rw[Wk g];by_cases e:w<=c.W / 4
  .rw[Wp e,Wp e]
  rw[Wk e,Wk e,Xc aa,Xd (n:=w+c.W) aa aa,Xd (n:=w+c.W-1) aa aa,U8 aa];have key:∀k:Int,k*c.W<=w+c.W-1->w+c.W-1<(k+1)*c.W->(w+c.W-1) / c.W=k:=by intro k a b;have l:=Int.ediv_lt_of_lt_mul (show 0<c.W by omega) b;have o:=Int.le_ediv_of_mul_le (show 0<c.W by omega) a;omega
  split
  .rw[key 1 aa aa];rfl
  split
  .rw[key 2 aa aa];rfl
  split
  .rw[key 3 aa aa];rfl
  split
  .rw[key 4 aa aa];rfl
  omega
def XhP(N:Nat)(c:WV)(a:Int)(j:a<=18446744073709551615):Qb2 N c a=Qc8 N c a:=by
 rw[JP];simp only[Qb2,K1,Xa,Uv];cases e:Yk c with
 |false=>simp
 |true=>
  have h:=Xu.1 e;have l:=X4 e (i:=0) aa aa;simp only[Wi,Wa];rw[Wk (show¬(true=false) by simp),Int.mul_comm c.W c.p];rw[Xd (n:=c.p*c.W) aa aa,XA (n:=c.p*c.W) aa aa];by_cases f:a<4096
  .grind
  rw[Wk f,XA (n:=a-4096) aa aa];by_cases o:a>=4096+c.p*c.W
  .grind
  rw[Wk aa,Wp aa,Xc aa,Xc aa];rw[Xd (n:=a-4096) aa aa,U8 aa,Ip aa];have hd:0<=(a-4096) / c.W:=Int.ediv_nonneg aa aa;have g:(a-4096) / c.W<=a-4096:=Int.ediv_le_self _ aa;rw[Xd aa aa]
def VJ(N:Nat)(c:WV)(p o:Int):QdJ N c p o=Qbv N c p o:=by
 rw[KO];simp only[QdJ,K1,Xa,Uv];cases h:Yk c with
 |false=>simp
 |true=>
  simp only[Wi,Wa];rw[Wk (show¬(true=false) by simp)];by_cases e:p<0
  .rw[Wp e,Wk aa]
  rw[Wk e];by_cases f:p>=c.p
  .rw[Wp f,Wk aa]
  rw[Wk f];by_cases g:o<0
  .rw[Wp g,Wk aa]
  rw[Wk g];by_cases j:o>=c.W
  .rw[Wp j,Wk aa]
  have l:=X4 h (i:=p) aa aa;rw[Xd (n:=p*c.W) aa aa,Xd (n:=p*c.W+o) aa aa,XA (n:=p*c.W+o) aa aa,XA aa aa];unfold Xj;grind
def Kb(sp:Int)(p:Wv):Bool:=p.k==3&&p.s==sp
def VK(e:List Wv)(sp:Int)(i:Nat):Nat:=((e.drop i).takeWhile (Kb sp)).length
def XgC(N:Nat)(e:List Wv)(sp:Int)(l:e.length<=1000000):∀(n c i:Nat),i<=e.length->c<=i->e.length-i<n->Qd0 N e sp n (c:Int) (i:Int)=some (((c+VK e sp i:Nat):Int))
 |0,c,i,_,_,h=>by omega
 |n+1,c,i,h,o,p=>by
  rw[Qd0];by_cases f:i<e.length
  .rw[Wd aa,Wb,Xe,Wc f,Xa,Xa];have hd:e.drop i=e[i]::e.drop (i+1):=Wu f;unfold VK;rw[hd,List.takeWhile_cons];cases g:(e[i].k==3)with
   |false=>simp[Kb,g]
   |true=>
    cases j:(e[i].s==sp)with
    |false=>simp[Kb,g,j]
    |true=>rw[Wb,show Kb sp e[i]=true by simp[Kb,g,j],Wp rfl];rw[Xg aa,Xg aa,XgC N e sp l n (c+1) (i+1) aa aa aa];unfold VK;grind
  have:e.drop i=[]:=UK aa;rw[We aa,Wa];simp[VK,this]
def Xl1{N:Nat}(e:List Wv)(sp:Int)(f:e.length<=1000000)(hN:1000000<N)(i:Nat)(g:i<e.length):QfM N e (i:Int) sp=some ((VK e sp (i+1):Nat):Int):=by rw[QfM,Xg aa,show(0:Int)=((0:Nat):Int)from rfl,XgC N e sp f N 0 (i+1) aa aa aa,Xa,UC]
def Xbc{α:Type}(q:α->Bool):∀(l:List α)(k:Nat),k<=(l.takeWhile q).length↔k<=l.length/\(l.take k).all q=true
 |[],k=>by simp
 |a::l,0=>by simp
 |a::l,k+1=>by
  rw[List.takeWhile_cons];cases h:q a with
  |false=>grind
  |true=>simp[h];exact Xbc q l k |>.trans ab
def Yc(sp:Int)(p:Wv):Bool:=Kb sp p&&(p.u==0&&p.P==0)
def XiP(N:Nat)(o:List Wv)(f:Int)(g:Wv)(q p:Int)(l:List Wv)(v:l.length<=1000000)(hd:((o.drop (wI (f+1)).toNat).take ((wI (f+p)).toNat-(wI (f+1)).toNat))=l)(r:min ((wI (f+p)).toNat-(wI (f+1)).toNat) (o.length-(wI (f+1)).toNat)=l.length):
 ∀(n k:Nat),k<=l.length->l.length-k<n->Qf6 N o f g q p n (k:Int)=some (if(l.drop k).all (Yc g.s)=true then .nxt ()else .ret 0)
 |0,k,_,h=>by omega
 |n+1,k,h,y=>by
  rw[Qf6,hd,r];by_cases j:k<l.length
  .rw[Wd aa,Wb,Xe,Wc j,Xa,QfY,Xa,Wu j,List.all_cons];have e:((l[k].k==3)&&((l[k].s==g.s)&&((l[k].u==0)&&(l[k].P==0))))=Yc g.s l[k]:=by unfold Yc Kb;rw[Bool.and_assoc]
   rw[e];cases z:Yc g.s l[k]with
   |false=>simp
   |true=>rw[Wi,Wa,Xg aa,XiP N o f g q p l v hd r n (k+1) aa aa,W5]
  grind
def Yb(c:WV)(e:List Wv)(i:Nat)(p:Wv):Nat:=
 if p.k=0 then(if p.s=0/\p.u=0/\p.P=0 then 1 else 0)
 else if(p.s=0\/p.s=1)/\0<=p.P/\p.P<=2147483647 then
  (if p.k=1 then(if 0<=p.u/\p.u<=c.W then 1 else 0)
   else if p.k=2 then(if 1<=XF c p.u/\(XF c p.u).toNat<=e.length-i/\((e.drop (i+1)).take ((XF c p.u).toNat-1)).all (Yc p.s)=true then(XF c p.u).toNat else 0)
   else 0)
 else 0
def ZX(N:Nat)(p:Wv):Qb7 N p=some (decide (p.s=0\/p.s=1)):=by rw[Qb7];grind
def V7(N:Nat)(p:Wv):QdN N p=some (decide (0<=p.P/\p.P<=2147483647)):=by grind[QdN]
def Kz{N:Nat}{c:WV}{h:List Wv}(E:h.length<=100000)(hN:1000000<N){i:Nat}(A:i<h.length):QhG N c h (i:Int)=some ((Yb c h i h[i]:Nat):Int):=by
 rw[QhG,Xe,Wc A,Xa,Xz];generalize hp:h[i]=p;unfold Yb;by_cases k0:p.k<0
 .grind
 rw[We k0,Wa];by_cases B:p.k>=3
 .grind
 rw[We B,Wa];by_cases r:p.k=0
 .rw[show(p.k==0)=true by simpa using r,Wb,Wp r,QgP,Xa];grind
 rw[show(p.k==0)=false by simp_all,Wa,Wk r];by_cases e:(p.s=0\/p.s=1);case neg=>
  rw[Wk (λj=>e j.1)]
  by_cases l:p.k=1
  .rw[show(p.k==1)=true by simp_all,Wb,Qd6,ZX,Xa,We e,Wa,Xa];rfl
  .have v:p.k=2:=aa
   rw[show(p.k==1)=false by simp_all,Wa,show(p.k==2)=true by simp_all,Wb,Qd7,ZX,Xa,We e,Wa,Xa];rfl
 by_cases g:0<=p.P/\p.P<=2147483647;case neg=>
  rw[Wk (λj=>g j.2)]
  by_cases l:p.k=1
  .rw[show(p.k==1)=true by simp_all,Wb,Qd6,ZX,Xa,Wd e,Wb,V7,Xa,We g,Wa,Xa];rfl
  .have v:p.k=2:=aa
   rw[show(p.k==1)=false by simp_all,Wa,show(p.k==2)=true by simp_all,Wb,Qd7,ZX,Xa,Wd e,Wb,V7,Xa,We g,Wa,Xa];rfl
 rw[Wp ⟨e,g⟩];by_cases l:p.k=1
 .rw[show(p.k==1)=true by simpa using l,Wb,Qd6,ZX,Xa,Wd e,Wb,V7,Xa,Wd g,Wb,Wp l];by_cases y:0<=p.u
  .by_cases z:p.u<=c.W
   .simp[y,z,Xa]
   simp[y,z,Xa]
  simp[y,Xa]
 have v:p.k=2:=aa;rw[show(p.k==1)=false by simp_all,Wa,show(p.k==2)=true by simp_all,Wb,Qd7,ZX,Xa,Wd e,Wb,V7,Xa,Wd g,Wb,Wk l,Wp v];simp only[VH,Xa];by_cases o:XF c p.u>=1;case neg=>grind
 rw[Wd o,Wi,Wa,show((2:Int) != 2)=false from rfl,Wa,Xd (n:=(h.length:Int)-i) aa aa];by_cases q:XF c p.u>(h.length:Int)-i
 .grind
 rw[We q,Wa];have w1:wI ((i:Int)+1)=((i+1:Nat):Int):=Xg aa;have w2:wI ((i:Int)+XF c p.u)=(i:Int)+XF c p.u:=Xd aa aa;rw[Xc aa];have D:(wI ((i:Int)+1)).toNat=i+1:=by rw[w1];omega
 have G:(wI ((i:Int)+XF c p.u)).toNat-(wI ((i:Int)+1)).toNat=(XF c p.u).toNat-1:=by rw[D,w2];omega
 rw[show(0:Int)=((0:Nat):Int)from rfl,XiP N h (i:Int) p 2 (XF c p.u) ((h.drop (i+1)).take ((XF c p.u).toNat-1)) (by grind) (by simp_all) (by simp_all) N 0 aa (by grind),Xa,WY];by_cases f:((h.drop (i+1)).take ((XF c p.u).toNat-1)).all (Yc p.s)=true
 .rw[Wp f,Xq,Wp ⟨o,aa,f⟩];grind
 rw[Wk f,XD,Wk (λj=>f j.2.2)];rfl
def XT{p:Prop}[Decidable p](h:¬p):decide p=false:=We h
def Xeh{N:Nat}{h:Wo}(y:h.p.length<=100000){sp:Int}(l:sp=0\/sp=1):∀(k n i:Nat),i+k<=h.p.length->((h.p.drop i).take k).all (Kb sp)=true ->
 QaL N h (n+k) (k:Int) (i:Int)=if((h.p.drop i).take k).all (Yc sp)=true then QaL N h n 0 ((i+k:Nat):Int)else some (.ret false)
 |0,n,i,o,f=>by simp
 |k+1,n,i,o,f=>by
  have g:i<h.p.length:=aa;have hd:(h.p.drop i).take (k+1)=h.p[i]::(h.p.drop (i+1)).take k:=by rw[Wu g,List.take_succ_cons]
  rw[hd,List.all_cons,W7]at f;rw[hd,List.all_cons,show n+(k+1)=(n+k)+1 from rfl,QaL,Wd aa,Wb,Xe,Wc g,Xa];have B:=Xeh (N:=N) y l k n (i+1) aa f.2;generalize h.p[i]=p at *;have z:p.k=3/\p.s=sp:=by have:=f.1;simp only[Kb,W7,beq_iff_eq]at this;exact this
  have⟨e,A⟩:=z;have q:(p.k==3)=true:=by simpa using e
  rw[q,Wd (show(((k+1:Nat):Int)>0) by omega),show(!(true==true))=false from rfl,Wa,XT (show¬p.s<0 by omega),Wa,XT (show¬p.s>1 by omega),Wa,Xe2,Xa];by_cases hp:p.P=0;case neg=>
   have j:Yc sp p=false:=by simp[Yc,hp]
   rw[j,Uu,Wk ab]
   by_cases r:0<=p.P/\p.P<=2147483647
   .rw[Wd r,Wi,Wa]
    simp only[Xz,show(p.k==0)=false by rw[e];rfl,show(p.k==1)=false by rw[e];rfl,show(p.k==2)=false by rw[e];rfl,q,Wa,Wb,show(p.P != 0)=true by simpa using hp,Bool.cond_self]
   grind
  simp only[Xz,show(p.k==0)=false by simp_all,show(p.k==1)=false by simp_all,show(p.k==2)=false by simp_all,q,Wa,Wb,show(p.P != 0)=false by simp_all];by_cases v:p.u=0
  .have j:Yc sp p=true:=by unfold Yc;rw[f.1];simp[v,hp]
   rw[show(p.u != 0)=false by simpa using v,Wa,j,W5,Xd (n:=((k+1:Nat):Int)-1) aa aa,Xg aa];grind
  have j:Yc sp p=false:=by simp[Yc,v]
  grind
def Xl2{α:Type}{p q:α->Bool}(h:∀x,q x=true->p x=true):∀{l:List α},l.all q=true->l.all p=true:=by simp_all
def Xj0{N:Nat}{h:Wo}(hc:Yk h.c=true)(U:h.p.length<=100000)(hN:1000000<N){i:Nat}(K:i<h.p.length)(n:Nat)(hn:10<=n):
 QaL N h n 0 (i:Int)=if Yb h.c h.p i h.p[i]=0 then some (.ret false)else QaL N h (n-Yb h.c h.p i h.p[i]) 0 ((i+Yb h.c h.p i h.p[i]:Nat):Int):=by
 obtain⟨n,rfl⟩:∃m,n=m+1:=⟨n-1,aa⟩
 rw[QaL,Wd (show(i:Int)<(h.p.length:Int) by omega),Wb,Xe,Wc K,Xa];generalize h.p[i]=p;have L:(if(0:Int)<wI (0-1)then wI (0-1)else 0)=0:=by rw[Xd aa aa];rfl
 have ge:wI ((i:Int)+1)=((i+1:Nat):Int):=Xg aa;generalize f:Yb h.c h.p i p=s;unfold Yb at f;have no:s=0->(if s=0 then some (.ret false)else QaL N h (n+1-s) 0 ((i+s:Nat):Int))=some (.ret false):=λe=>Wp e;rw[We (show¬(0:Int)>0 by omega)];by_cases M:p.k=3
 .rw[show(p.k==3)=true by simpa using M,show(!(true==false))=true from rfl,Wb];rw[Wk (show¬p.k=0 by omega),Wk (show¬p.k=1 by omega),Wk (show¬p.k=2 by omega),ite_self]at f;exact(no f.symm).symm
 have r:(p.k==3)=false:=by simpa using M
 rw[r,show(!(false==false))=false from rfl,Wa];by_cases l:p.s=0\/p.s=1;case neg=>
  have z:s=0:=by
   rw[←f,Wk (c:=(p.s=0\/p.s=1)/\_) (λg=>l g.1)]
   split
   .rw[Wk (λg=>l (.inl g.1))]
   .rfl
  rw[no z]
  by_cases O:p.s<0
  .rw[Wd O,Wb]
  .rw[XT O,Wa,Wd (show p.s>1 by omega),Wb]
 rw[XT (show¬p.s<0 by omega),Wa,XT (show¬p.s>1 by omega),Wa,Xe2,Xa];by_cases j:0<=p.P/\p.P<=2147483647;case neg=>
  have z:s=0:=by
   rw[←f,Wk (c:=(p.s=0\/p.s=1)/\_) (λg=>j g.2)]
   split
   .rw[Wk (λg=>j aa)]
   .rfl
  rw[no z,XT j,W0,Wb]
 rw[Wp (c:=(p.s=0\/p.s=1)/\_) ⟨l,j⟩]at f;rw[Wd j,Wi,Wa];by_cases q:p.k=0
 .have D:(p.k==1)=false:=by rw[q];rfl
  have v:(p.k==2)=false:=by rw[q];rfl
  rw[Wp q]at f;simp only[Xz,show(p.k==0)=true by simpa using q,D,v,r,Wb,Wa,W5];by_cases E:p.s=0/\p.u=0/\p.P=0
  .rw[Wp E]at f;subst f;obtain⟨V,Y,Z⟩:=E;rw[Wk (show¬(1:Nat)=0 by omega)];simp only[V,Y,Z,show((0:Int)==0)=true from rfl,IS,Wi,Wa,L,ge,Iq]
  rw[Wk E]at f;rw[no f.symm,show((p.s==0)&&((p.u==0)&&(p.P==0)))=false by
   rw[Bool.eq_false_iff];intro g;simp only[W7,beq_iff_eq]at g;exact E ⟨g.1,g.2.1,g.2.2⟩]
  rfl
 have H:(p.k==0)=false:=by simpa using q
 rw[Wk q]at f;by_cases y:p.k=1
 .have v:(p.k==2)=false:=by rw[y];rfl
  rw[Wp y]at f;simp only[Xz,show(p.k==1)=true by simpa using y,H,v,r,Wb,Wa];by_cases R:p.u<0
  .rw[Wk aa]at f;rw[Wd R,Wb,no f.symm]
  rw[XT R,Wa];by_cases S:p.u>h.c.W
  .rw[Wk aa]at f;rw[Wd S,Wb,no f.symm]
  rw[Wp aa]at f;subst f;rw[XT S,Wa,Wk (show¬(1:Nat)=0 by omega),L,ge,Iq]
 have D:(p.k==1)=false:=by simpa using y
 rw[Wk y]at f;by_cases G:p.k=2;case neg=>
  have v:(p.k==2)=false:=by simpa using G
  rw[Wk G]at f
  simp only[Xz,H,D,v,r,Wa]
  rw[no f.symm]
 rw[Wp G]at f;simp only[Xz,show(p.k==2)=true by simpa using G,H,D,r,Wb,Wa,ZN (show 10<=N by omega),Xa];by_cases A:XF h.c p.u<1
 .rw[Wk (λg=>aa)]at f;rw[Wd A,Wb,no f.symm]
 have hr:=Jr h.c p.u;rw[XT A,Wa,Xl1 h.p p.s aa hN i K,Xa,Xd (n:=XF h.c p.u-1) aa aa];obtain⟨k,T⟩:∃k:Nat,XF h.c p.u=((k+1:Nat):Int):=⟨(XF h.c p.u).toNat-1,aa⟩
 have I:(XF h.c p.u).toNat=k+1:=aa;have tw:=Xbc (Kb p.s) (h.p.drop (i+1)) k;rw[I,Iq,T]at f;rw[T];by_cases ht:((VK h.p p.s (i+1):Nat):Int)<((k+1:Nat):Int)-1
 .have B:¬k<=((h.p.drop (i+1)).takeWhile (Kb p.s)).length:=by unfold VK at ht;omega
  rw[Wk (λg=>B (tw.2 ⟨by rw[Wl];omega,Xl2 (λx J=>by unfold Yc at J;rw[W7]at J;exact J.1) g.2.2⟩))]at f;rw[Wd ht,Wb,no f.symm]
 have o:=tw.1 (by unfold VK at ht;omega);rw[Wl]at o;have e:(if(0:Int)<((k+1:Nat):Int)-1 then((k+1:Nat):Int)-1 else 0)=(k:Int):=by split<;>omega
 rw[e,ge];obtain⟨m,rfl⟩:∃m,n=m+k:=⟨n-k,aa⟩
 rw[Xeh U l k m (i+1) aa o.2];grind
def Xdb{c:WV}{e:List Wv}{i:Nat}(f:i<e.length){p:Wv}:Yb c e i p<=e.length-i/\Yb c e i p<=4:=by have g:=Jr c p.u;unfold Yb;grind
def Xdc{N:Nat}{h:Wo}(l:Yk h.c=true)(g:h.p.length<=100000)(hN:1000000<N):∀(m i n e:Nat),i<=h.p.length->h.p.length-i<=m->h.p.length-i<n->h.p.length-i+10<=e->Qaf N h n (i:Int)=QaL N h e 0 (i:Int)
 |m,i,0,e,_,_,o,_=>by omega
 |m,i,n+1,e,r,u,o,v=>by
  by_cases f:i<h.p.length
  .rw[Qaf,Wd aa,Wb,Kz g hN f,Xa,Xj0 l g hN f e aa];have y:=Xdb (c:=h.c) f (p:=h.p[i]);generalize Yb h.c h.p i h.p[i]=s at *;by_cases q:s=0
   .simp_all
   rw[Wk q,show((s:Int)==0)=false by simp_all,Wa,Xd aa aa,show(i:Int)+(s:Int)=((i+s:Nat):Int) by omega];obtain⟨j,rfl⟩:∃j,m=j+1:=⟨m-1,aa⟩
   exact Xdc l g hN j (i+s) n (e-s) aa aa aa aa
  rw[Qaf,We aa,Wa];obtain⟨k,rfl⟩:∃k,e=k+1:=⟨e-1,aa⟩
  rw[QaL,We aa,Wa]
def Yd{N:Nat}{h:Wo}(f:h.p.length<=100000)(hN:1000000<N):QbK N h=Qac N h:=by
 rw[QbK,Qac,K1,Zv];simp only[Xa,Xz];cases g:Yk h.c with
 |false=>rfl
 |true=>
 have e:=Xdc g f hN h.p.length 0 N N aa aa aa aa;grind
section
variable {N:Nat}
def Xot{m:Int}(f:0<=m)(l:2*m+1<=18446744073709551615):bOr .u64 (m*2) 1=m*2+1:=by
 obtain⟨n,rfl⟩:=Um f;have hb:IntKind.u64.bits=64:=rfl;show IntKind.u64.wrap ((BitVec.ofInt IntKind.u64.bits ((n:Int)*2) |||BitVec.ofInt IntKind.u64.bits 1).toNat:Int)=_;rw[hb];have g:BitVec.ofInt 64 ((n:Int)*2)=BitVec.ofNat 64 (n*2):=by rw[show(n:Int)*2=((n*2:Nat):Int) by omega];exact I6 64 (n*2)
 have h:BitVec.ofInt 64 (1:Int)=BitVec.ofNat 64 1:=ae;have j:n*2 % 2 ^ 64=n*2:=Ij aa;have e:=Nat.shiftLeft_add_eq_or_of_lt (i:=1) (b:=1) ae n;rw[Nat.shiftLeft_eq,Nat.pow_one]at e;rw[g,h,BitVec.toNat_or,U6,U6,j,show 1 % 2 ^ 64=1 from rfl,←e];show wU _=_;rw[XA aa aa];omega
def XiQ{a:Int}(f:0<=a)(g:a<=64):∀(n k:Nat),(k:Int)<=a->(a-k).toNat<n->Qf7 N a n ((2:Int) ^ k-1) (k:Int)=some ((2:Int) ^ a.toNat-1)
 |0,k,_,j=>by omega
 |n+1,k,p,j=>by
  rw[Qf7];have e:(if 64<(if a<0 then 0 else a)then 64 else(if a<0 then 0 else a))=a:=by rw[Wk (show¬a<0 by omega),Wk aa]
  rw[e];by_cases h:(k:Int)<a
  .have hp:(1:Int)<=2 ^ k:=Int.pow_pos (n:=(2:Int)) (m:=k) ae;have q:(2:Int) ^ k<=2 ^ 63:=by have:2 ^ k<=2 ^ 63:=IB aa aa;exact_mod_cast this
   have l:ZP .u64 ((2:Int) ^ k-1) 1=wU (((2:Int) ^ k-1)*2):=rfl;rw[Wd h,Wb,l,XA aa aa,Xot aa aa,Xg aa];have o:((2:Int) ^ k-1)*2+1=2 ^ (k+1)-1:=by rw[Int.pow_succ];omega
   rw[o];exact XiQ f g n (k+1) aa aa
  grind
def Y1{a:Int}(e:0<=a)(f:a<=64)(hN:1000<N):Qa2 N a=some ((2:Int) ^ a.toNat-1):=by have:=XiQ (N:=N) e f N 0 aa aa;rw[Qa2];rw[show((2:Int) ^ 0-1)=0 from rfl,show((0:Nat):Int)=0 from rfl]at this;rw[this,Xa]
def Jj(hN:1000<N)(d:WC):QdI N d=some (XL d):=by
 rw[QdI,XL];by_cases e:d.k<0
 .rw[Wd e,Wb,We aa,Uu]
 rw[We e,Wa];by_cases f:d.k>3
 .rw[Wd f,Wb,We aa,Uu]
 rw[We f,Wa];by_cases g:d.n<0
 .rw[Wd g,Wb,We aa,Uu]
 rw[We g,Wa];by_cases h:d.n>255
 .rw[Wd h,Wb,We (p:=0<=d.k/\d.k<=3/\0<=d.n/\d.n<=255) aa,Uu]
 rw[We h,Wa,Wd (p:=0<=d.k/\d.k<=3/\0<=d.n/\d.n<=255) aa,W5];by_cases j:d.k=1
 .rw[Wp j,XO j,Wb,Xz];by_cases l:d.n<=32
  .rw[Wd l,Wb,Y1 aa aa hN,Xa,W5,XcI];exact congrArg some (decide_eq_decide.2 aa)
  rw[We l,Wa,Uu]
 grind
def YS(hN:1000<N)(d:WC):Qbr N d=some (XM d):=by
 rw[Qbr,Jj hN,Xa,XM];cases h:XL d with
 |false=>rfl
 |true=>have:=XY h;rw[Wi,Wa,Xd (n:=d.n+1) aa aa];rfl
def VL(hN:1000<N)(d:WC)(i:Int):Qcq N d i=some (KF d i):=by
 rw[Qcq,Jj hN,Xa,KF];cases h:XL d with
 |false=>rfl
 |true=>
  have hb:=XY h;rw[Wi,Wa,W5];by_cases f:i<0
  .rw[Wd f,Wb,We aa,Uu]
  rw[We f,Wa];by_cases g:i>=d.n
  .rw[Wd g,Wb,We aa,Uu]
  rw[We g,Wa,Wd (p:=0<=i/\i<d.n) aa,W5,XA (n:=i) aa aa];by_cases e:d.k=2
  .rw[XO e,Wb,Wd e,Bool.true_or]
  rw[Xf e,Wa,We e,Ie];by_cases j:d.k=1
  .rw[XO j,Wb,Wd j,W5,Xc aa]
  grind
def Xbd(hN:1000<N)(d:WC)(f:XL d=true):∀(n:Nat)(i:Int)(v:List Int),0<=i->i<=d.n+1->(d.n+1-i).toNat<n->v.length+(d.n+1-i).toNat<=1000->Qcc N d (d.n+1) n i v=some (v++YH d (d.n-i).toNat i)
 |0,i,v,_,_,g,_=>by omega
 |n+1,i,v,l,o,g,q=>by
  have hb:=XY f;rw[Qcc];by_cases h:i<d.n+1
  .rw[Wd h,Wb,VL hN,Xa,Xd (n:=i+1) aa aa];by_cases r:i<d.n
   .obtain⟨k,j⟩:∃k,(d.n-i).toNat=k+1:=⟨(d.n-i).toNat-1,aa⟩
    have e:(d.n-(i+1)).toNat=k:=aa;rw[j,YH];cases hp:KF d i
    .rw[Wa,Xbd hN d f n (i+1) v aa aa aa aa,e];simp
    rw[Wb,Xc aa,Xbd hN d f n (i+1) _ aa aa aa (by grind),e];simp
   have hp:KF d i=false:=by unfold KF;rw[We (p:=0<=i/\i<d.n) aa];simp
   rw[hp,Wa,Xbd hN d f n (i+1) v aa aa aa aa,show(d.n-i).toNat=0 by omega,show(d.n-(i+1)).toNat=0 by omega];rfl
  rw[We h,Wa,show(d.n-i).toNat=0 by omega];simp[YH]
def Xei(hN:1000<N)(d:WC)(e:XL d=true):Qer N d=some (Zu d):=by
 have hb:=XY e;have f:XM d=d.n+1:=by unfold XM;rw[e];rfl
 rw[Qer,YS hN,Xa,f,Xbd hN d e N 0 [] aa aa aa (by grind),Xa,Zu,e];simp
def Xfh{l:List Int}(f:l.length<=1000000)(hN:1000000<N):Qah N l 0=some (!l.all λp=>!(p==0)):=by
 rw[Qah,QbV];rw[JE (p:=λx:Int=>(0==x)) f hN (λn j x e=>by
  have g:=XC e
  rw[QaI,Xn g,Wb,Xe,e,Xa,Xg aa]) (λn=>by rw[QaI,XB,Wa])]
 rw[Xa,Ku,←Xfg,Bool.not_not];grind
def XaB:List (List Int)->Nat
 |[]=>0
 |l::e=>l.length+XaB e
def Xej(e:List (List Int))(f:e.length<=1000):∀(n k s:Nat),k<=e.length->e.length-k<n->s+XaB (e.drop k)<=10000000->QaY N e n (s:Int) (k:Int)=some (((s+XaB (e.drop k):Nat):Int))
 |0,k,s,_,g,_=>by omega
 |n+1,k,s,l,g,j=>by
  rw[QaY];by_cases h:k<e.length
  .rw[Wu h,XaB]at j⊢;rw[Xn h,Wb,Xe,Wc h,Xa,Xd (n:=(s:Int)+((e[k].length:Nat):Int)) aa aa,We aa,Wa,Xg aa];have:=Xej e f n (k+1) (s+e[k].length) aa aa aa;grind
  obtain rfl:k=e.length:=aa;rw[XB,Wa,UK (Uf _)];rfl
def Xek(e:List (List Int))(f:e.length<=1000):∀(n k:Nat)(v:List Int),k<=e.length->e.length-k<n->v.length+XaB (e.drop k)<=10000000->QaZ N e n (k:Int) v=some (v++(e.drop k).flatten)
 |0,k,v,_,g,_=>by omega
 |n+1,k,v,l,g,j=>by
  rw[QaZ];by_cases h:k<e.length
  .rw[Wu h,XaB]at j;rw[Wu h,Xn h,Wb,Xe,Wc h,Xa,Xc aa,Xg aa,Xek e f n (k+1) _ aa aa (by rw[WO];omega),List.flatten_cons,UF]
  grind
def XbF(f:List (List Int))(g:f.length<=1000)(p:XaB f<=10000000)(hN:1000000<N):QaU N f=some f.flatten:=by
 have j:=Xej (N:=N) f g N 0 0 aa aa (by rw[WY];omega);have l:=Xek (N:=N) f g N 0 [] aa aa (by rw[WY];simp;omega);rw[show((0:Nat):Int)=0 from rfl,UC]at j;rw[show((0:Nat):Int)=0 from rfl,Uh]at l;have o:Qbs N ((XaB f:Nat):Int)=some []:=by
  rw[Qbs,We aa,Wa,Xd (n:=(0:Int)) aa aa,Int.sub_zero];have e:=Xd (n:=((XaB f:Nat):Int)) aa aa;by_cases h:(wI ((XaB f:Nat):Int))>0
  .rw[Wd h,Wb,Xc ⟨rfl,rfl⟩,Xc aa,Xc aa,Xc aa,List.take_zero]
  rw[We h,Wa]
 simp[QaU,j,Xa,o,l]
end
section
variable {N:Nat}
def Xfi{w:Int}(hw:tU w):Xb4 w=⟨w / 4 % 4,w / 16 % 4096,w / 65536 % 4294967296⟩:=by have⟨e,f⟩:=hw;unfold Xb4;rw[show YC .u64 w 2=w / 4 from YG w 2 aa e,show YC .u64 w 4=w / 16 from YG w 4 aa e,show YC .u64 w 16=w / 65536 from YG w 16 aa e];rw[show Y2 .u64 (w / 4) 3=w / 4 % 4 from Ys (w / 4) 2 aa aa aa,show Y2 .u64 (w / 16) 4095=w / 16 % 4096 from Ys (w / 16) 12 aa aa aa];rw[Xd aa aa,Xd aa aa,Xlw]
def Xl3{w:Int}(hw:tU w):okH w=(XL (Xb4 w)&&(decide (w / 281474976710656=0)&&decide (w % 4=1))):=by
 have⟨f,g⟩:=hw;unfold okH;cases h:XL (Xb4 w)with
 |false=>rfl
 |true=>
  have hb:=XY h;rw[Xfi ⟨f,g⟩]at hb;have e:Xaw (Xb4 w)=1+4*(w / 4 % 4)+16*(w / 16 % 4096)+w / 65536 % 4294967296*65536:=by rw[Xfi ⟨f,g⟩];unfold Xaw;have s:∀x:Int,ZP .u64 x 16=wU (x*65536):=λ_=>rfl;simp only[s];simp only[XcI];omega
  grind
def Xrk:Xb [(2:Int),2,12,32] 0=some 2:=by unfold Xb;rfl
def Xrl:Xb [(2:Int),2,12,32] 1=some 2:=by unfold Xb;rfl
def Xrm:Xb [(2:Int),2,12,32] 2=some 12:=by unfold Xb;rfl
def Xrn:Xb [(2:Int),2,12,32] 3=some 32:=by unfold Xb;rfl
def XhQ(hN:1000000<N){v:Int}(f:0<=v)(p:v<=18446744073709551615):Qdz N v [2,2,12,32]=some (if v / 281474976710656=0 then([v % 4,v / 4 % 4,v / 16 % 4096,v / 65536 % 4294967296],0)else([],2)):=by
 obtain⟨m,rfl⟩:∃m,N=m+5:=⟨N-5,aa⟩
 have e:([(2:Int),2,12,32].length:Nat)=4:=rfl;have g:wI (0+1)=1:=Xd aa aa;have h:wI (1+1)=2:=Xd aa aa;have j:wI (2+1)=3:=Xd aa aa;have l:wI (3+1)=4:=Xd aa aa;have q:wI (64-2)=62:=Xd aa aa;have r:wI (62-2)=60:=Xd aa aa;have s:wI (60-12)=48:=Xd aa aa;have u:wI (48-32)=16:=Xd aa aa;have y:QaD (m+5) v [2,2,12,32] (m+5) 64 0=some (.nxt ()):=by rw[QaD,e,Xrk];simp only[Xa,g,q];rw[QaD,e,Xrl];simp only[Xa,h,r];rw[QaD,e,Xrm];simp only[Xa,j,s];rw[QaD,e,Xrn];simp only[Xa,l,u];rw[QaD,e];rfl
 have o:Qa2 (m+5) 2=some 3:=Y1 aa aa aa;have z:Qa2 (m+5) 12=some 4095:=Y1 aa aa aa;have A:Qa2 (m+5) 32=some 4294967295:=Y1 aa aa aa;have B:YC .u64 v 2=v / 4:=YG v 2 aa f;have D:YC .u64 (v / 4) 2=v / 4 / 4:=YG (v / 4) 2 aa aa;have s3:YC .u64 (v / 4 / 4) 12=v / 4 / 4 / 4096:=YG (v / 4 / 4) 12 aa aa;have s4:YC .u64 (v / 4 / 4 / 4096) 32=v / 4 / 4 / 4096 / 4294967296:=YG (v / 4 / 4 / 4096) 32 aa aa;have E:Y2 .u64 v 3=v % 4:=Ys v 2 aa f p;have G:Y2 .u64 (v / 4) 3=v / 4 % 4:=Ys (v / 4) 2 aa aa aa;have H:Y2 .u64 (v / 4 / 4) 4095=v / 4 / 4 % 4096:=Ys (v / 4 / 4) 12 aa aa aa;have I:Y2 .u64 (v / 4 / 4 / 4096) 4294967295=v / 4 / 4 / 4096 % 4294967296:=Ys (v / 4 / 4 / 4096) 32 aa aa aa;have J:QaE (m+5) [2,2,12,32] (m+5) v 0 []=some (v / 4 / 4 / 4096 / 4294967296,[v % 4,v / 4 % 4,v / 4 / 4 % 4096,v / 4 / 4 / 4096 % 4294967296]):=by rw[QaE,e,Xrk];rw[Wd aa,Wb,Xa,o,Xa,Xc ab,Xc aa,B,E,g];rw[QaE,e,Xrl];rw[Wd aa,Wb,Xa,o,Xa,Xc ab,Xc aa,D,G,h];rw[QaE,e,Xrm];rw[Wd aa,Wb,Xa,z,Xa,Xc ab,Xc aa,s3,H,j];rw[QaE,e,Xrn];rw[Wd aa,Wb,Xa,A,Xa,Xc ab,Xc aa,s4,I,l];rw[QaE,e];rw[We aa,Wa];rfl
 rw[Qdz,y,Xa,Xq,J,Xa];grind
def Xdd(hN:1000000<N){w:Int}(hw:tU w):Qez N w=some (ZS w,okH w):=by
 have⟨e,f⟩:=hw;rw[Qez,XhQ hN e f,Xa];unfold ZS;rw[Xl3 ⟨e,f⟩];by_cases h:w / 281474976710656=0
 .have j:Xb [w % 4,w / 4 % 4,w / 16 % 4096,w / 65536 % 4294967296] 0=some (w % 4):=by unfold Xb;rfl
  have g1:Xb [w % 4,w / 4 % 4,w / 16 % 4096,w / 65536 % 4294967296] 1=some (w / 4 % 4):=by unfold Xb;rfl
  have g2:Xb [w % 4,w / 4 % 4,w / 16 % 4096,w / 65536 % 4294967296] 2=some (w / 16 % 4096):=by unfold Xb;rfl
  have g3:Xb [w % 4,w / 4 % 4,w / 16 % 4096,w / 65536 % 4294967296] 3=some (w / 65536 % 4294967296):=by unfold Xb;rfl
  rw[Wp h];simp only[j,g1,g2,g3,Xa,show((0:Int) != 0)=false from rfl,Wa,Xd (n:=w / 4 % 4) aa aa,Xd (n:=w / 16 % 4096) aa aa,Xlx (n:=w / 65536 % 4294967296) aa aa];rw[Jj aa,Xa,←Xfi ⟨e,f⟩,Wd h,W5];by_cases g:w % 4=1
  .rw[g,show((1:Int) != 1)=false from rfl,Wa,Wd rfl,Bool.and_true];cases XL (Xb4 w)<;>rfl
  rw[show(w % 4 != 1)=true by simpa using g,Wb,We g,Bool.and_false];rfl
 simp_all
def XbG{ws:List Int}(f:ws.length<=1000000){a:Int}(g:a<=18446744073709551615)(n:Int):QfQ N ws a n=Qea N ws a n:=by
 rw[QfQ,Qea];by_cases e:a<4096
 .rw[Wd e,Wb,Wb]
 rw[XT e,Wa,Wa,XA (n:=a-4096) aa aa,XA (n:=(ws.length:Int)) aa aa,XA (n:=4096+(ws.length:Int)) aa aa];grind
def Xde{ws:List Int}(e:ws.length<=1000000){a:Int}(f:a<=18446744073709551615):Qgq N ws a=Qbl N ws a:=by simp[Qgq,Qbl,Qih,QgG,XbG,e,f]
def Xl4{ws:List Int}(e:ws.length<=1000000){a:Int}(f:a<=18446744073709551615)(n:Int):QhT N ws a n=QdC N ws a n:=by
 rw[QhT,QdC,XbG e f];by_cases g:n<0
 .simp_all
 rw[XT g,Wa,Wa];congr 1;funext y;cases y.2 with
 |false=>rfl
 |true=>simp only[Wi,Wa,Qab,Xa];unfold grd;grind
structure HT(h:Wo):Prop where
 hb:HB h
 tw:XV h
def HT.word{h:Wo}(t:HT h){i:Int}{w:Int}(e:Xb h.w i=some w):tU w:=by have:=t.tw;exact this w (YT e)
def XaC(hN:NB N){h:Wo}(ht:HT h){a:Int}(v:tU a):Qeo N h a=Qar N h a:=by
 have f:1000000<N:=by unfold NB at hN;omega
 have hb:=ht.hb;unfold HB at hb;rw[Qeo,Qar,Yd aa f];have⟨b,eb,j⟩:=YR (N:=N) aa (h:=h) aa aa;rw[eb,Xa,Xa];cases b with
 |false=>rfl
 |true=>
 have hp:=j rfl;rw[Wi,Wa,Wa,XhP _ _ _ v.2,JP,Wk (by simp[hp.conf])];by_cases g:4096<=a/\a<4096+h.c.p*h.c.W;case neg=>simp[Wk,g,Xa]
 rw[Wp g,Xa,Xa];have E:=Xe1 hp.conf g.1 g.2;have A:=hp.pages;generalize (a-4096) / h.c.W=pn at *;generalize (a-4096) % h.c.W=e at *;have o:=hp.pgs pn aa aa;have q:=o.small;rw[XG aa aa,Xa,Xa];generalize pg h.p pn=p at q⊢;rw[Qhz,Xde aa v.2];have B:=Xu.1 hp.conf;have D:=X4 hp.conf (i:=0) aa aa;have r:∃w,Qbl N h.w a=some (w,0)/\tU w:=by rw[Qbl,QgG,Qea,XT (show¬a<4096 by omega),Wa,XA (n:=(h.w.length:Int)) aa aa,XA (n:=4096+(h.w.length:Int)) aa aa,XT (show¬a>4096+(h.w.length:Int) by have:=hp.words;omega),Wa,XA (n:=a-4096) aa aa,Xd (n:=a-4096) aa aa,Xd aa aa,Xa];rw[Wd (show 1<=(h.w.length:Int)-(a-4096) by have:=hp.words;omega),Wi,Wa,Xa];simp only[show((0:Int) != 0)=false from rfl,Wa];have y:=X0 (l:=h.w) (i:=a-4096) aa (by have:=hp.words;omega);exact⟨_,by rw[y,Xa],ht.word y⟩
 have⟨w,r,tw⟩:=r;rw[r,Xa,Xa,Xa,Xdd f tw,KN,Xa,Xa];simp only[YS (show 1000<N by omega),X6,Xa,Xz];have G:=XdZ w;generalize ZS w=d at *;generalize XM d=s at *;cases okH w with
 |false=>simp
 |true=>
  by_cases k1:p.k=1
  .have k2:(p.k==2)=false:=by rw[k1];rfl
   simp only[show(p.k != 1)=false by simpa using k1,show(p.k==1)=true by simpa using k1,k2,Wb,Wa];by_cases u:e>=p.u
   .rw[Wd u,Wb,Wb];rfl
   rw[XT u,Wa,Wa];by_cases z:wI (e+s)>p.u
   .rw[Wd z,Wb];rw[Xd (n:=e+s) aa aa]at z;have:¬s<=wI (p.u-e):=by rw[Xd aa aa];omega
    rw[XT this];rfl
   rw[XT z,Wa];rw[Xd (n:=e+s) aa aa]at z;rw[Xd (n:=p.u-e) aa aa,Wd aa];rfl
  grind
end
section
variable {N:Nat}
def fnd(h:Wo)(a:Int):UN:=⟨a,hdA h.w a⟩
def XgD(l:List UN)(f:l.length<=1000000):∀(n k:Nat)(v:List Int),k<=l.length->l.length-k<n->v.length=k->QdO N l n (k:Int) v=some (v++(l.drop k).map (·.addr))
 |0,k,v,_,h,_=>by omega
 |n+1,k,v,j,o,g=>by
  rw[QdO];by_cases e:k<l.length
  .rw[Wd aa,Wb,Xe,Wc e,Xa,Xc aa,Xg aa,XgD l f n (k+1) _ aa aa (by simp[g]),Wu e,UF,Us];rfl
  grind
def Xdf(l:List UN)(e:l.length<=1000000)(hN:1000000<N):Qco N l=some (l.map (·.addr)):=by rw[Qco,show(0:Int)=((0:Nat):Int)from rfl,XgD l e N 0 [] aa aa rfl,Xa];simp
def Xou(h:Wo)(l:List Int):(l.map (fnd h)).map (·.addr)=l:=by rw[List.map_map];exact List.map_id'' (λ_=>rfl) l
def XsO(h:Wo):Ex (List Int×Int) (List Int)->List UN×Int
 |.ret r=>([],19)
 |.nxt l=>(l.map (fnd h),0)
def Xel(hN:NB N){h:Wo}(ht:HT h)(hp:Ut h){i:Int}(B:0<=i)(G:i<h.p.length)(g:(pg h.p i).k=1\/(pg h.p i).k=2):∀(n:Nat)(o:Int)(l:List Int),0<=o->(66-o).toNat<n->(l.length:Int)<=o->((pg h.p i).k=1->o<=64)->((pg h.p i).k=2->o=0) ->
 ∃e,QaA N h i (pg h.p i) n o l=some e/\Qb3 N h i (pg h.p i) n o (l.map (fnd h))=some (XsO h e)/\(∀r,e=.ret r->r=([],19))
 |0,o,l,H,I,J,k1,k2=>by omega
 |n+1,o,l,H,I,J,k1,k2=>by
  have K:1000000<N:=by unfold NB at hN;omega
  have V:=Xu.1 hp.conf;have L:=hp.pages;have M:=(hp.pgs i B G).small;rw[QaA,Qb3];by_cases j:o<(pg h.p i).u;case neg=>rw[XT j,Wa,Wa];exact⟨_,rfl,rfl,λr e=>by grind⟩
  have q:o<h.c.W:=by
   rcases g with g|g
   .omega
   omega
  rw[Wd j,Wb,Wb,VJ,KO,hp.conf,Xa,Xa,Wk ab,Wp aa];have O:=X4 hp.conf (i:=i) B aa;have R:tU (Xj h.c i o):=by unfold Xj;exact⟨aa,aa⟩
  rw[show((0:Int)==0)=true from rfl,Wb,XaC hN ht R];have⟨y,S,T⟩:=Xd1 hN ht.hb (Xj h.c i o);rw[S,Xa,Xa];by_cases D:y.2=0;case neg=>
   rw[show(y.2 != 0)=true by simp_all,show(y.2==0)=false by simp_all,Wb,Wa]
   exact⟨_,rfl,rfl,λr e=>by simp_all⟩
  have⟨_,_,s,E⟩:=T D;have v:=YW h.w (Xj h.c i o);have f:=Xgb hp.conf (p:=i) H q;rw[show(y.2 != 0)=false by simp_all,show(y.2==0)=true by simp_all,Wb,Wa,E,Xc aa];rw[YS aa,Xa,v.1,Xc (by grind)];rw[show UN.mk (Xj h.c i o) (hdA h.w (Xj h.c i o))=fnd h (Xj h.c i o)from rfl];have U:l.map (fnd h)++[fnd h (Xj h.c i o)]=(l++[Xj h.c i o]).map (fnd h):=by simp
  rw[U];rcases g with g|g
  .rw[show((pg h.p i).k==2)=false by simp_all,Wa,X6,Xa,v.1];have z:=s.small;rw[f.1,f.2]at z;rw[Xd (n:=o+szA h.w (Xj h.c i o)) aa aa];exact Xel hN ht hp B G (.inl g) n _ _ aa aa (by grind) (λ_=>aa) (λk=>aa)
  rw[show((pg h.p i).k==2)=true by simp_all,Wb];have A:=s.large;rw[f.1,f.2]at A;refine⟨_,rfl,?_,λr e=>by grind⟩;rw[Xd (n:=o+szA h.w (Xj h.c i o)) aa aa];obtain⟨m,rfl⟩:∃m,n=m+1:=⟨n-1,aa⟩
  rw[Qb3,XT aa,Wa];rfl
def Yq{h:Wo}(hN:NB N)(hb:HB h)(ep:Qac N h=some true):Ut h:=by have⟨b,eb,e⟩:=YR (N:=N) (by unfold NB at hN;omega) hb.1 hb.2;simp_all
def ZY(hN:NB N){h:Wo}(hb:HB h):∃b,Qac N h=some b:=by have⟨b,eb,_⟩:=YR (N:=N) (by unfold NB at hN;omega) hb.1 hb.2;simp_all
def Xdg(hN:NB N){h:Wo}(ht:HT h)(ep:Qac N h=some true){i:Int}(f:0<=i)(g:i<h.p.length):∃r,Qam N h i=some r/\QgI N h i=some (r.1.map (fnd h),r.2)/\(r.2≠0->r=([],19)):=by
 have hb:=ht.hb;have hp:=Yq hN hb ep;rw[Qam,QgI,ep,Xa,XG f g,Xa,Xa,Wi,Wa,XT (show¬i<0 by omega),Wa,XT (show¬i>=_ by omega),Wa];have o:=(hp.pgs i f g).kind;have main:((pg h.p i).k=1\/(pg h.p i).k=2)->∃r,(bnd (QaA N h i (pg h.p i) N 0 []) λe=>exK e (λr=>some r) λq=>some (q,0))=some r/\Qb3 N h i (pg h.p i) N 0 []=some (r.1.map (fnd h),r.2)/\(r.2≠0->r=([],19)):=by
  intro s;obtain⟨e,u,j,e3⟩:=Xel hN ht hp f g s N 0 [] aa (by unfold NB at hN;omega) ab (λ_=>aa) (λ_=>rfl);rw[u,Xa];rw[If]at j;rw[j];cases e with
  |ret r=>rw[e3 r rfl];rw[XD];exact⟨_,rfl,rfl,λ_=>rfl⟩
  |nxt l=>rw[Xq];exact⟨_,rfl,rfl,λh=>absurd rfl h⟩
 by_cases k1:(pg h.p i).k=1
 .simp_all
 by_cases k2:(pg h.p i).k=2
 .simp_all
 rw[show((pg h.p i).k != 1)=true by simpa using k1,show((pg h.p i).k != 2)=true by simpa using k2];refine⟨([],0),?_,rfl,λh=>absurd rfl h⟩;grind
def Qpk(hN:NB N){h:Wo}(hb:HB h)(i:Int){r:List Int×Int}(e:Qam N h i=some r):r.1.length<=64:=by have:=(Qq3 hN hb i).get_eq e;omega
def Xdh(hN:NB N){h:Wo}(ht:HT h)(i:Int):QfG N h i=Qam N h i:=by
 have hb:=ht.hb;rw[QfG,Yd (by have:=hb.2;omega) (by unfold NB at hN;omega)];have⟨b,eb⟩:=ZY (N:=N) hN hb;rw[eb,Xa];cases b with
 |false=>simp[Qam,eb,Xa]
 |true=>
 by_cases e:i<0
 .rw[Qam,eb,Xa,Wd e];rfl
 by_cases f:i>=h.p.length
 .rw[Qam,eb,Xa,XT e,Wd f];rfl
 have⟨r,g,j,e3⟩:=Xdg hN ht eb (i:=i) aa aa;rw[Wi,Wa,XT e,Wa,XT f,Wa,j,Xa,g];have l:=Qpk hN hb i g;by_cases z:r.2=0
 .rw[show(r.2 != 0)=false by simpa using z,Wa,Xdf _ (by rw[Ug];omega) (by unfold NB at hN;omega),Xa,Xou];congr 1;exact Prod.ext rfl z.symm
 simp_all
def XiR(hN:NB N){h:Wo}(ht:HT h)(ep:Qac N h=some true):∀(n k:Nat)(l:List Int),k<=h.p.length->h.p.length-k<n->l.length<=64*k ->
 ∃e,QaX N h n (k:Int) l=some e/\QgK N h n (k:Int) (l.map (fnd h))=some (match e with|.ret r=>.ret (r.1.map (fnd h),r.2)|.nxt l=>.nxt (l.map (fnd h)))/\(∀r,e=.ret r->r=([],19))/\(∀f,e=.nxt f->f.length<=64*h.p.length)
 |0,k,l,_,h,_=>by omega
 |n+1,k,l,s,u,v=>by
  have hb:=ht.hb;have j:=hb.2;rw[QaX,QgK];by_cases o:k<h.p.length;case neg=>rw[We (show¬(k:Int)<_ by omega),Wa,Wa];refine⟨_,rfl,rfl,?_,?_⟩<;>intro r e<;>cases e;omega
  rw[Wd (show(k:Int)<_ by omega),Wb,Wb];have⟨r,g,q,e3⟩:=Xdg hN ht ep (i:=(k:Int)) aa aa;rw[g,q,Xa,Xa];have y:=Qpk hN hb (k:Int) g;by_cases z:r.2=0
  .rw[show(r.2 != 0)=false by simpa using z,Wa,Wa,Xc aa,Xc ah,Xg aa,←List.map_append];exact XiR hN ht ep n (k+1) _ aa aa (by rw[WO];omega)
  simp_all
def Xov(hN:NB N){h:Wo}(ht:HT h):∃r,QcO N h=some r/\QiB N h=some (r.1.map (fnd h),r.2)/\(r.2≠0->r.1=[])/\r.1.length<=6400000:=by
 have hb:=ht.hb;have g:=hb.2;rw[QcO,QiB,Yd aa (by unfold NB at hN;omega)];have⟨b,eb⟩:=ZY (N:=N) hN hb;rw[eb,Xa,Xa];cases b with
 |false=>simp
 |true=>
 rw[Wi,Wa,Wa];have⟨e,j,f,e3,e4⟩:=XiR hN ht eb N 0 [] aa (by unfold NB at hN;omega) ab;rw[If]at f;rw[show(0:Int)=((0:Nat):Int)from rfl,j,f,Xa,Xa];cases e with
 |ret r=>rw[XD];rw[XD,e3 r rfl];simp
 |nxt l=>rw[Xq];grind[Xq]
end
section
variable {N:Nat}
def Zp(f:UN):Bool:=!(f.hd.k==0)
def Ki(h:Wo)(l:List Int):List Int:=l.filter λa=>Zp (fnd h a)
def XhR(e:List UN)(r:e.length<=1000000):∀(n i j:Nat)(v:List UN),i<=j->j<=e.length->e.length-j<n->v.length=e.length->v.drop j=e.drop j ->
 ∃(f:Nat) (g:List UN),QcI N n (i:Int) (j:Int) v=some ((f:Int),g)/\g.length=e.length/\f<=e.length/\g.take f=v.take i++(e.drop j).filter Zp
 |0,i,j,v,_,_,h,_,_=>by omega
 |n+1,i,j,v,s,A,B,u,hd=>by
  rw[QcI,Xc aa];by_cases o:j<e.length;case neg=>
   grind
  have p:v[j]'aa=e[j]:=by have a:=Wu (l:=v) (i:=j) aa;have b:=Wu (l:=e) (i:=j) aa;rw[hd,b]at a;exact(Od a).1.symm
  have q:v.drop (j+1)=e.drop (j+1):=by have a:=Wu (l:=v) (i:=j) aa;have b:=Wu (l:=e) (i:=j) aa;rw[hd,b]at a;exact(Od a).2.symm
  rw[Wd aa,Wb,Xe,Wc aa,Xa,Qe6,Xa,p,Wu o];cases D:(e[j].hd.k==0)with
  |true=>rw[Wi,Wa,Xg aa,UV (by unfold Zp;simp_all)];exact XhR e r n i (j+1) v aa aa aa u q
  |false=>rw[W0,Wb,Xe,Wc aa,Xa,Xg aa,Xg aa,Uw (by unfold Zp;simp_all)];have⟨f,g,y,z,e3,e4⟩:=XhR e r n (i+1) (j+1) (v.set i e[j]) aa aa aa (by simp_all) (by rw[IE aa];omega);refine⟨f,g,y,z,e3,?_⟩;rw[e4,List.take_succ,IL aa,List.take_set_of_le (Uf _)];simp
def Xow(l:List UN)(g:l.length<=1000000)(hN:1000000<N):QaC N l=some (JT (λf=>f.hd.k==0) l):=by
 exact JE (p:=λf:UN=>f.hd.k==0) g hN (λn k x e=>by
  have h:=XC e
  rw[Qaj,Xn h,Wb,Xe,e,Xa,Qe6,Xa,Xg aa]) (λn=>by rw[Qaj,XB,Wa])
def Xj1(l:List UN)(o:l.length<=1000000)(hN:1000000<N):(bnd (QaC N l) λp=>
 bif (p==(-1))then(bnd (Qco N l) λq=>
  some (q,(0:Int)))
 else bnd (QcI N N p (wI (p+1)) l) λe=>
 grd (0<=e.1/\e.1<=(e.2.length:Int)/\(e.2.length:Int)<=(e.2.length:Int)) <|
 grd (0<=e.1/\e.1<=(((((min e.1.toNat e.2.length)+(e.2.length-e.1.toNat))+(e.2.length-(e.1.toNat+(e.2.length-e.1.toNat)))):Nat):Int)) <|
 bnd (Qco N ((((e.2.take e.1.toNat)++(List.replicate (e.2.length-e.1.toNat) (UN.mk 0 (WC.mk 0 0 0))))++(e.2.drop (e.1.toNat+(e.2.length-e.1.toNat)))).take e.1.toNat)) λr=>
 some (r,0))=some ((l.filter Zp).map (·.addr),0):=by
 rw[Xow l o hN,Xa];unfold JT;cases s:l.findIdx? (λf=>f.hd.k==0)with
 |none=>
  have g:l.filter Zp=l:=by rw[List.findIdx?_eq_none_iff]at s;rw[U9];intro x u;unfold Zp;rw[s x u];rfl
  rw[show((-1:Int)==-1)=true from rfl,Wb,Xdf l o hN,Xa,g]
 |some j=>
  have⟨v,hp,hb⟩:=UH.1 s;rw[show((j:Int)==-1)=false by simp,Wa,Xg aa];have⟨i',h,y,E,e3,e4⟩:=XhR (N:=N) l o N j (j+1) l aa aa aa rfl rfl;rw[y,Xa];dsimp only;rw[Xc aa,Xc aa,show((i':Int)).toNat=i' from rfl];have z:(((h.take i')++(List.replicate (h.length-i') (UN.mk 0 (WC.mk 0 0 0))))++(h.drop (i'+(h.length-i')))).take i'=h.take i':=by rw[UF,List.take_append_of_le_length (by grind),List.take_take,Ww]
  have A:l.filter Zp=l.take j++(l.drop (j+1)).filter Zp:=by
   conv=>lhs;rw[←List.take_append_drop j l,List.filter_append,Wu v,UV (by unfold Zp;simp_all)]
   congr 1;rw[U9];intro x u;obtain⟨k,B,rfl⟩:=WJ u;rw[Wj]at B;rw[Ih];have:=hb k aa;unfold Zp;simpa using this
  rw[z,e4,←A];have D:(l.filter Zp).length<=l.length:=List.length_filter_le _ _;rw[Xdf _ aa hN,Xa]
def Xbe{h:Wo}(y:List Int×Int)(j:y.1.length<=1000000)(e:∀a∈y.1,Qar N h a=some (hdA h.w a,0)):∀(n k:Nat)(v:List Int),k<=y.1.length->y.1.length-k<n->v.length<=k ->
 Qa0 N h y n (k:Int) v=some (v++Ki h (y.1.drop k))
 |0,k,v,_,l,_=>by omega
 |n+1,k,v,g,l,o=>by
  rw[Qa0];by_cases f:k<y.1.length
  .rw[Wd aa,Wb,Xe,Wc f,Xa,e _ (WL f),Xa,Xg aa,Wu f,Ki];by_cases g:(hdA h.w y.1[k]).k=0
   .rw[show((hdA h.w y.1[k]).k != 0)=false by simp_all,Wa,Xbe y j e n (k+1) v aa aa aa,UV (by simp[Zp,fnd,g])];rfl
   rw[show((hdA h.w y.1[k]).k != 0)=true by simp_all,Wb,Xa,Xc aa,Xbe y j e n (k+1) _ aa aa (by simp_all),Uw (by simp[Zp,fnd,g])];simp[Ki]
  rw[We aa,Wa,UK aa];simp[Ki]
def KA(hN:NB N){h:Wo}(ht:HT h):QdK N h=QaK N h:=by
 have e:1000000<N:=by unfold NB at hN;omega
 have⟨r,f,l,e3,_⟩:=Xov hN ht;have⟨g,hp,_⟩:=(VY hN ht.hb).get_eq f;have j:=g.len;rw[QdK,QaK,f,l,Xa,Xa];rw[show(0:Int)=((0:Nat):Int)from rfl,Xbe r aa g.obj.ev N 0 [] aa aa ab,Xa,WY,Uh];by_cases z:r.2=0
 .rw[show(r.2 != ((0:Nat):Int))=false by simp_all,Wa];have:=Xj1 (N:=N) (r.1.map (fnd h)) (by grind) e;rw[show((0:Nat):Int)=0 from rfl,this,z];congr 2;rw[List.filter_map,List.map_map];exact List.map_id'' (λ_=>rfl) _
 rw[show(r.2 != ((0:Nat):Int))=true by simp_all,Wb,e3 z];rfl
end
section
variable {N:Nat}
def exM{α β γ:Type}(f:α->γ):Ex α β->Ex γ β
 |.ret a=>.ret (f a)
 |.nxt b=>.nxt b
def IQ.tu{h:Wo}(hp:Ut h){a:Int}(e:IQ h a):tU a:=by have:=e.rng;have:=X4 hp.conf (i:=0) aa (by have:=Xu.1 hp.conf;omega);exact⟨aa,aa⟩
def Xem(hN:NB N){h:Wo}(ht:HT h)(hp:Ut h){i:Int}(r:0<=i)(s:i<h.p.length)(l:List Int)(u:l.length<=4096)(f:∀a∈l,IQ h a)(g:∀a∈l,Qar N h a=some (hdA h.w a,0)):∀(n k:Nat),k<=l.length->l.length-k<n ->
 ∃e,QbD N h i l n (k:Int)=some e/\Qcp N h i l n (k:Int)=some (exM (λa=>(a,true)) e)/\∀a,e=.ret a->a∈l
 |0,k,_,v=>by omega
 |n+1,k,y,v=>by
  rw[QbD,Qcp];by_cases j:k<l.length;case neg=>rw[We aa,Wa,Wa];exact⟨_,rfl,rfl,λa e=>by grind⟩
  have o:=WL j;have q:1000<N:=by unfold NB at hN;omega
  have nx:=Xem hN ht hp r s l u f g n (k+1) aa aa;simp only[Wd (show(k:Int)<(l.length:Int) by omega),Wb,Xe,Wc j,Xa,XaC hN ht ((f _ o).tu hp),g _ o,YS q,X6,Xl0,Xir,XG r s,Xg (show k<=140737488355328 by omega)];cases ((pg h.p i).k==1)<;>cases ((pg h.p i).k==2)<;>cases (decide (XM (hdA h.w l[k])<=smC h.c))<;>cases ((hdA h.w l[k]).k==0);all_goals simp only[Wb,Wa,Wi,W0]
  all_goals first
   |exact nx
   |exact⟨_,rfl,rfl,λa e=>by cases e;exact o⟩
def Xj2(hN:NB N){h:Wo}(ht:HT h)(hp:Ut h){i:Int}(j:0<=i)(o:i<h.p.length)(l:List Int)(q:l.length<=4096)(f:∀a∈l,IQ h a)(g:∀a∈l,Qar N h a=some (hdA h.w a,0)):
 ∃a,QfN N h i l=some a/\∃b,QgJ N h i l=some (b,a != 0):=by
 have⟨e,r,s,e3⟩:=Xem hN ht hp j o l q f g N 0 aa (by unfold NB at hN;omega);rw[QfN,QgJ,show(0:Int)=((0:Nat):Int)from rfl,r,s,Xa,Xa];cases e with
 |ret a=>have:=(f a (e3 a rfl)).rng;simp only[exM,XD];exact⟨a,rfl,a,by rw[show(a != ((0:Nat):Int))=true by grind]⟩
 |nxt u=>simp[exM,Xq]
def XgE{h:Wo}(e:(pg h.p 0).k≠3)(f:h.p.length<=100000):∀(n i:Nat),i<h.p.length->i<n->Qfq N h n (i:Int)=Qev N h n (i:Int)
 |0,i,_,g=>by omega
 |n+1,i,l,g=>by
  rw[Qfq,Qev,XG aa aa,Xa,Xa];cases i with
  |zero=>grind
  |succ j=>rw[Wd aa,Wb,Xd aa aa,show((j+1:Nat):Int)-1=(j:Int) by omega,XgE e f n j aa aa]
def Xl5(hN:NB N){h:Wo}(hb:HB h)(hp:Ut h){i:Int}(e:0<=i)(f:i<h.p.length):QhU N h i=Qgg N h i:=by
 obtain⟨k,rfl⟩:∃k:Nat,i=(k:Int):=⟨i.toNat,aa⟩
 have:=hb.2;rw[QhU,Qgg,XgE hp.first this N k aa (by unfold NB at hN;omega)]
def Xae(h:Wo)(a:Int):Int:=if(hdA h.w a).k=0 then 1 else szA h.w a
def Xro(h:Wo)(i:Int)(l:List Int)(k:Int):Bool:=l.any λa=>decide (a-Xj h.c i 0<=k/\k<a-Xj h.c i 0+Xae h a)
def XiS(h:Wo)(hp:Ut h)(i:Int)(z:0<=i)(B:i<h.p.length)(l:List Int)(k:Nat)(a:Int)(A:l[k]? = some a)(x:Int)(D:x<=256)(E:4096<=a/\a<=8192):∀(n:Nat)(w:Int)(u:List Bool),0<=w->(x-w).toNat<n->u.length<=1000 ->
 ∃e,QbR N h i l (k:Int) x n w u=some e/\e.length=u.length/\∀j,j<u.length->e.getD j false=(u.getD j false||decide (a-Xj h.c i 0+w<=j/\(j:Int)<a-Xj h.c i 0+x))
 |0,w,u,_,G,_=>by omega
 |n+1,w,u,hw,G,K=>by
  have H:=hp.pages;have L:=Xu.1 hp.conf;have M:=X4 hp.conf (i:=i) z aa;rw[QbR];by_cases f:w<x;case neg=>
   rw[XT f,Wa]
   exact⟨u,rfl,rfl,λj g=>by rw[XT (show¬_ by omega),Bool.or_false]⟩
  have O:Xj h.c i 0=4096+i*h.c.W:=by unfold Xj;omega
  rw[Wd f,Wb,Xe,A,Xa];rw[Xd (n:=a) aa aa,Xd (n:=a-4096) aa aa,Xd (n:=a-4096+w) aa aa,Xd (n:=i*h.c.W) aa aa,Xd (n:=a-4096+w-i*h.c.W) aa aa,Xd (n:=w+1) aa aa];generalize R:a-4096+w-i*h.c.W=q;have step:∀v:List Bool,v.length=u.length->(∀j,j<u.length->v.getD j false=(u.getD j false||decide ((j:Int)=q)))->∃e,QbR N h i l (k:Int) x n (w+1) v=some e/\e.length=u.length/\∀j,j<u.length->e.getD j false=(u.getD j false||decide (a-Xj h.c i 0+w<=j/\(j:Int)<a-Xj h.c i 0+x)):=by intro v o r;obtain⟨e,I,J,e3⟩:=XiS h hp i z B l k a A x D E n (w+1) v aa aa aa;refine⟨e,I,J.trans o,λj g=>?_⟩;rw[e3 j aa,r j g,Bool.or_assoc];congr 1;rw[←Bool.decide_or];exact decide_eq_decide.2 aa
  by_cases s:q>=0;case neg=>
   rw[XT s,Wa]
   exact step u rfl λj g=>by rw[XT (show¬(j:Int)=q by omega),Bool.or_false]
  rw[Wd s,Wb,Xc aa];by_cases y:q<u.length;case neg=>
   rw[XT y,Wa]
   exact step u rfl λj g=>by rw[XT (show¬(j:Int)=q by omega),Bool.or_false]
  rw[Wd y,Wb,X0 s y,Xa];refine step _ (by rw[WN]) λj g=>?_;rw[Wq,Iz];grind
end
section
variable {N:Nat}
def Xj3(h:Wo)(i:Int)(k:Int)(a:Int):Bool:=decide (a-Xj h.c i 0<=k/\k<a-Xj h.c i 0+Xae h a)
def Xfj(h:Wo)(i:Int)(l:List Int)(k:Int):Xro h i l k=l.any (Xj3 h i k):=rfl
def Xl6(h:Wo)(a:Int):1<=Xae h a/\Xae h a<=256:=by have:=YW h.w a;unfold Xae;omega
def XiT(hN:NB N){h:Wo}(hp:Ut h)(i:Int)(y:0<=i)(z:i<h.p.length)(l:List Int)(D:l.length<=4096)(o:∀a∈l,IQ h a)(r:∀a∈l,Qar N h a=some (hdA h.w a,0)):∀(n k:Nat)(u:List Bool),k<=l.length->l.length-k<n->u.length<=1000 ->
 ∃s,QdQ N h i l n (k:Int) u=some s/\s.length=u.length/\∀j:Nat,j<u.length->s.getD j false=(u.getD j false||(l.drop k).any (Xj3 h i (j:Int)))
 |0,k,u,_,E,_=>by omega
 |n+1,k,u,O,E,G=>by
  have R:=Xu.1 hp.conf;have S:=X4 hp.conf (i:=0) aa aa;have H:1000000<N:=by unfold NB at hN;omega
  rw[QdQ];by_cases f:k<l.length;case neg=>
   rw[We aa,Wa,UK aa]
   exact⟨u,rfl,rfl,λj A=>ab⟩
  have g:=WL f;have T:=(o _ g).rng;have I:=Xl6 h l[k];have v:=YW h.w l[k];have e:∀kk:Int->Option (List Bool),(jn kk λB=>bif ((hdA h.w l[k]).k==0)then B 1 else B (XM (hdA h.w l[k])))=kk (Xae h l[k]):=by
   intro kk;rw[Xz];unfold Xae;rw[v.1];by_cases q:(hdA h.w l[k]).k=0
   .rw[Wp q,show((hdA h.w l[k]).k==0)=true by simpa using q,Wb]
   rw[Wk q,show((hdA h.w l[k]).k==0)=false by simpa using q,Wa]
  rw[Wd aa,Wb,Xe,Wc f,Xa,r _ g,Xa,X6,Xa];rw[e];have⟨J,K,L,M⟩:=XiS (N:=N) h hp i y z l k l[k] (Wc f) (Xae h l[k]) I.2 aa N 0 u aa aa G;rw[K,Xa,Xg aa];have⟨s,g1,g2,g3⟩:=XiT hN hp i y z l D o r n (k+1) J aa aa aa;refine⟨s,g1,g2.trans L,λj A=>?_⟩;rw[g3 j aa,M j A,Bool.or_assoc,Wu f,List.any_cons];unfold Xj3;simp
def Xox(hN:NB N){h:Wo}(hp:Ut h)(i:Int)(o:0<=i)(q:i<h.p.length)(l:List Int)(r:l.length<=4096)(e:∀a∈l,IQ h a)(f:∀a∈l,Qar N h a=some (hdA h.w a,0)):
 ∃u,QhN N h i l=some u/\u.length=h.c.W.toNat/\∀j:Nat,j<u.length->u.getD j false=Xro h i l (j:Int):=by have v:=Xu.1 hp.conf;rw[QhN,Xc aa,show(0:Int)=((0:Nat):Int)from rfl];have⟨u,s,g,e3⟩:=XiT hN hp i o q l r e f N 0 (List.replicate h.c.W.toNat false) aa (by unfold NB at hN;omega) (by grind);rw[s,Xa];rw[WT]at g e3;refine⟨u,rfl,g,λj y=>?_⟩;rw[e3 j aa,WY,Xfj,show(List.replicate h.c.W.toNat false).getD j false=false by simp_all,Ie]
def wdP(h:Wo)(i:Int)(k:Nat):Int:=wd h.w (Xj h.c i 0+k)
def Xoy(hN:NB N){h:Wo}(hb:HB h)(hp:Ut h){i:Int}(e:0<=i)(j:i<h.p.length){k:Nat}(l:(k:Int)<h.c.W):Qgh N h i (k:Int)=some (wdP h i k):=by
 have f:=hp.pages;have o:=X4 hp.conf (i:=i) e aa;rw[Qgh,QhO,KO,hp.conf,Wk ab,Wp aa,Xa,YO (by unfold BIG;have:=hb.1;omega),Xa,Xa];have g:Xj h.c i (k:Int)=Xj h.c i 0+k:=by unfold Xj;omega
 have hw:=hp.words;rw[g,Wp (by unfold inW Xj;omega)];rfl
def XiU(hN:NB N){h:Wo}(hb:HB h)(hp:Ut h){i:Int}(g:0<=i)(o:i<h.p.length)(u:List Bool)(q:u.length=h.c.W.toNat):∀(n k:Nat),k<=u.length->u.length-k<n ->
 ∃e,Qc0 N h i u n (k:Int)=some e/\((∃j,k<=j/\j<u.length/\u.getD j false=false/\wdP h i j≠0)->∃a,e=.ret a/\a≠0)/\((¬∃j,k<=j/\j<u.length/\u.getD j false=false/\wdP h i j≠0)->e=.nxt ())
 |0,k,_,r=>by omega
 |n+1,k,B,r=>by
  have s:=hp.pages;have D:=X4 hp.conf (i:=i) g aa;rw[Qc0];by_cases f:k<u.length;case neg=>
   grind
  rw[Wd aa,Wb,Xe,Wc f,Xa,Xoy hN hb hp g o aa,Xa,Xg aa];have E:u.getD k false=u[k]:=by rw[Wq,Wc f];rfl
  have skip:(u[k]=true\/wdP h i k=0)->∃e,Qc0 N h i u n ((k+1:Nat):Int)=some e/\((∃j,k<=j/\j<u.length/\u.getD j false=false/\wdP h i j≠0)->∃a,e=.ret a/\a≠0)/\((¬∃j,k<=j/\j<u.length/\u.getD j false=false/\wdP h i j≠0)->e=.nxt ()):=by
   intro G;obtain⟨e,v,y,e3⟩:=XiU hN hb hp g o u q n (k+1) aa aa;refine⟨e,v,λ⟨j,a,b,c,d⟩=>y ⟨j,?_,b,c,d⟩,λl=>e3 λ⟨j,a,b⟩=>l ⟨j,aa,b⟩⟩;by_cases z:j=k
   .simp_all
   omega
  cases H:u[k]with
  |true=>simp_all
  |false=>
   by_cases A:wdP h i k=0
   .simp_all
   rw[show(wdP h i k != 0)=true by simp_all,Wb,Qgv,Xa];refine⟨_,rfl,λ_=>⟨_,rfl,?_⟩,λl=>absurd ⟨k,aa,f,by simp_all,A⟩ l⟩;rw[Xd (n:=i*h.c.W) aa aa,Xd (n:=4096+i*h.c.W) aa aa,Xd aa aa,XA aa aa];omega
end
section
variable {N:Nat}
def KH(L x:Int):Int:=if L<(if x<0 then 0 else x)then L else(if x<0 then 0 else x)
def Xfk{v:List Int}{lo hi:Nat}(e:lo<=hi)(f:hi<=v.length):(((v.take lo)++(List.replicate (hi-lo) 0))++(v.drop (lo+(hi-lo)))).length=v.length:=by grind
def XiV{v:List Int}{e f:Nat}(g:e<=f)(h:f<=v.length)(j:Nat):(((v.take e)++(List.replicate (f-e) 0))++(v.drop (e+(f-e)))).getD j 0=if e<=j/\j<f then 0 else v.getD j 0:=by grind
def XgF(hN:NB N){h:Wo}(ht:HT h)(hp:Ut h)(i:Int)(y:0<=i)(E:i<h.p.length)(f:List Int×Int)(G:f.1.length<=4096)(l:∀a∈f.1,IQ h a)(r:∀a∈f.1,Qar N h a=some (hdA h.w a,0)):∀(n k:Nat)(v:List Int),k<=f.1.length->f.1.length-k<n->v.length<=1000 ->
 ∃s,QeA N h (Xj h.c i 0,0) f n (k:Int) v=some s/\s.length=v.length/\∀j:Nat,j<v.length->s.getD j 0=if(f.1.drop k).any (Xj3 h i (j:Int))=true then 0 else v.getD j 0
 |0,k,v,_,H,_=>by omega
 |n+1,k,v,S,H,I=>by
  have J:=Xu.1 hp.conf;have K:=hp.pages;have T:=X4 hp.conf (i:=i) y aa;have L:1000000<N:=by unfold NB at hN;omega
  rw[QeA];by_cases o:k<f.1.length;case neg=>
   rw[We aa,Wa,UK aa]
   exact⟨v,rfl,rfl,λj z=>ab⟩
  have g:=WL o;have U:=(l _ g).rng;have V:=Xl6 h f.1[k];have u:=YW h.w f.1[k];have e:∀kk:Int->Option (List Int),(jn kk λB=>bif ((hdA h.w f.1[k]).k != 0)then(bnd (some (XM (hdA h.w f.1[k]))) λM=>B M)else B 1)=kk (Xae h f.1[k]):=by
   intro kk;rw[Xz];unfold Xae;rw[u.1];by_cases q:(hdA h.w f.1[k]).k=0
   .rw[Wp q,show((hdA h.w f.1[k]).k != 0)=false by simpa using q,Wa]
   rw[Wk q,show((hdA h.w f.1[k]).k != 0)=true by simpa using q,Wb,Xa]
  rw[Wd (show(k:Int)<(f.1.length:Int) by omega),Wb,Xe,Wc o,Xa,XaC hN ht ((l _ g).tu hp),r _ g,Xa,YS aa];rw[e];have Y:Xj h.c i 0=4096+i*h.c.W:=by unfold Xj;omega
  have w0:wI f.1[k]=f.1[k]:=Xd aa aa;have w1:wI (Xj h.c i 0)=Xj h.c i 0:=Xd aa aa;have w2:wI (f.1[k]-Xj h.c i 0)=f.1[k]-Xj h.c i 0:=Xd aa aa;have O:wI (f.1[k]-Xj h.c i 0+Xae h f.1[k])=f.1[k]-Xj h.c i 0+Xae h f.1[k]:=Xd aa aa;simp only[w0,w1,w2,O,Xg (show k<=140737488355328 by omega)];rw[Xc aa,Xc aa];have Z:∀x:Int,(if(v.length:Int)<(if x<0 then 0 else x)then(v.length:Int)else(if x<0 then 0 else x))=KH v.length x:=λ_=>rfl;have D:∀x:Int,0<=KH v.length x/\KH v.length x<=v.length:=by intro x;unfold KH;split<;>split<;>omega
  generalize R:f.1[k]-Xj h.c i 0=A at *;have a1:=D A;have a2:=D (A+Xae h f.1[k]);have a3:KH v.length A<=KH v.length (A+Xae h f.1[k]):=by
   unfold KH;repeat' split
   all_goals omega
  rw[Xc aa];obtain⟨s,g1,g2,g3⟩:=XgF hN ht hp i y E f G l r n (k+1) _ aa aa (by rw[Xfk (v:=v) (lo:=(KH v.length A).toNat) (hi:=(KH v.length (A+Xae h f.1[k])).toNat) aa aa];exact I);refine⟨s,g1,by rw[g2,Xfk aa aa],λj z=>?_⟩;rw[g3 j (by rw[Xfk aa aa];exact z),XiV aa aa,Wu o,List.any_cons];have ec:Xj3 h i (j:Int) f.1[k]=decide ((KH v.length A).toNat<=j/\j<(KH v.length (A+Xae h f.1[k])).toNat):=by
   unfold Xj3;rw[R];refine decide_eq_decide.2 ?_;unfold KH;repeat' split
   all_goals omega
  grind
def Xoz(l:List Int)(f:l.length<=1000000)(hN:1000000<N):Qbn N l=some (JT (λx=>x != 0) l):=by
 exact JE (p:=λx:Int=>x != 0) f hN (λn k x e=>by
  have g:=XC e
  rw[QaG,Xn g,Wb,Xe,e,Xa,QhV,Xa,Xg aa]) (λn=>by rw[QaG,XB,Wa])
def Xl7(hN:NB N){h:Wo}(ht:HT h)(ep:Qac N h=some true){i:Int}(o:0<=i)(q:i<h.p.length):
 ∃a,Qgi N h i=some a/\∃b,Qhc N h i=some (b,a != 0):=by
 have E:1000000<N:=by unfold NB at hN;omega
 have hb:=ht.hb;have hp:=Yq hN hb ep;have U:=Xu.1 hp.conf;have V:=hp.pages;have hm:=X4 hp.conf (i:=i) o aa;have ad:Xj h.c i 0=4096+i*h.c.W:=by unfold Xj;omega
 have hw:=hp.words;have⟨pw,G⟩:∃pw:Nat,h.c.W=(pw:Int):=⟨h.c.W.toNat,aa⟩
 have s:Yt h.w (Xj h.c i 0) pw:=by unfold Yt;omega
 have erd:QdC N h.w (Xj h.c i 0) h.c.W=some ((h.w.drop (ix (Xj h.c i 0))).take pw,0):=by rw[G,Xb9 (by unfold BIG;omega) N _ pw aa,Wp s]
 have eadr:Qbv N h.c i 0=some (Xj h.c i 0,0):=by rw[KO,hp.conf,Wk ab,Wp aa]
 have H:Xj h.c i 0<=18446744073709551615:=aa;have⟨hd,Y,I,J⟩:=Xe5 N (h:=h) hp.first N i o q hb.2 aa;have y:Qgg N h i=some hd:=by rw[Qgg,Y,Xa]
 have⟨r,R,Z,S⟩:=Qif hN hb hp hd I J;have⟨⟨z,A,_⟩,_,_⟩:=Z;have⟨u,eu,K,L⟩:=Xox hN hp i o q r.1 aa z A;have⟨e,e1,T,e3⟩:=XiU hN hb hp o q u K N 0 aa aa;rw[Qgi,y,Xa,R,Xa,eu,Xa,show(0:Int)=((0:Nat):Int)from rfl,e1,Xa];rw[Qhc,VJ,eadr,Xa,Xl4 aa H];rw[erd,Xa,Xl5 hN hb hp o q,y,Xa,Xdh hN ht,R,Xa];have hvl:((h.w.drop (ix (Xj h.c i 0))).take pw).length=pw:=by rw[Wj,Wl];unfold ix;unfold Yt at s;omega
 have⟨v,g1,g2,g3⟩:=XgF hN ht hp i o q r aa z A N 0 ((h.w.drop (ix (Xj h.c i 0))).take pw) aa aa aa;have M:QeA N h (Xj h.c i 0,0) r N 0 ((h.w.drop (ix (Xj h.c i 0))).take pw)=some v:=g1;have hul:u.length=pw:=by clear T e3;omega
 rw[M,Xa,Xoz v aa E,Xa];have B:decide (JT (λx=>x != 0) v>=0)=v.any (λx=>x != 0):=Ku _ v;rw[B];have f:∀j,j<pw->((h.w.drop (ix (Xj h.c i 0))).take pw).getD j 0=wdP h i j:=by intro j D;unfold wdP wd ix;rw[Wq,Ul,Wp D,UL,Wq];congr 2;omega
 have iff1:v.any (λx=>x != 0)=true↔∃j,0<=j/\j<u.length/\u.getD j false=false/\wdP h i j≠0:=by
  rw[List.any_eq_true];constructor
  .rintro⟨x,hx,hx0⟩;obtain⟨j,D,rfl⟩:=WJ hx;have g:j<pw:=aa;have:=g3 j aa;rw[Wq,Wc D,UZ,f j g,WY,←Xfj]at this;grind
  rintro⟨j,_,D,hc,hz⟩;have g:j<v.length:=aa;refine⟨v[j],WL g,?_⟩;have:=g3 j aa;rw[Wq,Wc g,UZ,f j aa,WY,←Xfj,←L j D,hc,Wk ab]at this;grind
 by_cases l:∃j,0<=j/\j<u.length/\u.getD j false=false/\wdP h i j≠0
 .obtain⟨a,rfl,ha⟩:=T l;rw[XD,iff1.2 l];simp_all
 have O:=e3 l;subst O;rw[Xq,show v.any (λx=>x != 0)=false by rw[←I8];exactλhh=>l (iff1.1 hh)];simp
end
def Jy{α β:Type}{L:Nat}{F:Nat->Int->Option (Ex α β)}{p:Nat->Prop}{Q:α->Prop}{u:β}(f:∀n k,k<L->p k->∃a,F (n+1) (k:Int)=some (.ret a)/\Q a)(l:∀n k,k<L->¬p k->F (n+1) (k:Int)=F n ((k+1:Nat):Int))(g:∀n,F (n+1) (L:Int)=some (.nxt u)):∀(n k:Nat),k<=L->L-k<n ->
 ∃e,F n (k:Int)=some e/\((∃j,k<=j/\j<L/\p j)->∃a,e=.ret a/\Q a)/\((¬∃j,k<=j/\j<L/\p j)->e=.nxt u)
 |0,k,_,q=>by omega
 |n+1,k,y,q=>by
  by_cases h:k<L;case neg=>
   grind
  by_cases hp:p k
  .have⟨a,e,r⟩:=f n k h hp;exact⟨_,e,λ_=>⟨a,rfl,r⟩,λo=>absurd ⟨k,Uf _,h,hp⟩ o⟩
  have⟨e,s,v,e3⟩:=Jy f l g n (k+1) aa aa;refine⟨e,(l n k h hp).trans s,λ⟨j,a,b,c⟩=>v ⟨j,?_,b,c⟩,λo=>e3 λ⟨j,a,b⟩=>o ⟨j,aa,b⟩⟩;grind
section
variable {N:Nat}
def Xl8(l:List Int)(x:Int)(o:l.length<=1000000)(g:l.Pairwise (·<·)):∀(n e hi:Nat),e<=hi->hi<=l.length->hi-e<n->(∀i(h:i<l.length),i<e->l[i]<x)->(∀i(h:i<l.length),hi<=i->x<=l[i]) ->
 ∃k:Nat,Qay N l x n (e:Int) (hi:Int)=some (k:Int)/\k<=l.length/\(∀i(h:i<l.length),i<k->l[i]<x)/\(∀i(h:i<l.length),k<=i->x<=l[i])
 |0,e,hi,_,_,q,_,_=>by omega
 |n+1,e,hi,A,r,q,s,hb=>by
  rw[Qay];by_cases u:e<hi;case neg=>
   grind
  have f:wI (YC .u64 (wU (wI ((e:Int)+hi))) 1)=(((e+hi) / 2:Nat):Int):=by rw[Xd (n:=(e:Int)+hi) aa aa,XA aa aa,show YC .u64 ((e:Int)+hi) 1=((e:Int)+hi) / 2 from YG _ 1 aa aa,Xd aa aa];omega
  have v:(e+hi) / 2<l.length:=aa;have y:e<=(e+hi) / 2/\(e+hi) / 2<hi:=aa;generalize (e+hi) / 2=m at *;rw[Wd aa,Wb,f,Xe,Wc v,Xa,QgQ,Qfc,Xa,show(l[m] != l[m])=false by simp,Wa,Xa];have z:=UI.1 g;by_cases p:l[m]<x
  .rw[Wd p,Wb,Xg aa];refine Xl8 l x o g n (m+1) hi aa r aa (λi h j=>?_) hb;grind
  rw[We p,Wa];refine Xl8 l x o g n e m aa aa aa s (λi h j=>?_);grind
def XiW(l:List Int)(x:Int)(v:l.length<=1000000)(hN:1000000<N)(r:l.Pairwise (·<·)):∃k:Int,Qau N l x=some (k,l.contains x):=by
 have⟨k,e,z,s,y⟩:=Xl8 (N:=N) l x v r N 0 l.length aa aa aa (λi h g=>aa) (λi h g=>aa);rw[Qau,show(0:Int)=((0:Nat):Int)from rfl,e,Xa];by_cases f:k<l.length
 .rw[Wd aa,Wb,Xe,Wc f,Xa];by_cases u:l[k]=x
  .refine⟨k,?_⟩;grind
  refine⟨k,?_⟩;rw[show(l[k]==x)=false by simpa using u,Wa,Xa,QdX,Xa,show(l[k] != l[k])=false by simp,Wa];have:l.contains x=false:=by
   rw[←I8,IV];intro j;obtain⟨i,g,rfl⟩:=WJ j;have o:=UI.1 r;by_cases p:i<k
   .have:=s i g p;omega
   have a:=y k f (Uf _);by_cases q:i=k
   .subst q;exact u rfl
   have:=o k i f g aa;omega
  grind
 refine⟨k,?_⟩;have:l.contains x=false:=by rw[←I8,IV];intro j;obtain⟨i,g,rfl⟩:=WJ j;have:=s i g aa;omega
 grind
def Oy.asc{h:Wo}{l:List Int}(o:Oy N h l):l.Pairwise (·<·):=
 o.pw.imp λ{a b} e=>by have:=(YW h.w a).2;omega
def Xam{d:WC}:∀{k:Nat}{i x:Int},i<=x->x<i+k->KF d x=true->x∈YH d k i
 |0,i,x,e,f,_=>by omega
 |k+1,i,x,e,f,g=>by
  simp only[YH,WG];by_cases h:x=i
  .simp_all
  right;exact Xam aa aa g
def XbH{d:WC}(e:XL d=true){x:Int}:x∈Zu d↔0<=x/\x<d.n/\KF d x=true:=by
 unfold Zu;rw[Wp e];constructor
 .intro h;have:=J9 h;grind
 intro h;exact Xam aa aa h.2.2
end
section
variable {N:Nat}
def Xp7(h:Wo)(l:List Int)(a i:Int):Prop:=wd h.w (a+1+i)≠0/\l.contains (wd h.w (a+1+i))=false
def XaD(h:Wo)(l:List Int)(a:Int):Prop:=∃i,i∈Zu (hdA h.w a)/\Xp7 h l a i
def V8(h:Wo)(a:Int):XL (hdA h.w a)=true:=Jc _
def XoA{h:Wo}(hp:Ut h){a:Int}(e:IQ h a){i:Int}(f:0<=i)(g:i<(hdA h.w a).n):4096<=a+1+i/\a+1+i<4096+h.w.length/\a+1+i<=8192/\(hdA h.w a).n<=255:=by have:=Vb hp e;have:=e.rng;have:=YW h.w a;have j:=Xu.1 hp.conf;have:=X4 hp.conf (i:=0) aa aa;have:=hp.words;unfold szA at *;omega
def Xrp(hN:NB N){h:Wo}(ht:HT h)(hp:Ut h)(g:List Int×Int)(O:g.1.length<=1000000)(R:g.1.Pairwise (·<·))(s:Int){a:Int}(J:IQ h a):
 ∃e,QaT N h g s a (Zu (hdA h.w a)) N 0=some e/\(XaD h g.1 a->∃b,e=.ret b/\b≠0)/\(¬XaD h g.1 a->e=.nxt ()):=by
 have z:1000000<N:=by unfold NB at hN;omega
 have hb:=ht.hb;have A:=V8 h a;have B:=XY A;have S:(Zu (hdA h.w a)).length<=255:=by unfold Zu;rw[Wp A];have:=Va (d:=hdA h.w a) (k:=(hdA h.w a).n.toNat) (i:=0);omega
 have v:∀k(l:k<(Zu (hdA h.w a)).length),0<=(Zu (hdA h.w a))[k]/\(Zu (hdA h.w a))[k]<(hdA h.w a).n:=λk l=>by have:=(XbH A).1 (WL l);omega
 generalize D:Zu (hdA h.w a)=f at *;have Z:=J.rng;have step:∀n k(l:k<f.length),QaT N h g s a f (n+1) (k:Int)=bif (wd h.w (a+1+f[k]) != 0)then(bif (!g.1.contains (wd h.w (a+1+f[k])))then some (.ret (a+1+f[k]))else QaT N h g s a f n ((k+1:Nat):Int))else QaT N h g s a f n ((k+1:Nat):Int):=by
  intro n k l;have K:=v k l;have hf:=XoA hp J K.1 K.2;have T:(h.w.length:Int)<=100000:=by have:=hb.1;omega
  have w1:wU (wU (a+1)+wU f[k])=a+1+f[k]:=by rw[XA (n:=a+1) aa aa,XA (n:=f[k]) aa aa,XA aa aa]
  rw[QaT,Wd aa,Wb,Xe,Wc l,Xa,w1,Xde aa aa,YO (by unfold BIG;omega),Wp (by unfold inW;omega),Xa];dsimp only;obtain⟨q,eq⟩:=XiW (N:=N) g.1 (h.w.getD (ix (a+1+f[k])) 0) O z R;rw[eq,Xa,Xg aa];rfl
 have key:=Jy (L:=f.length) (F:=QaT N h g s a f) (p:=λk=>∃l:k<f.length,Xp7 h g.1 a f[k]) (Q:=λb=>b≠0) (u:=())
  (λn k l y=>by
   obtain⟨U,E,G⟩:=y
   refine⟨a+1+f[k],?_,?_⟩
   .rw[step n k l,show(wd h.w (a+1+f[k]) != 0)=true by simpa using E,Wb,G];rfl
   grind)
  (λn k l H=>by
   rw[step n k l]
   by_cases E:wd h.w (a+1+f[k])=0
   .simp_all
   .rw[show(wd h.w (a+1+f[k]) != 0)=true by simp_all,Wb]
    cases G:g.1.contains (wd h.w (a+1+f[k]))with
    |true=>rfl
    |false=>exact absurd ⟨l,E,G⟩ H)
  (λn=>by rw[QaT,We aa,Wa]) N 0 aa aa
 have⟨e,V,W,e3⟩:=key;refine⟨e,V,λo=>?_,λo=>?_⟩
 .have⟨i,M,r⟩:=o;rw[D]at M;obtain⟨j,I,rfl⟩:=WJ M;exact W ⟨j,II _,I,I,r⟩
 refine e3 λ⟨j,_,I,Y,r⟩=>o ⟨f[j],?_,r⟩;simp_all
def Xpl(hN:NB N){h:Wo}(ht:HT h)(hp:Ut h)(f:List Int×Int)(q:f.1.length<=1000000)(s:f.1.Pairwise (·<·))(g:∀a∈f.1,IQ h a)(l:∀a∈f.1,Qar N h a=some (hdA h.w a,0)):∀(n k:Nat),k<=f.1.length->f.1.length-k<n ->
 ∃r,Qcs N h f n (k:Int)=some r/\((∃a∈f.1.drop k,XaD h f.1 a)->r≠0)/\((¬∃a∈f.1.drop k,XaD h f.1 a)->r=0)
 |0,k,_,u=>by omega
 |n+1,k,z,u=>by
  have v:1000000<N:=by unfold NB at hN;omega
  rw[Qcs];by_cases j:k<f.1.length;case neg=>
   grind
  have o:=WL j;rw[Wd aa,Wb,Xe,Wc j,Xa,XaC hN ht ((g _ o).tu hp),l _ o,Xa,Xei aa _ (V8 h _),Xa];have⟨e,y,A,e3⟩:=Xrp hN ht hp f q s (k:Int) (g _ o);rw[y,Xa,Wu j];by_cases p:XaD h f.1 f.1[k]
  .grind[XD]
  have:=e3 p;subst this;rw[Xq,Xg aa];have⟨r,B,D,E⟩:=Xpl hN ht hp f q s g l n (k+1) aa aa;grind
def Xl9(hN:NB N){h:Wo}(hb:HB h)(ep:Qac N h=some true){a:Int}(f:IQ h a)(e:Qar N h a=some (hdA h.w a,0))(g:(hdA h.w a).k≠0):QcF N h a=some (hdA h.w a,0):=by have:=f.rng;rw[QcF,ep,Xa,Wi,Wa,show(a==0)=false by simp;omega,Wa,e,Xa];grind
def Xj4(hN:NB N){h:Wo}(hb:HB h)(ep:Qac N h=some true){a:Int}(f:IQ h a)(g:Qar N h a=some (hdA h.w a,0))(p:(hdA h.w a).k≠0):∃l,Qf3 N h a=some (l,0)/\(l.length:Int)=(hdA h.w a).n/\∀(j:Nat)(q:j<l.length),l[j]=wd h.w (a+1+j):=by
 have hp:=Yq hN hb ep;have r:=XY (V8 h a);have s:=f.rng;have e:=Vb hp f;have u:=X4 hp.conf (i:=0) aa (by have:=Xu.1 hp.conf;omega);have hw:=hp.words;unfold szA at e;have⟨m,o⟩:∃m:Nat,(hdA h.w a).n=(m:Int):=⟨(hdA h.w a).n.toNat,aa⟩
 rw[Qf3,Xl9 hN hb ep f g p,Xa];rw[show((0:Int) != 0)=false from rfl,Wa,XA (n:=a+1) aa aa,o,Xb9 (by unfold BIG;omega) N _ m aa,Wp (by unfold Yt;omega),Xa];refine⟨_,rfl,?_,λj q=>?_⟩
 .rw[Wj,Wl];unfold ix;omega
 rw[Ih,ID];unfold wd;rw[Wq,show ix (a+1+(j:Int))=ix (a+1)+j by unfold ix;omega,Wc (by grind)];rfl
end
section
variable {N:Nat}
def Xrq(hN:NB N){h:Wo}(hb:HB h)(hp:Ut h)(g l:List Int×Int)(U:g.1.length<=1000000)(o:Int){a:Int}(y:Xb g.1 o=some a)(V:IQ h a)(W:(l.1.length:Int)=(hdA h.w a).n)(J:∀(j:Nat)(K:j<l.1.length),l.1[j]=wd h.w (a+1+j)):
 ∃e,QaH N h g l o (hdA h.w a,0) N 0=some e/\(XaD h g.1 a->∃f,e=.ret f/\f.Fault≠0)/\(¬XaD h g.1 a->e=.nxt ()):=by
 have M:1000000<N:=by unfold NB at hN;omega
 have z:=V8 h a;have A:=XY z;have step:∀n k(q:k<l.1.length),QaH N h g l o (hdA h.w a,0) (n+1) (k:Int)=bif KF (hdA h.w a) (k:Int)then(bif (wd h.w (a+1+k) != 0)then(bif (!g.1.contains (wd h.w (a+1+k)))then(bnd (Qc8 N h.c (wU ((wU (a+1))+(wU (k:Int))))) λB=>some (.ret (Ud.mk 6 B.1 (wU ((wU (a+1))+(wU (k:Int)))))))else QaH N h g l o (hdA h.w a,0) n ((k+1:Nat):Int))else QaH N h g l o (hdA h.w a,0) n ((k+1:Nat):Int))else QaH N h g l o (hdA h.w a,0) n ((k+1:Nat):Int):=by intro n k q;rw[QaH,Wd aa,Wb,Kv,Xa,Xe,Wc q,J k q,Xg aa];simp only[Xa,YM (wd h.w (a+1+(k:Int))) (show g.1.length<=1000000000 by omega) (show g.1.length<N by omega),y]
 have key:=Jy (L:=l.1.length) (F:=QaH N h g l o (hdA h.w a,0)) (p:=λk=>KF (hdA h.w a) (k:Int)=true/\Xp7 h g.1 a (k:Int)) (Q:=λf=>f.Fault≠0) (u:=())
  (λn k q v=>by
   obtain⟨D,E,G⟩:=v
   rw[step n k q,D,Wb,show(wd h.w (a+1+(k:Int)) != 0)=true by simpa using E,Wb,G,W0,Wb,JP,Xa]
   simp)
  (λn k q H=>by
   rw[step n k q]
   cases D:KF (hdA h.w a) (k:Int)with
   |false=>rfl
   |true=>
   rw[Wb]
   by_cases E:wd h.w (a+1+(k:Int))=0
   .simp_all
   .rw[show(wd h.w (a+1+(k:Int)) != 0)=true by simp_all,Wb]
    cases G:g.1.contains (wd h.w (a+1+(k:Int)))with
    |true=>rfl
    |false=>exact absurd ⟨D,E,G⟩ H)
  (λn=>by rw[QaH,We aa,Wa]) N 0 aa aa
 have⟨e,O,R,e3⟩:=key;refine⟨e,O,λr=>?_,λr=>?_⟩
 .have⟨i,S,s⟩:=r;have T:=(XbH z).1 S;obtain⟨j,rfl⟩:∃j:Nat,i=(j:Int):=⟨i.toNat,aa⟩
  exact R ⟨j,II _,aa,T.2.2,s⟩
 exact e3 λ⟨j,_,K,I,s⟩=>r ⟨(j:Int),(XbH z).2 ⟨aa,aa,I⟩,s⟩
def Xpm(hN:NB N){h:Wo}(hb:HB h)(ep:Qac N h=some true)(g:List Int×Int)(v:g.1.length<=1000000)(j:∀a∈g.1,IQ h a)(o:∀a∈g.1,Qar N h a=some (hdA h.w a,0))(p:∀a∈g.1,(hdA h.w a).k≠0):∀(n k:Nat),k<=g.1.length->g.1.length-k<n ->
 ∃e,Qb5 N h g n (k:Int)=some e/\((∃a∈g.1.drop k,XaD h g.1 a)->∃f,e=.ret f/\f.Fault≠0)/\((¬∃a∈g.1.drop k,XaD h g.1 a)->e=.nxt ())
 |0,k,_,z=>by omega
 |n+1,k,G,z=>by
  have hp:=Yq hN hb ep;rw[Qb5];by_cases q:k<g.1.length;case neg=>
   grind
  have s:=WL q;have y:Xb g.1 (k:Int)=some g.1[k]:=by rw[Xe,Wc q]
  have⟨l,A,B,D⟩:=Xj4 hN hb ep (j _ s) (o _ s) (p _ s);rw[Wd aa,Wb,y,Xa,Xl9 hN hb ep (j _ s) (o _ s) (p _ s),Xa,Xa,A,Xa];have⟨e,E,H,e3⟩:=Xrq hN hb hp g (l,0) v (k:Int) y (j _ s) B D;rw[E,Xa,Wu q];by_cases u:XaD h g.1 g.1[k]
  .grind[XD]
  have:=e3 u;subst this;rw[Xq,Xg aa];have⟨r,I,J,K⟩:=Xpm hN hb ep g v j o p n (k+1) aa aa;grind
def Jz(hN:NB N){h:Wo}(hb:HB h):∃y,QaK N h=some y/\y.1.length<=4096/\y.1.Pairwise (·<·)/\(∀a∈y.1,IQ h a)/\(∀a∈y.1,Qar N h a=some (hdA h.w a,0))/\(∀a∈y.1,(hdA h.w a).k≠0):=by have⟨y,e,f,_,_⟩:=Ks hN hb;refine⟨y,e,f.len,f.obj.asc,f.obj.at_,f.obj.ev,?_⟩;have⟨r,l,g,_,_⟩:=VY hN hb;have j:=g.len;rw[QaK,l,Xa,show(0:Int)=((0:Nat):Int)from rfl,Xbe r aa g.obj.ev N 0 [] aa (by unfold NB at hN;omega) ab,Xa,WY,Uh]at e;cases e;intro a o;have:=(Ux.1 o).2;simp_all[Zp,fnd]
def zF:Ud:=⟨0,0,0⟩
def XoB(P:Prop)(o:Option Ud):Prop:=∃f,o=some f/\(P->f.Fault≠0)/\(¬P->f=zF)
def XgG(hN:NB N){h:Wo}(ht:HT h)(ep:Qac N h=some true){y:List Int×Int}(v:QaK N h=some y):XoB (∃a∈y.1,XaD h y.1 a) (Qf8 N h)/\XoB (∃a∈y.1,XaD h y.1 a) (Qe5 N h):=by
 have hb:=ht.hb;have hp:=Yq hN hb ep;have⟨I,o,J,E,s,u,z⟩:=Jz hN hb;rw[v]at o;cases o;have B:y.1.length<N:=by unfold NB at hN;omega
 constructor
 .have⟨r,A,D,e3⟩:=Xpl hN ht hp y aa E s u N 0 aa aa;rw[Qf8,KA hN ht,v,Xa];have j:Qcs N h y N 0=some r:=A;rw[j,Xa];by_cases g:∃a∈y.1,XaD h y.1 a
  .rw[show(r==0)=false by simp_all,Wa];have:∃q,Qb2 N h.c r=some q:=by
    rw[Qb2,K1,Xa];cases G:Yk h.c with
    |false=>simp
    |true=>
     have:=Xu.1 G;rw[Wi,Wa];cases decide (r<4096)
     .rw[Wa];cases decide (wU (r-4096)>=wU (wI (h.c.W*h.c.p)))
      .rw[Wa,Xc aa,Xc aa];exact⟨_,rfl⟩
      exact⟨_,rfl⟩
     simp
   have⟨q,eq⟩:=this;rw[eq,Xa];exact⟨_,rfl,λ_=>ab,λl=>absurd g l⟩
  rw[e3 g];exact⟨_,rfl,λl=>absurd l g,λ_=>rfl⟩
 have⟨e,A,D,e3⟩:=Xpm hN hb ep y aa s u z N 0 aa aa;rw[Qe5,v,Xa];have j:Qb5 N h y N 0=some e:=A;rw[j,Xa];by_cases g:∃a∈y.1,XaD h y.1 a
 .obtain⟨f,rfl,H⟩:=D g;rw[XD];exact⟨_,rfl,λ_=>H,λl=>absurd g l⟩
 rw[e3 g,Xq];exact⟨_,rfl,λl=>absurd l g,λ_=>rfl⟩
end
section
variable {N:Nat}
def Xfl(hN:NB N){h:Wo}(ht:HT h)(ep:Qac N h=some true){i:Nat}(R:i<h.p.length):
 ∃f,Qgj N h (i:Int)=some f/\((f.Fault≠0/\∀n,∃q,Qa6 N h (n+1) (i:Int)=some (.ret q)/\q.Fault≠0)\/(f.Fault=0/\∀n,Qa6 N h (n+1) (i:Int)=Qa6 N h n ((i+1:Nat):Int))):=by
 have hb:=ht.hb;have hp:=Yq hN hb ep;have H:h.p.length<=100000:=hb.2;have u:Xb h.p (i:Int)=some (pg h.p (i:Int)):=XG aa aa;have g:∀n,Qa6 N h (n+1) (i:Int)=jn (λ(_:Unit)=>
  bnd (QfG N h (i:Int)) λv=>
  bif (v.2 != 0)then some (.ret (Ud.mk 3 (i:Int) 0))
  else bnd (QgJ N h (i:Int) v.1) λz=>
  bif z.2 then some (.ret (Ud.mk 5 (i:Int) z.1))
  else bnd (Qhc N h (i:Int)) λA=>
  bif A.2 then some (.ret (Ud.mk 4 (i:Int) A.1))
  else Qa6 N h n ((i+1:Nat):Int)) λB=>
  bif ((pg h.p (i:Int)).k != 0)then(bif ((pg h.p (i:Int)).s != h.s)then some (.ret (Ud.mk 2 (i:Int) 0))
   else B ())
  else B ():=by
  intro n
  rw[Qa6,Wd aa,Wb,u,Xa,Xg aa]
 simp only[g,Xz];rw[Qgj,Xz,u];simp only[Xa];by_cases e:(pg h.p (i:Int)).k≠0/\(pg h.p (i:Int)).s≠h.s
 .rw[show((pg h.p (i:Int)).k != 0)=true by simpa using e.1,show((pg h.p (i:Int)).s != h.s)=true by simpa using e.2];exact⟨_,rfl,.inl ⟨by show(2:Int)≠0;omega,λn=>⟨_,rfl,by show(2:Int)≠0;omega⟩⟩⟩
 have I:∀{α:Type}(x y:α),(bif ((pg h.p (i:Int)).k != 0)then(bif ((pg h.p (i:Int)).s != h.s)then x else y)else y)=y:=by
  intro α x y;by_cases k0:(pg h.p (i:Int)).k=0
  .rw[show((pg h.p (i:Int)).k != 0)=false by simpa using k0,Wa]
  have:(pg h.p (i:Int)).s=h.s:=Classical.byContradiction λJ=>e ⟨k0,J⟩;rw[show((pg h.p (i:Int)).s != h.s)=false by simpa using this,Wa,Bool.cond_self]
 simp only[I];have⟨r,K,L,D⟩:=Qif hN hb hp (i:Int) aa aa;simp only[Xdh hN ht,K,Xa];by_cases E:r.2=0;case neg=>
  rw[show(r.2 != 0)=true by simpa using E]
  exact⟨_,rfl,.inl ⟨by show(3:Int)≠0;omega,λn=>⟨_,rfl,by show(3:Int)≠0;omega⟩⟩⟩
 rw[show(r.2 != 0)=false by simpa using E];have⟨⟨j,l,_⟩,_,_⟩:=L;have⟨a,M,b,eb⟩:=Xj2 hN ht hp (i:=(i:Int)) aa aa r.1 aa j l;simp only[M,eb,Xa];by_cases G:a=0;case neg=>
  rw[show(a != 0)=true by simpa using G]
  exact⟨_,rfl,.inl ⟨by show(5:Int)≠0;omega,λn=>⟨_,rfl,by show(5:Int)≠0;omega⟩⟩⟩
 rw[show(a != 0)=false by simpa using G];have⟨d,O,S,o⟩:=Xl7 hN ht ep (i:=(i:Int)) aa aa;simp only[O,o,Xa];by_cases hd:d=0;case neg=>
  rw[show(d != 0)=true by simpa using hd]
  exact⟨_,rfl,.inl ⟨by show(4:Int)≠0;omega,λn=>⟨_,rfl,by show(4:Int)≠0;omega⟩⟩⟩
 simp_all
def Xma(hN:NB N){h:Wo}(ht:HT h)(ep:Qac N h=some true):∃P:Prop,XoB P (Qht N h)/\∃e,QbY N h N 0=some e/\(P->∃f,e=.ret f/\f.Fault≠0)/\(¬P->e=.nxt ()):=by
 have hb:=ht.hb;have E:h.p.length<=100000:=hb.2;have A:h.p.length<N:=by unfold NB at hN;omega
 let p:Nat->Prop:=λk=>∃f,Qgj N h (k:Int)=some f/\f.Fault≠0;refine⟨∃j,0<=j/\j<h.p.length/\p j,?_,?_⟩
 .have key:=Jy (L:=h.p.length) (F:=Qa6 N h) (p:=p) (Q:=λ f=>f.Fault≠0) (u:=())
   (λn k o g=>by
    obtain⟨f,B,v⟩:=g
    obtain⟨q,l,r⟩:=Xfl hN ht ep o
    simp_all)
   (λn k o s=>by
    obtain⟨q,l,r⟩:=Xfl hN ht ep o
    grind)
   (λn=>by rw[Qa6,We aa,Wa]) N 0 aa aa
  have⟨e,G,I,e3⟩:=key;have y:Qa6 N h N 0=some e:=G;unfold XoB;rw[Qht,y,Xa];by_cases D:∃j,0<=j/\j<h.p.length/\p j
  .grind[XD]
  rw[e3 D,Xq];exact⟨_,rfl,λz=>absurd z D,λ_=>rfl⟩
 have key:=Jy (L:=h.p.length) (F:=QbY N h) (p:=p) (Q:=λ f=>f.Fault≠0) (u:=())
  (λn k o g=>by
   have⟨f,B,v⟩:=g
   rw[QbY,Wd aa,Wb,B,Xa,show(f.Fault != 0)=true by simpa using v]
   exact⟨f,rfl,v⟩)
  (λn k o s=>by
   have⟨q,l,r⟩:=Xfl hN ht ep o
   have H:q.Fault=0:=Classical.byContradiction λz=>s ⟨q,l,z⟩
   rw[QbY,Wd aa,Wb,l,Xa,show(q.Fault != 0)=false by simpa using H,Wa,Xg aa])
  (λn=>by rw[QbY,We aa,Wa]) N 0 aa aa
 omega
def Xfm{f:Ud}(e:f.Fault≠0):((f.Fault==0)&&((f.Page==0)&&(f.Addr==0)))=false:=by simp_all
def Xbf(hN:NB N){h:Wo}(ht:HT h):QfH N h=QbO N h:=by
 have hb:=ht.hb;have r:h.p.length<=100000:=hb.2;rw[QfH,QbO,Qii,Qho,Yd r (by unfold NB at hN;omega)];have⟨b,eb⟩:=ZY (N:=N) hN hb;simp only[eb,Xa];cases b with
 |false=>rfl
 |true=>
 rw[Wi,Wa,Wa];have⟨P,⟨f,D,s,u⟩,e,E,G,e3⟩:=Xma hN ht eb;have⟨y,H,_⟩:=Jz hN hb;have⟨⟨g,eg,v,z⟩,⟨I,A,j,l⟩⟩:=XgG hN ht eb H;simp only[D,E,Xa];by_cases q:P
 .obtain⟨L,rfl,B⟩:=G q;simp only[XD,Xfm (s q),W0,Wb,Xa,Xfm B]
 rw[e3 q,u q];simp only[Xq,eg,A,Xa,zF,show((0:Int)==0)=true from rfl,IS,Wi,Wa];by_cases o:∃a∈y.1,XaD h y.1 a
 .simp only[Xfm (v o),W0,Wb,Xa,show(I.Fault != 0)=true by simpa using j o,Xfm (j o)]
 rw[z o,l o];simp only[zF,show((0:Int)==0)=true from rfl,show((0:Int) != 0)=false from rfl,IS,Wi,Wa];have J:∀(n:Nat)(c i:Int),Qcr N h n c i=QbZ N h n c i:=by
  intro n;induction n with
  |zero=>intro c i;rw[Qcr,QbZ]
  |succ n K=>
   intro c i;rw[Qcr,QbZ];simp only[K];cases M:Xb h.p i with
   |none=>simp only[ZR]
   |some p=>simp only[Xa]
 grind
def Xen(hN:NB N){h:Wo}(ht:HT h){l:List Int}(A:l.length<=1000000):Qeq N h l=QbS N h l:=by
 have g:1000000<N:=by unfold NB at hN;omega
 have hb:=ht.hb;rw[Qeq,QbS,Xbf hN ht];have⟨b,eb,_⟩:=Js hN hb;rw[eb,Xa,Xa];cases b with
 |false=>rfl
 |true=>
 have⟨y,B,O,D,_⟩:=Jz hN hb;rw[Wi,Wa,Wa,KA hN ht,B,Xa,Xa];have r:∀x:Int,Qfe N x y.1=some (x != 0&&!y.1.contains x):=by intro x;obtain⟨k,E⟩:=XiW (N:=N) y.1 x aa g D;rw[Qfe,E,Xa];cases (x != 0)<;>rfl
 rw[Qa3,Qbh];rw[JE (p:=λx:Int=>x != 0&&!y.1.contains x) A g (λn k x e=>by
  have f:=XC e
  rw[Qaz,Xn f,Wb,Xe,e,Xa,r,Xa,Xg aa]) (λn=>by rw[Qaz,XB,Wa])]
 rw[Xa,Xa,Ku]
 have key:=Jy (L:=l.length) (F:=QaM N l y) (p:=λk=>∃f:k<l.length,(l[k] != 0&&!y.1.contains l[k])=true) (Q:=λb=>b=false) (u:=())
  (λn k f o=>by
   obtain⟨G,q⟩:=o
   simp only[W7]at q
   refine⟨false,?_,rfl⟩
   rw[QaM,Wd aa,Wb,Xe,Wc f,Xa,q.1,Wb,Xa,YM _ aa aa,Xa,q.2,Wb])
  (λn k f H=>by
   rw[QaM,Wd aa,Wb,Xe,Wc f,Xa,Xa,YM _ aa aa,Xa,Xg aa]
   grind)
  (λn=>by rw[QaM,We aa,Wa]) N 0 aa aa
 have⟨e,I,J,e3⟩:=key;have s:QaM N l y N 0=some e:=I;rw[s,Xa];cases K:l.any (λx=>x != 0&&!y.1.contains x)with
 |true=>have⟨x,M,q⟩:=List.any_eq_true.1 K;obtain⟨j,z,rfl⟩:=WJ M;obtain⟨b,rfl,v⟩:=J ⟨j,II _,z,z,q⟩;simp[XD,v]
 |false=>simp_all[List.any_eq_false,Xq]
def ZZ(hN:NB N){h:Wo}(ht:HT h){l:List Int}(M:l.length<=10000000 / 4)(eg:QbO N h=some true){y:List Int×Int}(A:QaK N h=some y):QbS N h l=some (l.all λx=>x==0||y.1.contains x):=by
 have hb:=ht.hb;have⟨O,g,R,S,_⟩:=Jz hN hb;rw[A]at g;cases g;have B:l.length<N:=by unfold NB at hN;omega
 have D:1000000<N:=by unfold NB at hN;omega
 rw[QbS,eg,Xa,Wi,Wa,A,Xa]
 have key:=Jy (L:=l.length) (F:=QaM N l y) (p:=λk=>∃q:k<l.length,(l[k]==0||y.1.contains l[k])=false) (Q:=λb=>b=false) (u:=())
  (λn k q o=>by
   obtain⟨E,f⟩:=o
   simp only[Bool.or_eq_false_iff]at f
   refine⟨false,?_,rfl⟩
   rw[QaM,Wd aa,Wb,Xe,Wc q,Xa,show(l[k] != 0)=true by simp_all,Wb,Xa,YM _ aa aa,Xa,f.2];rfl)
  (λn k q G=>by
   rw[QaM,Wd aa,Wb,Xe,Wc q,Xa,Xa,YM _ aa aa,Xa,Xg aa]
   grind)
  (λn=>by rw[QaM,We aa,Wa]) N 0 aa aa
 have⟨e,H,I,e3⟩:=key;have s:QaM N l y N 0=some e:=H;rw[s,Xa];cases v:l.all (λx=>x==0||y.1.contains x)with
 |false=>have⟨x,J,f⟩:=List.all_eq_false.1 v;obtain⟨j,r,rfl⟩:=WJ J;obtain⟨b,rfl,z⟩:=I ⟨j,II _,r,r,by simp_all⟩;rw[XD,z]
 |true=>
  have:=e3 λ⟨j,_,r,K,f⟩=>by rw[W9]at v;rw[v _ (WL r)]at f;cases f
  simp_all[Xq]
end
section
variable {N:Nat}
def XhS(l:List Uz)(r:Int)(f:l.length<=1000000)(hN:1000000<N):QhA N l r=some (JT (λp=>p.a==r) l):=by
 exact JE (p:=λp:Uz=>p.a==r) f hN (λn k x e=>by
  have g:=XC e
  rw[QfO,Xn g,Wb,Xe,e,Xa,Xg aa]) (λn=>by rw[QfO,XB,Wa])
def Xdi(l:List Uz)(r:Int)(f:l.length<=1000000)(hN:1000000<N):QeB N l r=some (JT (λp=>p.a==r) l):=by
 rw[QeB,Qa9];rw[JE (p:=λp:Uz=>p.a==r) f hN (λn k x e=>by
  have g:=XC e
  rw[Qax,Xn g,Wb,Xe,e,Xa,QfZ,Xa,Xg aa]) (λn=>by rw[Qax,XB,Wa]),Xa]
def XaE(hN:NB N){h:Wo}(ht:HT h)(hp:Ut h)(pins:List Uz)(g:pins.length<=1000000)(y:List Int×Int)(G:y.1.length<=4096)(D:y.1.Pairwise (·<·))(l:∀a∈y.1,IQ h a):∀(n k:Nat)(v:List Int),k<=pins.length->pins.length-k<n->v.length=h.p.length ->
 ∃e,Qb0 N h pins y n (k:Int) v=some e/\Qcd N pins h y n (k:Int) v=some (match e with|.ret _=>.ret ([],false)|.nxt v=>.nxt v)/\(∀b,e=.ret b->b=false)/\(∀f,e=.nxt f->f.length=h.p.length/\∀p∈pins.drop k,y.1.contains p.a=true)
 |0,k,v,_,H,_=>by omega
 |n+1,k,v,R,H,I=>by
  have j:1000000<N:=by unfold NB at hN;omega
  rw[Qb0,Qcd];by_cases o:k<pins.length;case neg=>
   rw[We aa,Wa,Wa]
   grind
  have⟨q,eq⟩:=XiW (N:=N) y.1 pins[k].a aa j D;have J:Xb pins (k:Int)=some pins[k]:=by rw[Xe,Wc o]
  simp only[Wd (show(k:Int)<(pins.length:Int) by omega),Wb,J,Xa,YM pins[k].a (show y.1.length<=1000000000 by omega) (show y.1.length<N by omega),eq,XhS pins pins[k].a g j,Xdi pins pins[k].a g j];cases s:y.1.contains pins[k].a with
  |false=>simp
  |true=>
  have u:=l _ (by rw[IV]at s;exact s);have z:=u.tu hp;have⟨K,A,L⟩:=V3 (N:=N) hp u;have O:Qc8 N h.c pins[k].a=some (pgi h.c pins[k].a,pgo h.c pins[k].a,0):=by rw[JP,Wk (by rw[hp.conf];simp),Wp u.rng];rfl
  have⟨c,B⟩:∃c,Xb v (pgi h.c pins[k].a)=some c:=⟨_,X0 A aa⟩
  simp only[Wi,Wa,K,XhP N h.c pins[k].a z.2,O,Xa,B,Xg (show k<=140737488355328 by omega)];have⟨e,S,T,U,E⟩:=XaE hN ht hp pins g y G D l n (k+1) (v.set (pgi h.c pins[k].a).toNat (wI (c+pins[k].M))) aa aa (by rw[WN];exact I);have V:∀f,e=.nxt f->f.length=h.p.length/\∀p∈pins.drop k,y.1.contains p.a=true:=λf r=>⟨(E f r).1,λp hp=>by
   rw[Wu o]at hp
   rcases UY.1 hp with rfl|hp
   .exact s
   .exact(E f r).2 p hp⟩
  grind
def XbI(hN:NB N){h:Wo}(ht:HT h){pins:List Uz}(f:pins.length<=1000000):QgY N h pins=Qbo N h pins:=by
 have q:1000000<N:=by unfold NB at hN;omega
 have hb:=ht.hb;have r:h.p.length<=100000:=hb.2;rw[QgY,Qbo,Xbf hN ht];have⟨b,eb,g⟩:=Js hN hb;rw[eb,Xa,Xa];cases b with
 |false=>rfl
 |true=>
 cases decide ((pins.length:Int)>64)with
 |true=>rfl
 |false=>
 have hp:Ut h:=(g rfl).prop;have⟨y,s,u,z,j,_⟩:=Jz hN hb;rw[Wa,Wa,QgR,KA hN ht,s,Xa,Xa];rw[Xc aa];have⟨e,A,B,e3,e4⟩:=XaE hN ht hp pins f y u z j N 0 (List.replicate (h.p.length:Int).toNat 0) aa aa ab;have l:Qb0 N h pins y N 0 (List.replicate (h.p.length:Int).toNat 0)=some e:=A;have o:Qcd N pins h y N 0 (List.replicate (h.p.length:Int).toNat 0)=_:=B;rw[Xc aa,l,o,Xa,Xa];cases e with
 |ret b=>rw[e3 b rfl,XD,XD,Xa];rfl
 |nxt v=>
  rw[Xq,Xq,Xa];have E:∀(n:Nat)(i:Int),Qfd N h (v,true) n i=Qdm N h v n i:=by
   intro n;induction n with
   |zero=>intro i;rw[Qfd,Qdm]
   |succ n D=>intro i;rw[Qfd,Qdm];simp only[D]
  simp_all
def XaF(hN:NB N){h:Wo}(ht:HT h){pins:List Uz}(j:pins.length<=1000000)(f:Qbo N h pins=some true):QbO N h=some true/\pins.length<=64/\∀y,QaK N h=some y->∀p∈pins,y.1.contains p.a=true:=by
 have hb:=ht.hb;have s:h.p.length<=100000:=hb.2;rw[Qbo]at f;have⟨b,eb,l⟩:=Js hN hb;rw[eb,Xa]at f;cases b with
 |false=>grind
 |true=>
 refine⟨eb,?_,λy r p u=>?_⟩
 .grind
 have hp:Ut h:=(l rfl).prop;have⟨D,g,z,A,o,_⟩:=Jz hN hb;rw[r]at g;cases g;cases hd:decide ((pins.length:Int)>64)with
 |true=>simp_all
 |false=>
 rw[hd,Wa,r,Xa,Xc aa]at f;have⟨e,B,E,e3,e4⟩:=XaE hN ht hp pins j y z A o N 0 (List.replicate (h.p.length:Int).toNat 0) aa (by unfold NB at hN;omega) ab;have q:Qb0 N h pins y N 0 (List.replicate (h.p.length:Int).toNat 0)=some e:=B;rw[q,Xa]at f;cases e with
 |ret b=>rw[e3 b rfl,XD]at f;grind
 |nxt v=>simp_all
def XaG{x:WI}(hp:x.P.length<=1000000):∀(n k:Nat)(v:List Int),k<=x.P.length->x.P.length-k<n->v.length<=10000000+k ->
 Qfr N x n (k:Int) v=some (v++(x.P.drop k).map (·.a))/\Qbm N x n (k:Int) v=some (v++(x.P.drop k).map (·.a))
 |0,k,v,_,f,_=>by omega
 |n+1,k,v,g,f,h=>by
  rw[Qfr,Qbm];by_cases e:k<x.P.length
  .rw[Wd aa,Wb,Wb,Xe,Wc e,Xa,Xa,Xc aa,Xc aa,Xg aa];have⟨a,b⟩:=XaG hp n (k+1) (v++[x.P[k].a]) aa aa (by rw[WO];simp;omega);rw[a,b,Wu e,UF,Us];exact⟨rfl,rfl⟩
  grind
def Jk(x:WI):List Int:=((x.R++(bif YY x.l then X7 x.l.S else[]))++(bif YX x.g.e then XS x.g.e else[]))++x.P.map (·.a)
def Xmb{x:WI}(f:EB x):(Jk x).length<=104160+x.P.length:=by have h:=ZD f.loc;have j:=YA x.g.e;have l:=f.roots;unfold Jk;grind
def XhT(hN:NB N){x:WI}(f:EB x):Qek N x=some (Jk x):=by
 have o:=ZD f.loc;have p:=YA x.g.e;have j:=f.pins;have q:=f.roots;have h:1000000<N:=by unfold NB at hN;omega
 rw[Qek,Xc aa,Zw f.loc h,Xa,Xc aa,Yr f.glo h,Xa,Xc aa];have:=(XaG (N:=N) j N 0 ((x.R++(bif YY x.l then X7 x.l.S else[]))++(bif YX x.g.e then XS x.g.e else[])) aa aa (by grind)).2;rw[show(0:Int)=((0:Nat):Int)from rfl,this,Xa,WY];rfl
def Xdj(hN:NB N){x:WI}(h:EB x):Qhe N x=some (Jk x):=by
 have l:=ZD h.loc;have o:=YA x.g.e;have j:=h.pins;have p:=h.roots;have f:1000000<N:=by unfold NB at hN;omega
 rw[Qhe,XbE h.loc f,Xa,K0 h.glo f,Xa,Qit];have:=(XaG (N:=N) j N 0 [] aa aa ab).1;rw[show(0:Int)=((0:Nat):Int)from rfl,this,Xa,Xa,WY,Uh,Qhd,XbF _ ab (by simp only[XaB,Ug];omega) f,Xa,Xa];unfold Jk;simp
structure ET(x:WI):Prop where
 eb:EB x
 tw:XV x.h
def ET.ht{x:WI}(t:ET x):HT x.h:=⟨t.eb.heap,t.tw⟩
end
section
variable {N:Nat}
def Xmc(l:List Int):(!l.all λp=>!(p==0))=l.contains 0:=by grind
def X9(hN:NB N){x:WI}(ht:ET x):QaJ N x=QbH N x:=by
 have f:1000000<N:=by unfold NB at hN;omega
 have h:=ht.eb;have s:=ZD h.loc;have u:=YA x.g.e;have z:=YA x.v.e;have j:=h.pins;have G:=h.roots;rw[QaJ,QbH,XbI hN ht.ht j];have⟨b,eb,_⟩:=JR hN h.heap j;rw[eb,Xa,Xa];cases b with
 |false=>rfl
 |true=>
 have⟨eg,o,A⟩:=XaF hN ht.ht j eb;simp only[Wi,Wa,Ji h.loc f,ZB h.loc f,JU h.glo f,Zo h.glo f,JU h.wea f,Zo h.wea f,K0 h.glo f,Yr h.glo f,K0 h.wea f,Yr h.wea f,Zw h.loc f,Xa,Xdj hN h];cases el:YY x.l with
 |false=>rfl
 |true=>
 cases p:YX x.g.e with
 |false=>rfl
 |true=>
 cases B:YX x.v.e with
 |false=>rfl
 |true=>
 have D:Jk x=((x.R++X7 x.l.S)++XS x.g.e)++x.P.map (·.a):=by unfold Jk;rw[el,p];rfl
 have q:=Xmb h;rw[el,Wb]at s;rw[p,Wb]at u;rw[B,Wb]at z;simp;rw[Xfh aa f,Xa,Xmc,YM 0 aa aa,Xa];cases (XS x.g.e).contains 0 with
 |true=>rfl
 |false=>
 rw[Wa,Wa,Xc aa,Xc aa,Xc aa,Xc aa];rw[Qhd,XbF _ ab (by simp only[XaB];omega) f,Xa,Xa];have⟨y,r,H,_⟩:=Jz hN h.heap;have E:[Jk x,XS x.v.e].flatten=Jk x++XS x.v.e:=by simp
 rw[E,Xen hN ht.ht (by rw[WO];omega),ZZ hN ht.ht (by rw[WO];omega) eg r,ZZ hN ht.ht ah eg r,Xa,Xa,D];grind
end
section
variable {N:Nat}
def Xdk{t:Wr}(r:TB t)(hN:1000000<N)(i g:Int):Qg1 N t i g=some (YE t.e i g):=by
 have f:=r;rw[Qg1,QfU,JU f hN,Xa,YE];cases s:YX t.e
 .simp[W0,Wb,Xa]
 simp only[Wi,Wa,Xpk,Bool.true_eq_false,if_false];by_cases h:i<0
 .rw[Wp h,Wp (.inl h),Xa];rfl
 rw[Wk h];by_cases j:i>=(t.e.length:Int)
 .rw[Wp j,Wp (.inr (.inl j)),Xa];rfl
 rw[Wk j];by_cases l:g<1
 .rw[Wp l,Wp (.inr (.inr l)),Xa];rfl
 have o:i.toNat<t.e.length:=aa;rw[Wk l,Wk aa,X0 aa aa,Xa,Wc o];simp only[Xa];by_cases p:g>t.e[i.toNat].G
 .simp[Wp,p,Xa]
 rw[Wk p,Wk p];by_cases q:g<t.e[i.toNat].G
 .simp[Wp,q,Xa]
 rw[Wk q,Wk q];cases t.e[i.toNat].V
 .rw[W0,Wb,Xa];rfl
 simp[Wi,Wa,Xa]
def XgH{a:Wm}(e:LBp a)(hN:1000000<N)(i g:Int):QhI N a i g=some (Ze a i g):=by rw[←Vc e hN,QhI,QeZ,Ji e hN,ZB e hN]
def Xrr:Xb [(2:Int),16,32] 0=some 2:=by unfold Xb;rfl
def Xrs:Xb [(2:Int),16,32] 1=some 16:=by unfold Xb;rfl
def Xrt:Xb [(2:Int),16,32] 2=some 32:=by unfold Xb;rfl
def Xj5(hN:1000000<N){v:Int}(f:0<=v)(l:v<=18446744073709551615):Qdz N v [2,16,32]=some (if v / 1125899906842624=0 then([v % 4,v / 4 % 65536,v / 262144 % 4294967296],0)else([],2)):=by
 obtain⟨m,rfl⟩:∃m,N=m+4:=⟨N-4,aa⟩
 have e:([(2:Int),16,32].length:Nat)=3:=rfl;have g:wI (0+1)=1:=Xd aa aa;have h:wI (1+1)=2:=Xd aa aa;have j:wI (2+1)=3:=Xd aa aa;have o:wI (64-2)=62:=Xd aa aa;have p:wI (62-16)=46:=Xd aa aa;have q:wI (46-32)=14:=Xd aa aa;have r:QaD (m+4) v [2,16,32] (m+4) 64 0=some (.nxt ()):=by rw[QaD,e,Xrr];simp only[Xa,g,o];rw[QaD,e,Xrs];simp only[Xa,h,p];rw[QaD,e,Xrt];simp only[Xa,j,q];rw[QaD,e];rfl
 have s:Qa2 (m+4) 2=some 3:=Y1 aa aa aa;have u:Qa2 (m+4) 16=some 65535:=Y1 aa aa aa;have y:Qa2 (m+4) 32=some 4294967295:=Y1 aa aa aa;have z:YC .u64 v 2=v / 4:=YG v 2 aa f;have A:YC .u64 (v / 4) 16=v / 4 / 65536:=YG (v / 4) 16 aa aa;have s3:YC .u64 (v / 4 / 65536) 32=v / 4 / 65536 / 4294967296:=YG (v / 4 / 65536) 32 aa aa;have B:Y2 .u64 v 3=v % 4:=Ys v 2 aa f l;have D:Y2 .u64 (v / 4) 65535=v / 4 % 65536:=Ys (v / 4) 16 aa aa aa;have E:Y2 .u64 (v / 4 / 65536) 4294967295=v / 4 / 65536 % 4294967296:=Ys (v / 4 / 65536) 32 aa aa aa;have G:QaE (m+4) [2,16,32] (m+4) v 0 []=some (v / 4 / 65536 / 4294967296,[v % 4,v / 4 % 65536,v / 4 / 65536 % 4294967296]):=by rw[QaE,e,Xrr];rw[Wd aa,Wb,Xa,s,Xa,Xc ab,Xc aa,z,B,g];rw[QaE,e,Xrs];rw[Wd aa,Wb,Xa,u,Xa,Xc ab,Xc aa,A,D,h];rw[QaE,e,Xrt];rw[Wd aa,Wb,Xa,y,Xa,Xc ab,Xc aa,s3,E,j];rw[QaE,e];rw[We aa,Wa];rfl
 rw[Qdz,r,Xa,Xq,G,Xa];grind
def Xci(hN:1000000<N){v:Int}(j:tU v):QdW N v=some (Yx v):=by
 have⟨l,o⟩:=j;rw[QdW,Yx];by_cases e:v=0
 .subst e;rfl
 rw[Xf e,Wa,Wk e,Xj5 hN l o,Xa];by_cases h:v / 1125899906842624=0
 .have p:Xb [v % 4,v / 4 % 65536,v / 262144 % 4294967296] 0=some (v % 4):=by unfold Xb;rfl
  have g1:Xb [v % 4,v / 4 % 65536,v / 262144 % 4294967296] 1=some (v / 4 % 65536):=by unfold Xb;rfl
  have g2:Xb [v % 4,v / 4 % 65536,v / 262144 % 4294967296] 2=some (v / 262144 % 4294967296):=by unfold Xb;rfl
  rw[Wp h];rw[show((0:Int) != 0)=false from rfl,Wa,p,Xa,g1,Xa,g2,Xa,Xd (n:=v % 4) aa aa,Xd (n:=v / 4 % 65536) aa aa,Xd (n:=v / 262144 % 4294967296) aa aa];have q:v / 262144 % 4294967296=v / 262144:=aa;have r:Qa2 N 16=some 65535:=Y1 aa aa aa;have s:Qa2 N 32=some 4294967295:=Y1 aa aa aa;rw[q,Qfk,We (show¬v / 4 % 65536<0 by omega),We (show¬v % 4>3 by omega),r,Xa,s,Xa];simp only[Wa];rw[XA (n:=v / 4 % 65536) aa aa,XA (n:=v / 262144) aa aa,Wd (show v / 4 % 65536<=65535 by omega),Wd (show v / 262144<=4294967295 by omega),Wb];by_cases f:v % 4<1
  .rw[Wd f,Wb,Xa,W0,Wb,Wk aa]
  rw[We f,Wa];by_cases g:v / 262144<1
  .rw[Wd g,Wb,Xa,W0,Wb,Wk aa]
  rw[We g,Wa,Xa,Wi,Wa,Wp aa]
 grind
def Xmd(v:Int):v≠0->(Yx v).2=0\/(Yx v).2=6:=by unfold Yx;grind
def Xme(hN:NB N){x:WI}(ht:ET x){v:Int}(g:tU v):Qav N x v=QaB N x v:=by
 have e:1000000<N:=by unfold NB at hN;omega
 have f:=ht.eb;rw[Qav,QaB,X9 hN ht];have⟨b,eb,_⟩:=ZE hN f;rw[eb,Xa,Xa];cases b with
 |false=>rfl
 |true=>
 rw[Wi,Wa,Wa,Xci e g,Xa];by_cases h:v=0
 .subst h;rfl
 rw[show(v==0)=false by simp_all,Wa,VG g,Xa];have j:=Xmd v h;rw[show((Yx v).2==5)=false by grind,Wa];simp only[XgH f.loc e,Vc f.loc e,Xdk f.glo e,Ka f.glo e,Xdk f.wea e,Ka f.wea e]
end
section
variable {N:Nat}{a:Wm}{t:Wr}
def V9(a:Wm):QdB N a=some a:=by simp[QdB,Qas,Xa,Qan,QaF]
def XaH(t:Wr):Qe3 N t=some t:=by rw[Qe3,Qao,Xa]
def Xan{α:Type}{p q:α->Bool}:∀{l:List α},(∀x∈l,p x=q x)->l.findIdx? p=l.findIdx? q
 |[],_=>rfl
 |x::l,h=>by rw[IO,IO,h x ab,Xan λy e=>h y (Uj _ e)]
def Xmf{l:List WQ}(f:YX l=true):(l.findIdx? λe=>!(e.V||(e.G==4294967295)))=Xd9 l:=by refine Xan λe g=>?_;have h:=Xa4 f g;grind
def Xmg(l:TB t)(hN:1000000<N)(id:Int):Qg3 N t id=some (YI t id):=by
 have f:=l;rw[Qg3,JU f hN,Xa,YI];cases g:YX t.e
 .rfl
 rw[Wi,Wa,Wk ab,QiC,Xa,Xz];have o:=Jf g;rw[Xmf g];cases p:Xd9 t.e with
 |some k=>
  have⟨j,hp,_⟩:=UH.1 p;have r:=Xa4 g (WL j);have q:t.e.getD k ⟨0,0,false⟩=t.e[k]:=by rw[Wq,Wc j];rfl
  simp only[Option.isSome_some,UZ,Wi,Wa,XaH,Xa,Xz,Xe,Wc j,UT,List.set_set,q];rw[Xd aa aa]
 |none=>
  simp;by_cases h:t.e.length=64
  .rw[Wp h,Wd aa,Wb];rfl
  rw[Wk h,We aa,Wa];simp only[XaH,Xa,Xz];rw[Xc aa,Xe,UW (Uf _),IP];simp only[List.getElem?_cons_zero,Xa,UT,List.set_set];rw[Xd aa aa,Ir _ _ (Uf _),IP];rfl
def Xbg(s:LBp a)(hN:1000000<N)(id:Int):QcJ N a id=some (Yp a id):=by
 have⟨f,g,hl3⟩:=s;rw[QcJ,Ji ⟨f,g,hl3⟩ hN,Xa,Yp];cases u:YY a
 .rfl
 rw[Wi,Wa,Wk ab];have p:=Y6.1 u;by_cases q:id=0
 .subst q;rfl
 rw[Wk q,show(id==0)=false by simp_all,Wa,Xd aa aa];by_cases j:a.x.length=0
 .rw[Wp j,j];rfl
 rw[Wk j,We aa,Wa];have e:=Wc (show a.x.length-1<a.x.length by omega);have v:Jp a=a.x[a.x.length-1]:=by unfold Jp;rw[Wq,e];rfl
 have y:(a.x.length:Int)-1=((a.x.length-1:Nat):Int):=aa;have l:toL a (a.x.length-1)=(a.S.length:Int):=by unfold toL;rw[show a.x.length-1+1=a.x.length by omega,WZ (Uf _)]
 rw[y,XgB ⟨f,g,hl3⟩ hN p.ne e,Xa,Xe,e,Xa,l,UT,←v];by_cases h:(Jp a).C0<=((Ky a.S (Jp a).O.toNat a.S.length:Nat):Int)
 .rw[Wp h,Wd (show((Ky a.S (Jp a).O.toNat a.S.length:Nat):Int)>=_ from h),Wb];rfl
 rw[Wk h,We (show¬((Ky a.S (Jp a).O.toNat a.S.length:Nat):Int)>=_ from h),Wa];have o:=p.iss;by_cases r:a.i.length=4096
 .rw[Wp r,Wd aa,Wb];rfl
 rw[Wk r,We aa,Wa,V9,Xa,Xc aa,Xc aa,Xc aa,Xc aa,Xd aa aa]
def Xj6(h:LBp a)(hN:1000000<N)(c:Int):QhY N a c=some (Jw a c):=by
 have l:=h.1;rw[QhY,Qiv,Ji h hN,Xa,Jw];cases o:YY a
 .rw[W0,Wb,Xa,Wp (.inl rfl)];rfl
 have p:=Y6.1 o;rw[Wi,Wa];by_cases e:c<0
 .rw[Wd e,Wb,Xa,Wp (.inr (.inl e))];rfl
 by_cases f:c>64
 .rw[We e,Wa,Wd f,Wb,Xa,Wp (.inr (.inr f))];rfl
 rw[We e,Wa,We f,Wa,Xz,W0,Wb,Wk (by simp_all)];by_cases g:a.x.length=0
 .rw[Wp g,g];rw[show(((0:Nat):Int)==0)=true from rfl,Wb,Xa];rfl
 rw[Wk g,show((a.x.length:Int)==0)=false by simp_all,Wa];have q:=p.sc;by_cases j:a.x.length=64
 .rw[Wp j,Wd aa,Wb,Xa];rfl
 rw[Wk j,We aa,Wa,V9,Xa,Xc aa,Xc aa,Xa]
def Xmh(j:LBp a)(hN:1000000<N):Qil N a=some (Kt a):=by
 have⟨g,e,hl3⟩:=j;rw[Qil,Ji ⟨g,e,hl3⟩ hN,Xa,Kt];cases l:YY a
 .rfl
 by_cases f:a.x.length=0
 .rw[Wp f,f];rfl
 have ht:=XcV l f;have h:=Xa5 f e;rw[Wk f];have hw:wI ((a.x.length:Int)-1)=(a.x.length:Int)-1:=Xd aa aa;rw[h,Xa,hw,We aa,Wa];cases o:(Jp a).B0
 .rw[Wa,QhZ,V9,Xa,←hw,h,Xa,hw,Xc aa,Xc aa,Xa];rw[show((a.x.length:Int)-1).toNat=a.x.length-1 by omega];rfl
 rfl
def XhU{x y:Int}{k:Nat}(q:k<=63)(f:0<=x)(g:x<2 ^ k)(h:0<=y)(e:x+y*2 ^ k<=18446744073709551615):bOr .u64 x (y*2 ^ k)=x+y*2 ^ k:=by
 obtain⟨m,rfl⟩:=Um f;obtain⟨n,rfl⟩:=Um h;have j:((2:Int) ^ k)=((2 ^ k:Nat):Int):=by simp
 rw[j]at g e⊢;rw[←Oe]at e⊢;have l:m<2 ^ k:=aa;have hb:IntKind.u64.bits=64:=rfl;show IntKind.u64.wrap ((BitVec.ofInt IntKind.u64.bits m |||BitVec.ofInt IntKind.u64.bits ((n*2 ^ k:Nat):Int)).toNat:Int)=_;rw[hb];have o:BitVec.ofInt 64 (m:Int)=BitVec.ofNat 64 m:=by simp
 have p:BitVec.ofInt 64 ((n*2 ^ k:Nat):Int)=BitVec.ofNat 64 (n*2 ^ k):=by rw[I6]
 rw[o,p,BitVec.toNat_or,U6,U6,Ij aa,Ij aa];have e3:m |||n*2 ^ k=m+n*2 ^ k:=by have:=Nat.two_pow_add_eq_or_of_lt l n;rw[Og,Nat.or_comm,←this,Nat.add_comm,Og]
 show wU _=_;rw[XA aa aa];omega
def Xdl(a:Int)(k:Nat)(e:k<=64):ZP .u64 a k=wU (a*2 ^ k):=by have f:IntKind.bits .u64=64:=rfl;show IntKind.wrap .u64 (a*2 ^ min (k:Int).toNat (IntKind.bits .u64))=_;rw[f,UT,Of e];rfl
def XgI{a:Int}{k:Nat}(q:k<=63)(j:0<=a)(g:a<2 ^ k):XaK .u64 a (2 ^ k-1)=0:=by
 obtain⟨n,rfl⟩:=Um j;have hb:IntKind.u64.bits=64:=rfl;have e:(2:Int) ^ k-1=((2 ^ k-1:Nat):Int):=by
  have g:=Nat.one_le_two_pow (n:=k);have f:(2:Int) ^ k=((2 ^ k:Nat):Int):=by simp
  rw[f];omega
 have l:n<2 ^ k:=by
  have f:(2:Int) ^ k=((2 ^ k:Nat):Int):=by simp
  rw[f]at g;omega
 show IntKind.u64.wrap ((BitVec.ofInt IntKind.u64.bits n &&& ~~~ BitVec.ofInt IntKind.u64.bits (2 ^ k-1)).toNat:Int)=_;rw[hb,e];have o:BitVec.ofInt 64 (n:Int)=BitVec.ofNat 64 n:=by simp
 have p:BitVec.ofInt 64 ((2 ^ k-1:Nat):Int)=BitVec.ofNat 64 (2 ^ k-1):=by rw[I6]
 rw[o,p];have e3:BitVec.ofNat 64 n &&& ~~~ BitVec.ofNat 64 (2 ^ k-1)=0#64:=by
  apply BitVec.eq_of_getLsbD_eq;intro i r;rw[BitVec.getLsbD_and,BitVec.getLsbD_not,BitVec.getLsbD_ofNat,BitVec.getLsbD_ofNat,BitVec.getLsbD_zero];by_cases h:i<k
  .simp_all
  rw[Nat.testBit_lt_two_pow (In l (IB aa aa))];simp
 rw[e3];rfl
def Xfn(hN:1000000<N){v:Int}{m:Nat}(e:m<=63)(f:0<=v)(g:v<2 ^ m):Qb8 N v m=some true:=by rw[Qb8,Y1 aa aa aa,Xa,UT,XgI e f g];rfl
def XgJ(hN:1000000<N){t i s:Int}(L:1<=t)(r:t<=3)(M:0<=i)(p:i<=65535)(O:1<=s)(q:s<=4294967295):Qba N ⟨t,i,s⟩=some (t+i*4+s*262144,0)/\Qbd N ⟨t,i,s⟩=some (t+i*4+s*262144,0):=by
 have g2:∀x:Int,ZP .u64 x 2=wU (x*4):=λx=>Xdl x 2 aa;have g18:∀x:Int,ZP .u64 x 18=wU (x*262144):=λx=>Xdl x 18 aa;have u:∀x:Int,ZP .u64 x 0=wU (x*1):=λx=>Xdl x 0 aa;have g:=XA (n:=t) aa aa;have h:=XA (n:=i) aa aa;have j:=XA (n:=s) aa aa;have e:=XA (n:=i*4) aa aa;have f:=XA (n:=s*262144) aa aa;constructor
 .have l:Qa2 N 16=some 65535:=Y1 (a:=16) aa aa aa;have o:Qa2 N 32=some 4294967295:=Y1 (a:=32) aa aa aa;have v:Qfk N ⟨t,i,s⟩=some true:=by rw[Qfk,l,o];simp only[Xa,h,j];rw[We aa,We aa,We aa,We aa,Wd p,Wd q];rfl
  obtain⟨n,rfl⟩:∃n,N=n+4:=⟨N-4,aa⟩
  have z:Qbf (n+4) [UB.mk 2 t,UB.mk 16 i,UB.mk 32 s] (n+4) 64 0=some (.nxt ()):=ac;have A:Qb8 (n+4) t 2=some true:=Xfn (m:=2) hN aa aa aa;have B:Qb8 (n+4) i 16=some true:=Xfn (m:=16) hN aa aa aa;have D:Qb8 (n+4) s 32=some true:=Xfn (m:=32) hN aa aa aa;have E:bOr .u64 0 (wU (t*1))=t:=by rw[Int.mul_one,g];have:=XhU (x:=0) (y:=t) (k:=0) aa aa aa aa aa;simpa using this
  have b2:bOr .u64 t (i*4)=t+i*4:=XhU (k:=2) aa aa aa aa aa;have G:bOr .u64 (t+i*4) (s*262144)=t+i*4+s*262144:=XhU (k:=18) aa aa aa aa aa;have H:QaO (n+4) [UB.mk 2 t,UB.mk 16 i,UB.mk 32 s] (n+4) 0 0 0=some (.nxt (t+i*4+s*262144)):=by have I:Xb [UB.mk 2 t,UB.mk 16 i,UB.mk 32 s] 0=some (UB.mk 2 t):=Xe _ 0;have J:Xb [UB.mk 2 t,UB.mk 16 i,UB.mk 32 s] 1=some (UB.mk 16 i):=Xe _ 1;have K:Xb [UB.mk 2 t,UB.mk 16 i,UB.mk 32 s] 2=some (UB.mk 32 s):=Xe _ 2;rw[QaO,Wd ab,Wb,I,Xa,A,Xa,Wi,Wa,Xc aa,u,E,show wI (0+2)=2 from rfl,show wI (0+1)=1 from rfl];rw[QaO,Wd ab,Wb,J,Xa,B,Xa,Wi,Wa,Xc aa,g2,e,b2,show wI (2+16)=18 from rfl,show wI (1+1)=2 from rfl];rw[QaO,Wd ab,Wb,K,Xa,D,Xa,Wi,Wa,Xc aa,g18,f,G,show wI (18+32)=50 from rfl,show wI (2+1)=3 from rfl];rw[QaO,We ab,Wa]
  simp[Qba,v,Xa,Wi,Wa,g,h,j,QfI,z,Xq,H]
 rw[Qbd,Qhq];simp only[g,h,j,g2,g18,e,f];rw[Wd (show t>=1 by omega),Wd r,Wd (show i>=0 by omega),Wd p,Wd (show s>=1 by omega),Wd q];simp only[Wb,Xa,Wi,Wa];rw[XA (n:=t+i*4) aa aa,XA aa aa]
def Xj7{l:Wm}{id:Int}(h:(Yp l id).2.2.2=0):YY l=true/\0<=(Yp l id).2.1/\(Yp l id).2.1<=65535/\1<=(Yp l id).2.2.1/\(Yp l id).2.2.1<=4294967295:=by
 unfold Yp at h⊢;cases e:YY l
 .rw[e,Wp rfl]at h;cases h
 have f:=Y6.1 e;have g:=f.slots;have j:=f.iss;grind
def Xj8{t:Wr}{id:Int}(h:(YI t id).2.2.2=0):0<=(YI t id).2.1/\(YI t id).2.1<=65535/\1<=(YI t id).2.2.1/\(YI t id).2.2.1<=4294967295:=by
 unfold YI at h⊢;cases f:YX t.e
 .simp_all
 have g:=Jf f;cases j:Xd9 t.e with
 |some k=>have⟨l,hp,_⟩:=UH.1 j;have o:=Xa4 f (WL l);grind
 |none=>grind
def Xmi{l:Wm}(f:LBp l)(hN:1000000<N)(i g:Int):Qg2 N l i g=some (Xaz l i g):=by
 rw[Qg2,XgH f hN,Xa,Xaz];by_cases h:(Ze l i g).2=0
 .have⟨_,e,p,hp,o,_,_⟩:=V0 h;have j:=XC hp;rw[h,show((0:Int) != 0)=false from rfl,Wa,Wk ab,V9,Xa,X0 e aa,Xa,X0 e (by rw[WN];omega),Xa];simp_all
 rw[show((Ze l i g).2 != 0)=true by simp_all,Wb,Wp h];rfl
def XgK{t:Wr}(l:TB t)(hN:1000000<N)(i g:Int):Qgb N t i g=some (JB t i g):=by
 have o:∃x,QfU N t i g=some x/\x=(YE t.e i g).2:=by
  refine⟨_,?_,rfl⟩;have:=Xdk l hN i g;rw[Qg1]at this;cases e:QfU N t i g with
  |none=>simp_all[e,ZR]
  |some x=>
   rw[e,Xa]at this;by_cases q:x=0
   .subst q;cases f:Xb t.e i with
    |none=>rw[f,ZR]at this;cases this
    |some p=>rw[f,Xa]at this;rw[←WE this]
   grind
 obtain⟨x,e,rfl⟩:=o;rw[Qgb,e,Xa,JB];by_cases h:(YE t.e i g).2=0
 .have⟨_,j,p,hp,s,_,_⟩:=V1 h;have r:=XC hp;rw[h,show((0:Int) != 0)=false from rfl,Wa,Wk ab,XaH,Xa,X0 j aa,Xa,X0 j (by rw[WN];omega),Xa];simp_all
 rw[show((YE t.e i g).2 != 0)=true by simp_all,Wb,Wp h];rfl
end
section
variable {N:Nat}
def XiX(N:Nat)(c:WV):Qiu N c=some (Jd c):=by exact XcM N c
def XbJ(N:Nat)(ps:List Wv):Qhf N ps=QcS N ps:=by
 have h:∀(n:Nat)(c i:Int),QdV N ps n c i=QbF N ps n c i:=by
  intro n;induction n with
  |zero=>simp[QdV,QbF]
  |succ n e=>simp[QdV,QbF,e]
 rw[Qhf,QcS,h]
def XgL(N:Nat)(e:List Wv)(j:e.length<=100000):∀(n k:Nat)(v:List Oj),k<=e.length->v.length<=k->QcX N e n (k:Int) v=Qby N e n (k:Int) v
 |0,k,v,_,_=>by rfl
 |n+1,k,v,o,p=>by
  rw[QcX,Qby];by_cases f:k<e.length;case neg=>grind
  rw[Wd (show(k:Int)<(e.length:Int) by omega),Wb,Wb,Xe,Wc f,Xa,Xa,Xc aa,Xg aa];have g:∀v':List Oj,v'.length<=k+1->QcX N e n ((k+1:Nat):Int) v'=Qby N e n ((k+1:Nat):Int) v':=λv' h=>XgL N e j n (k+1) v' aa h;rw[g v aa,g (v++[Oj.mk (k:Int) 1]) (by simp_all)];have l:∀(i:Nat)(x:Oj),QcX N e n ((k+1:Nat):Int) (v.set i x)=Qby N e n ((k+1:Nat):Int) (v.set i x):=λi x=>g _ (by grind);simp only[l];cases (e[k].k != 0)with
  |true=>rfl
  |false=>
   rw[Wa,Wa,Xc (show v.length<=140737488355328 by omega)];rw[show decide (wI ((v.length:Int)-1)>=0)=decide ((v.length:Int)>0) by
    rw[Xd aa aa];grind]
def XbK(hN:1000000<N){ps:List Wv}(g:ps.length<=100000)(k:Int):Qei N ps k=Qbp N ps k:=by
 have h:Qik N ps=Qg9 N ps:=by rw[Qik,Qg9,show(0:Int)=((0:Nat):Int)from rfl,XgL N ps g N 0 [] aa ab]
 rw[Qei,Qbp,h];have⟨rs,ers,l,_⟩:=Xis (N:=N) (ps:=ps) aa aa;rw[ers,Xa,Xa];by_cases o:k<1
 .rw[Wd o,Wb];have:∀(n j:Nat),j<=rs.length->rs.length-j<n->QbE N k rs n (j:Int)=some (.nxt ()):=by
   intro n;induction n with
   |zero=>omega
   |succ n e=>
    intro j r s;rw[QbE];by_cases q:j<rs.length
    .rw[Wd aa,Wb,XT (show¬k>=1 by omega),Wa,Xg aa];exact e (j+1) aa aa
    grind
  have f:=this N 0 aa aa;rw[show((0:Nat):Int)=0 from rfl]at f;rw[f,Xa,Xq]
 have:∀(n:Nat)(j:Int),QeE N k rs n j=QbE N k rs n j:=by
  intro n;induction n with
  |zero=>intro j;rw[QeE,QbE]
  |succ n e=>
   intro j;rw[QeE,QbE,Wd (show k>=1 by omega),Wb];simp only[e];cases Xb rs j with
   |none=>simp only[ZR]
   |some p=>simp only[Xa]
 grind
def Jl(hN:1000000<N)(c:WV)(d:WC):QeT N c d=Qck N c d:=by
 rw[QeT,Qck,Jj aa,Zl,YS aa,X6];simp only[Xa,VH,ZN (show 10<=N by omega)];have e:=Jr c (XM d);rw[show decide (XF c (XM d)>=0)=(XF c (XM d) != -1) by
  grind]
end
section
variable {N:Nat}
def VM(p:Wv):Bool:=p.k != 0
def Xdm(N:Nat)(e:List Wv)(g:e.length<=1000000):∀(n c k:Nat),k<=e.length->c<=k->e.length-k<n->QbF N e n (c:Int) (k:Int)=some (((c+(e.drop k).countP VM:Nat):Int))
 |0,c,k,_,_,h=>by omega
 |n+1,c,k,j,l,o=>by
  rw[QbF];by_cases f:k<e.length
  .rw[Wd aa,Wb,Xe,Wc f,Xa,Xg aa,Xg aa,Wu f,List.countP_cons];cases hb:(e[k].k != 0)with
   |true=>rw[Wb,Xdm N e g n (c+1) (k+1) aa aa aa,Wp (show VM e[k]=true from hb)];congr 1;omega
   |false=>rw[Wa,Xdm N e g n c (k+1) aa aa aa,Wk (show¬VM e[k]=true by unfold VM;rw[hb];simp)];rfl
  grind
def Xmj(hN:1000000<N){e:List Wv}(f:e.length<=100000):QcS N e=some ((e.countP VM:Nat):Int):=by rw[QcS,show(0:Int)=((0:Nat):Int)from rfl,Xdm N e aa N 0 0 aa aa aa,Xa,WY,UC]
def Kc(e l:List Wv)(i:Nat):List Wv:=(e.take i++l)++e.drop (i+l.length)
def Xbh{e l:List Wv}{i:Nat}(h:i+l.length<=e.length):(Kc e l i).length=e.length:=by unfold Kc;grind
def Xfo(l:Nat)(i k:Nat)(f r:Wv)(e:List Wv)(g:e.length<=100000)(j:i+k<=e.length):∀(n m:Nat),m<=k->k-m<n ->
 Qex N (i:Int) (k:Int) f r n (m:Int) (Kc e (List.replicate m r) i)=some (if((e.drop (i+m)).take (k-m)).any VM=true then .ret ([],20)else .nxt (Kc e (List.replicate k r) i))
 |0,m,_,h=>by omega
 |n+1,m,s,u=>by
  rw[Qex];by_cases o:m<k;case neg=>
   obtain rfl:m=k:=aa
   simp
  have p:(Kc e (List.replicate m r) i)[i+m]? = some (e[i+m]'aa):=by unfold Kc;rw[UW (by grind),UL];simp only[WO,Wj,WT];rw[show i+m+(i+m-(min i e.length+m))=i+m by omega];exact Wc aa
  have q:(Kc e (List.replicate m r) i).set (i+m) r=Kc e (List.replicate (m+1) r) i:=by unfold Kc;rw[Ir _ _ (by grind)];simp only[WO,Wj,WT];rw[show i+m-(min i e.length+m)=0 by omega,Wu (show i+m<e.length by omega),Im,List.replicate_succ',←UF (e.take i),UF (e.take i++List.replicate m r)];rfl
  have hw:wI ((i:Int)+(m:Int))=((i+m:Nat):Int):=by rw[Xd aa aa];omega
  rw[Wd aa,Wb,hw,Xe,p,Xa,Xa,Xg aa,show(((i+m:Nat):Int)).toNat=i+m from rfl,q];have hd:(e.drop (i+m)).take (k-m)=e[i+m]'aa::(e.drop (i+(m+1))).take (k-(m+1)):=by rw[Wu (show i+m<e.length by omega),show k-m=(k-(m+1))+1 by omega,List.take_succ_cons];rfl
  rw[hd,List.any_cons];cases hb:((e[i+m]'aa).k != 0)with
  |true=>rw[Wb,show VM (e[i+m]'aa)=true from hb,Bool.true_or,Wp rfl]
  |false=>rw[Wa,show VM (e[i+m]'aa)=false from hb,Ie];exact Xfo l i k f r e g j n (m+1) aa aa
def Xj9{α:Type}(p:α->Bool)(l:List α):decide (((l.countP p:Nat):Int)>0)=l.any p:=by
 cases h:l.any p with
 |true=>simp_all
 |false=>simp_all
def XgM(hN:1000000<N){ps:List Wv}(h:ps.length<=100000)(i:Int)(f r:Wv)(k:Nat)(s:1<=k)(p:k<=1000):QhH N ps i (f::List.replicate (k-1) r)=QdD N ps i (k:Int) f r:=by
 have e:(f::List.replicate (k-1) r).length=k:=by simp;omega
 rw[QhH,QdD,e];by_cases u:i<0
 .simp_all
 obtain⟨j,rfl⟩:∃j:Nat,i=(j:Int):=⟨i.toNat,aa⟩
 by_cases g:j+k<=ps.length;case neg=>
  by_cases o:(j:Int)>=(ps.length:Int)
  .rw[Wd o,Wb,Xd (n:=(ps.length:Int)-(k:Int)) aa aa,Wd (show(j:Int)>(ps.length:Int)-(k:Int) by omega),Wb]
  .rw[XT o,Wa,Xd (n:=(ps.length:Int)-(k:Int)) aa aa,Xd (n:=(ps.length:Int)-(j:Int)) aa aa,Wd (show(j:Int)>(ps.length:Int)-(k:Int) by omega),Wb,Wd (show(k:Int)>(ps.length:Int)-(j:Int) by omega),Wb]
 rw[Xd (n:=(ps.length:Int)-(k:Int)) aa aa,Xd (n:=(ps.length:Int)-(j:Int)) aa aa,XT (show¬(j:Int)>(ps.length:Int)-(k:Int) by omega),Wa,XT (show¬(j:Int)>=(ps.length:Int) by omega),Wa,XT (show¬(k:Int)>(ps.length:Int)-(j:Int) by omega),Wa];have hw:wI ((j:Int)+(k:Int))=((j+k:Nat):Int):=by rw[Xd aa aa];omega
 rw[hw,Xc aa,Xc aa,show(((j+k:Nat):Int)).toNat=j+k from rfl,show(j:Int).toNat=j from rfl,show j+k-j=k by omega,XbJ,Xmj hN (by grind),Xa,Xj9];have ht:=Xfo (N:=N) 0 j k f r ps h g N 0 aa aa;have l:Kc ps (List.replicate 0 r) j=ps:=by unfold Kc;simp
 rw[l,IM,Nat.sub_zero,show((0:Nat):Int)=0 from rfl]at ht;rw[ht,Xa];cases ((ps.drop j).take k).any VM with
 |true=>rw[Wb,Wp rfl,XD]
 |false=>
  rw[Wa,Wk ab,Xq,Qaa,Xa,Xc aa,Xc aa];have q:(Kc ps (List.replicate k r) j).length=ps.length:=Xbh (by simp_all);rw[Xe,Wc aa,Xa];unfold Kc;obtain⟨m,rfl⟩:∃m,k=m+1:=⟨k-1,aa⟩
  rw[WT,Iq,List.replicate_succ,List.set_append_left _ _ (by grind),Ir _ _ (by grind)];simp only[Wj];rw[show j-min j ps.length=0 by omega,Im]
end
section
variable {N:Nat}
def Xeo{α:Type}(sp:Int)(x y:α):(bif (!decide (sp=0\/sp=1))then x else y)=(bif (decide (sp<0))then x else bif (decide (sp>1))then x else y):=by grind
def Xep(hN:1000000<N){e:List Wv}(f:e.length<=100000)(i sp:Int):Qeh N e i sp=QbJ N e i sp:=by rw[Qeh,QbJ,ZX,Xa,Xeo];have:=XgM hN f i (Wv.mk 1 sp 0 0) (Wv.mk 0 0 0 0) 1 aa aa;simp_all
def Xeq(N:Nat)(e:List Wv)(i sp y:Int)(k:Nat)(g:y=(k:Int))(j:k<=1000)(f:Wv):∀(n m:Nat),m<=k-1->1<=k->k-m<n->Qft N e i sp y n (f::List.replicate m (Wv.mk 3 sp 0 0))=some (f::List.replicate (k-1) (Wv.mk 3 sp 0 0))
 |0,m,_,_,h=>by omega
 |n+1,m,q,l,r=>by
  have o:(f::List.replicate m (Wv.mk 3 sp 0 0)).length=m+1:=by simp
  rw[Qft,o,Xc aa];by_cases p:m+1<k
  .rw[Wd aa,Wb,Xc aa,IG,←List.replicate_succ'];exact Xeq N e i sp y k g j f n (m+1) aa l aa
  grind
def Xka(hN:1000000<N){e:List Wv}(f:e.length<=100000)(c:WV)(i sp w:Int):QhW N c e i sp w=Qee N c e i sp w:=by
 rw[QhW,Qee,VH,ZN aa,Xa,Xa];by_cases h:XF c w<1
 .simp_all
 have l:=Jr c w;have⟨k,g⟩:∃k:Nat,XF c w=(k:Int):=⟨(XF c w).toNat,aa⟩
 rw[XT h,Wa,Wa,ZX,Xa,Xeo];have j:=Xeq N e i sp (XF c w) k g aa (Wv.mk 2 sp w 0) N 0 aa aa aa;rw[show [(Wv.mk 2 sp w 0)]=Wv.mk 2 sp w 0::List.replicate 0 (Wv.mk 3 sp 0 0)from rfl,j,Xa,XgM hN f i _ _ k aa aa,g]
def XhV{v:Int}{k:Nat}(s:k<=63)(h:0<=v)(g:v<2 ^ k):XaK .u64 v (2 ^ k-1)=0:=by
 obtain⟨n,rfl⟩:=Um h;have j:n<2 ^ k:=by
  have e:(2:Int) ^ k=((2 ^ k:Nat):Int):=by simp
  rw[e]at g;omega
 have hb:IntKind.u64.bits=64:=rfl;show IntKind.u64.wrap ((BitVec.ofInt IntKind.u64.bits n &&& ~~~ BitVec.ofInt IntKind.u64.bits (2 ^ k-1)).toNat:Int)=_;rw[hb];have f:(2:Int) ^ k-1=((2 ^ k-1:Nat):Int):=by
  have g:=Nat.one_le_two_pow (n:=k);have e:(2:Int) ^ k=((2 ^ k:Nat):Int):=by simp
  rw[e];omega
 have l:BitVec.ofInt 64 (n:Int)=BitVec.ofNat 64 n:=by simp
 have o:BitVec.ofInt 64 ((2 ^ k-1:Nat):Int)=BitVec.ofNat 64 (2 ^ k-1):=by simp
 rw[f,l,o];have p:BitVec.ofNat 64 n &&& ~~~ BitVec.ofNat 64 (2 ^ k-1)=0#64:=by
  apply BitVec.eq_of_getLsbD_eq;intro i q;simp only[BitVec.getLsbD_and,BitVec.getLsbD_not,BitVec.getLsbD_ofNat,q,decide_true,W5,BitVec.getLsbD_zero];by_cases r:i<k
  .simp_all
  rw[Nat.testBit_lt_two_pow (In j (IB aa aa))];simp
 rw[p];rfl
def Xcj{a b:Int}{s:Nat}(p:s<=63)(f:0<=a)(h:a<2 ^ s)(g:0<=b)(hb:b*2 ^ s+a<=18446744073709551615):bOr .u64 a (b*2 ^ s)=a+b*2 ^ s:=by
 obtain⟨n,rfl⟩:=Um f;obtain⟨m,rfl⟩:=Um g;have j:(2:Int) ^ s=((2 ^ s:Nat):Int):=by simp
 rw[j]at h hb⊢;have q:(m:Int)*((2 ^ s:Nat):Int)=((m*2 ^ s:Nat):Int):=by simp
 have e:IntKind.u64.bits=64:=rfl;show IntKind.u64.wrap ((BitVec.ofInt IntKind.u64.bits n |||BitVec.ofInt IntKind.u64.bits ((m*2 ^ s:Nat):Int)).toNat:Int)=_;rw[e];have l:BitVec.ofInt 64 (n:Int)=BitVec.ofNat 64 n:=by simp
 have o:BitVec.ofInt 64 ((m*2 ^ s:Nat):Int)=BitVec.ofNat 64 (m*2 ^ s):=by rw[I6]
 rw[l,o,BitVec.toNat_or,U6,U6,Ij (show n<2 ^ 64 by omega),Ij (show m*2 ^ s<2 ^ 64 by omega)];have:=Nat.shiftLeft_add_eq_or_of_lt (show n<2 ^ s by omega) m;rw[Nat.shiftLeft_eq]at this;rw[Nat.or_comm,←this];show wU _=_;rw[XA aa aa];omega
end
section
variable {N:Nat}
def XbL(hN:1000<N){w v:Int}(f:0<=w)(h:w<=63)(g:0<=v)(e:v<2 ^ w.toNat):Qb8 N v w=some true:=by rw[Qb8,Y1 f aa hN,Xa,XhV aa g e];rfl
def Xmk(hN:1000000<N){k l m:Int}(k0:0<=k)(k1:k<4)(g:0<=l)(V:l<4096)(h:0<=m)(W:m<4294967296):
 QfI N [(UB.mk 2 1),(UB.mk 2 k),(UB.mk 12 l),(UB.mk 32 m)]=some (1+k*4+l*16+m*65536,0):=by
 obtain⟨n,rfl⟩:∃n,N=n+5:=⟨N-5,aa⟩
 generalize f:[(UB.mk 2 1),(UB.mk 2 k),(UB.mk 12 l),(UB.mk 32 m)]=L;have e:L.length=4:=by rw[←f];rfl
 have j:Xb L 0=some (UB.mk 2 1):=by rw[←f];unfold Xb;rfl
 have g1:Xb L 1=some (UB.mk 2 k):=by rw[←f];unfold Xb;rfl
 have g2:Xb L 2=some (UB.mk 12 l):=by rw[←f];unfold Xb;rfl
 have g3:Xb L 3=some (UB.mk 32 m):=by rw[←f];unfold Xb;rfl
 have o:wI (0+1)=1:=Xd aa aa;have p:wI (1+1)=2:=Xd aa aa;have q:wI (2+1)=3:=Xd aa aa;have r:wI (3+1)=4:=Xd aa aa;have s:wI (64-2)=62:=Xd aa aa;have u:wI (62-2)=60:=Xd aa aa;have v:wI (60-12)=48:=Xd aa aa;have y:wI (48-32)=16:=Xd aa aa;have k2:wI (0+2)=2:=Xd aa aa;have z:wI (2+2)=4:=Xd aa aa;have A:wI (4+12)=16:=Xd aa aa;have B:wI (16+32)=48:=Xd aa aa;have D:Qbf (n+5) L (n+5) 64 0=some (.nxt ()):=by rw[Qbf,e,j];simp only[Xa,o,s];rw[Qbf,e,g1];simp only[Xa,p,u];rw[Qbf,e,g2];simp only[Xa,q,v];rw[Qbf,e,g3];simp only[Xa,r,y];rw[Qbf,e];rfl
 have E:Qb8 (n+5) 1 2=some true:=XbL aa aa aa aa ae;have G:Qb8 (n+5) k 2=some true:=XbL aa aa aa k0 (by show k<4;omega);have H:Qb8 (n+5) l 12=some true:=XbL aa aa aa g (by show l<4096;omega);have I:Qb8 (n+5) m 32=some true:=XbL aa aa aa h (by show m<4294967296;omega);have J:ZP .u64 1 0=1:=by decide +kernel
 have K:ZP .u64 k 2=k*2 ^ 2:=by show wU (k*4)=k*4;exact XA aa aa
 have M:ZP .u64 l 4=l*2 ^ 4:=by show wU (l*16)=l*16;exact XA aa aa
 have s3:ZP .u64 m 16=m*2 ^ 16:=by show wU (m*65536)=m*65536;exact XA aa aa
 have O:bOr .u64 0 1=1:=by decide +kernel
 have R:bOr .u64 1 (k*2 ^ 2)=1+k*2 ^ 2:=Xcj aa aa ae k0 aa;have S:bOr .u64 (1+k*2 ^ 2) (l*2 ^ 4)=1+k*2 ^ 2+l*2 ^ 4:=Xcj aa aa aa g aa;have T:bOr .u64 (1+k*2 ^ 2+l*2 ^ 4) (m*2 ^ 16)=1+k*2 ^ 2+l*2 ^ 4+m*2 ^ 16:=Xcj aa aa aa h aa;have U:QaO (n+5) L (n+5) 0 0 0=some (.nxt (1+k*2 ^ 2+l*2 ^ 4+m*2 ^ 16)):=by rw[QaO,e,j];simp only[Xa,E,o,k2,J,O];rw[Wd aa,Wb,Wi,Wa,Xc aa];rw[QaO,e,g1];simp only[Xa,G,p,z,K,R];rw[Wd aa,Wb,Wi,Wa,Xc aa];rw[QaO,e,g2];simp only[Xa,H,q,A,M,S];rw[Wd aa,Wb,Wi,Wa,Xc aa];rw[QaO,e,g3];simp only[Xa,I,r,B,s3,T];rw[Wd aa,Wb,Wi,Wa,Xc aa];rw[QaO,e];rw[We aa,Wa]
 simp[QfI,D,Xa,Xq,U]
def XhW{d:WC}(e:tW d.Map)(h:XL d=true):0<=d.Map/\d.Map<4294967296:=by have⟨a,b⟩:=e;omega
def XoC(hN:1000000<N){d:WC}(f:tW d.Map):QgC N d=QcM N d:=by
 rw[QgC,Jj aa,Jq,Xa];cases e:XL d with
 |false=>rfl
 |true=>have hb:=XY e;have g:=XhW f e;rw[Wi,Wa,Wp rfl,XA (n:=d.k) aa aa,XA (n:=d.n) aa aa,XA (n:=d.Map) aa aa,Xmk hN aa aa aa aa aa aa,Xa];congr 2;unfold Xaw;have s:∀x:Int,ZP .u64 x 16=wU (x*65536):=λ_=>rfl;simp only[s,XcI];omega
def Xer(hN:NB N){ws l:List Int}(hw:ws.length<=100000)(h:l.length<=1000){a:Int}(g:a<=18446744073709551615):QgM N ws a l=Qci N ws a l:=by
 rw[QgM,XbG aa g,Z8 (by unfold BIG;omega) (by unfold BIG;omega) (by unfold NB at hN;omega),Xb8 (by unfold BIG;omega) N a _ aa,Xa];by_cases e:4096<=a/\a<=4096+(ws.length:Int);case neg=>
  rw[Wk e,Wk (by unfold Yt;omega)];rfl
 rw[Wp e];by_cases f:a+(l.length:Int)<=4096+(ws.length:Int);case neg=>rw[We f,W0,Wb,Wk (by unfold Yt;omega)]
 rw[Wd f,Wi,Wa,Wp (by unfold Yt;omega),Qab,Xa,Xc aa,Xc aa];rfl
def XsP{n:Nat}(e:Int):(List.replicate (n+1) (0:Int)).set 0 e=[e]++List.replicate n (0:Int):=by rfl
def Xdn(hN:NB N){h:Wo}(hb:HB h){a:Int}(j:a<=18446744073709551615){d:WC}(l:tW d.Map):QfR N h a d=Qcb N h a d:=by
 have e:1000000<N:=by unfold NB at hN;omega
 rw[QfR,Qcb,XoC e l,Jq,Xa,Xa,Yd hb.2 e];have⟨b,eb⟩:=ZY (N:=N) hN hb;cases g:XL d with
 |false=>rw[Wk ab,eb,Xa,Xa];simp
 |true=>
  have o:=XY g;rw[Wp rfl,eb,Xa,Xa];cases b with
  |false=>rfl
  |true=>
  have p:XM d=d.n+1:=by unfold XM;rw[Wp g]
  have⟨n,s⟩:∃n:Nat,d.n=(n:Int):=⟨d.n.toNat,aa⟩
  have ht:(d.n+1).toNat=n+1:=aa;have f:d.n.toNat=n:=aa;rw[Wi,Wa,Wa,YS aa,Xa,p,Xc aa,ht,f,Xc aa,Xc aa];have q:Xb (List.replicate (n+1) (0:Int)) 0=some 0:=by unfold Xb;simp
  rw[q,Xa,XsP,Xer hN hb.1 (by grind) j];have⟨w,r⟩:∃w,Qci N h.w a ([Xaw d]++List.replicate n (0:Int))=some w:=⟨_,Z8 (by unfold BIG;have:=hb.1;omega) (by unfold BIG;grind) (by grind) a⟩
  rw[r,Xa,Xa,Qe8];cases (w.2 != 0)with
  |true=>simp[Wb,Xa]
  |false=>simp[Wa,Qaa,Xa]
end
section
variable {N:Nat}
def XoD{α:Type}(q:α->Bool)(l:List α)(j:Nat)(x:α)(h:∀y,l[j]? = some y->q y=q x):(l.set j x).all q=l.all q:=by
 by_cases e:j<l.length
 .have f:l=l.take j++l[j]::l.drop (j+1):=by rw[List.getElem_cons_drop,List.take_append_drop]
  grind
 rw[List.set_eq_of_length_le aa]
def XdK{α:Type}(l:List α)(i k j:Nat)(x:α):((l.set j x).drop i).take k=if i<=j then((l.drop i).take k).set (j-i) x else(l.drop i).take k:=by
 by_cases h:i<=j
 .rw[Wp h,List.drop_set,Wk aa,List.take_set]
 rw[Wk h,List.drop_set,Wp aa]
def Xml{c:WV}{f:List Wv}{j:Nat}(l:j<f.length){x:Wv}(o:∀sp,Yc sp x=Yc sp f[j])(q:Yb c f j x=Yb c f j f[j])(i:Nat)(r:i<f.length):
 Yb c (f.set j x) i ((f.set j x)[i]'(by simp_all))=Yb c f i f[i]:=by
 have g:∀sp k,(((f.set j x).drop (i+1)).take k).all (Yc sp)=((f.drop (i+1)).take k).all (Yc sp):=by
  intro sp k;rw[XdK];split
  .refine XoD _ _ _ _ λy h=>?_;rw[Ul]at h;split at h
   .rw[UL,show i+1+(j-(i+1))=j by omega,Wc l]at h;cases h;exact(o sp).symm
   cases h
  rfl
 have e:∀p,Yb c (f.set j x) i p=Yb c f i p:=by intro p;unfold Yb;simp only[WN,g]
 grind
def Xb1{h:Wo}(l:h.p.length<=100000)(hN:1000000<N)(e:List Wv)(f:e.length=h.p.length)(j:∀i(o:i<h.p.length),Yb h.c e i (e[i]'aa)=Yb h.c h.p i h.p[i])(ws:List Int)(b:Int):∀(n i:Nat),i<=h.p.length->Qaf N ⟨h.c,ws,e,h.s,b⟩ n (i:Int)=Qaf N h n (i:Int)
 |0,i,_=>by rfl
 |n+1,i,o=>by
  rw[Qaf,Qaf];dsimp only;rw[f];by_cases g:i<h.p.length;case neg=>grind
  rw[Wd (show(i:Int)<_ by omega),Wb,Wb,Kz aa hN aa,Kz l hN g,j i g,Xa,Xa];have q:=Xdb (c:=h.c) g (p:=h.p[i]);generalize Yb h.c h.p i h.p[i]=s at *;by_cases r:s=0
  .simp_all
  rw[show((s:Int)==0)=false by simp_all,Wa,Wa,Xd aa aa,show(i:Int)+(s:Int)=((i+s:Nat):Int) by omega];exact Xb1 l hN e f j ws b n (i+s) aa
structure OS(h:Wo):Prop where
 conf:Yk h.c=true
 words:(h.w.length:Int)=h.c.p*h.c.W
 pages:(h.p.length:Int)=h.c.p
 space:0<=h.s/\h.s<=1
 bump:h.b = -1\/(0<=h.b/\h.b<h.p.length/\(pg h.p h.b).k=1)
def Ut.pre{h:Wo}(hp:Ut h):OS h:=⟨hp.conf,hp.words,hp.pages,hp.space,hp.bump⟩
def Jm{h:Wo}(hp:OS h):QbK N h=bnd (Qaf N h N 0) λe=>exK e (λr=>some r) λ_=>some true:=by
 have o:=Xu.1 hp.conf;have q:=X4 hp.conf (i:=0) aa aa;have hw:=hp.words;have f:=hp.pages;have g:((h.w.length:Int) != wI (h.c.W*h.c.p))=false:=by rw[Int.mul_comm,Xd aa aa];simpa using hw
 have j:((h.p.length:Int) != h.c.p)=false:=by simpa using f
 have e3:∀{α:Type}(x y z:α),(bif h.s != 0 then(bif h.s != 1 then x else y)else y)=y:=by
  intro α x y z;by_cases u:h.s=0
  .simp_all
  have v:h.s=1:=by have:=hp.space;omega
  simp_all
 rw[QbK];simp only[Xz,K1,Xa,hp.conf,Wi,Wa,g,j];rw[e3 _ _ (some true)];rcases hp.bump with hb|⟨b0,l,b2⟩
 .simp_all
 rw[show(h.b != -1)=true by grind,Wb,XT (show¬h.b<0 by omega),Wa,XT (show¬h.b>=(h.p.length:Int) by omega),Wa,XG b0 l,Xa,b2];rfl
def Xb2{h:Wo}(hN:NB N)(hb:HB h)(ep:Qac N h=some true){e:List Wv}(f:e.length=h.p.length)(l:∀i(o:i<h.p.length),Yb h.c e i (e[i]'aa)=Yb h.c h.p i h.p[i]){ws:List Int}(hw:ws.length=h.w.length){b:Int}(g:b = -1\/(0<=b/\b<e.length/\(pg e b).k=1)):Qac N ⟨h.c,ws,e,h.s,b⟩=some true:=by
 have j:1000000<N:=by unfold NB at hN;omega
 have hp:=Yq hN hb ep;rw[←Yd (by rw[f];exact hb.2) j,Jm (h:=⟨h.c,ws,e,h.s,b⟩) ⟨hp.conf,by rw[hw];exact hp.words,by rw[f];exact hp.pages,hp.space,g⟩];have:=Xb1 hb.2 j e f l ws b N 0 aa;rw[show((0:Nat):Int)=0 from rfl]at this;rw[this,←Jm hp.pre,Yd hb.2 j,ep]
end
section
variable {N:Nat}
def Xes(hN:NB N){h:Wo}(hb:HB h)(ep:Qac N h=some true){d:WC}(f:XL d=true){a:Int}(g:Yt h.w a (d.n.toNat+1)):∃j,Qcb N h a d=some (j,0):=by
 have l:=XY f;have⟨n,o⟩:∃n:Nat,d.n=(n:Int):=⟨d.n.toNat,aa⟩
 have e:d.n.toNat=n:=aa;rw[e]at g;rw[Qcb,Jq,Wp f,ep,Xa,Xa,Wi,Wa];rw[show((0:Int) != 0)=false from rfl,Wa,Xc aa,e,Xc aa,Z8 (by unfold BIG;have:=hb.1;omega) (by unfold BIG;simp;omega) (by simp;unfold NB at hN;omega),Wp (by simpa using g),Xa];simp
def Xfp(hN:1000000<N){ps:List Wv}(h:ps.length<=100000){i:Int}(f r:Wv)(k:Nat)(y:1<=k)(o:k<=1000)(q:RunOK ps i (k:Int)):QdD N ps i (k:Int) f r=some (Kc ps (f::List.replicate (k-1) r) i.toNat,0):=by
 have⟨z,_,A,s⟩:=q;obtain⟨j,rfl⟩:∃j:Nat,i=(j:Int):=⟨i.toNat,aa⟩
 have g:((ps.drop j).take k).any VM=false:=by
  rw[List.any_eq_false];intro p hp hb;obtain⟨m,u,rfl⟩:=WJ hp;rw[Wj,Wl]at u;rw[Ih,ID]at hb;have:=s (m:Int) aa aa;have e:pg ps ((j:Int)+(m:Int))=ps[j+m]'aa:=by unfold pg;rw[show((j:Int)+(m:Int)).toNat=j+m by omega,Wq,Wc aa];rfl
  rw[e]at this;unfold VM at hb;rw[this]at hb;cases hb
 have ht:=Xfo (N:=N) 0 j k f r ps h aa N 0 aa aa;have l:Kc ps (List.replicate 0 r) j=ps:=by unfold Kc;simp
 rw[l,IM,Nat.sub_zero,show((0:Nat):Int)=0 from rfl,g,Wk ab]at ht;rw[QdD,XT (show¬(j:Int)<0 by omega),Wa,XT (show¬(j:Int)>=(ps.length:Int) by omega),Wa,Xd (n:=(ps.length:Int)-(j:Int)) aa aa,XT (show¬(k:Int)>(ps.length:Int)-(j:Int) by omega),Wa,Xc aa,ht,Xa,Xq];have v:(Kc ps (List.replicate k r) j).length=ps.length:=Xbh (by grind);rw[Xe,Wc aa,Xa,show(j:Int).toNat=j from rfl];unfold Kc;obtain⟨m,rfl⟩:∃m,k=m+1:=⟨k-1,aa⟩
 rw[WT,Iq,Uk,WT,List.replicate_succ,List.set_append_left _ _ (by grind),Ir _ _ (by grind)];simp only[Wj];rw[show j-min j ps.length=0 by omega,Im]
end
section
variable {N:Nat}
def Xet{c:WV}{e:List Wv}{j:Nat}{p:Wv}(f:p.k=1)(g:0<=p.s/\p.s<=1)(hp:0<=p.P/\p.P<=2147483647)(h:0<=p.u/\p.u<=c.W):Yb c e j p=1:=by unfold Yb;grind
def XhX{c:WV}{e:List Wv}{j:Nat}:Yb c e j Je=1:=rfl
def Xbi{e:List Wv}{j:Nat}(f:j<e.length):pg e (j:Int)=e[j]:=by unfold pg;simp_all
def XgN(hN:NB N){h:Wo}(hb:HB h)(ep:Qac N h=some true){j:Nat}(f:j<h.p.length){x:Wv}(q:x.k=1)(r:0<=x.s/\x.s<=1)(l:0<=x.P/\x.P<=2147483647)(v:0<=x.u/\x.u<=h.c.W)(g:h.p[j].k=0\/h.p[j].k=1){b:Int}(o:b=(j:Int)):Qac N ⟨h.c,h.w,h.p.set j x,h.s,b⟩=some true:=by
 have hp:=Yq hN hb ep;have e:=hp.pgs (j:Int) aa aa;have y:Yb h.c h.p j h.p[j]=1:=by
  rcases g with g|g
  .have:=e.free (by simp_all[Xbi,f]);rw[Xbi f]at this;rw[this];rfl
  have a:=e.space;have b:=e.pins;have c:=e.small (by simp_all[Xbi,f]);rw[Xbi f]at a b c;exact Xet g a b c
 have A:∀(p:Wv)(sp:Int),p.k=0\/p.k=1->Yc sp p=false:=by intro p sp h;unfold Yc Kb;rw[show(p.k==3)=false by grind];rfl
 refine Xb2 hN hb ep ab (λi z=>Xml f (λsp=>by simp_all) ?_ i z) rfl (.inr ⟨aa,by simp_all,?_⟩)
 .rw[y];exact Xet q r l v
 unfold pg;simp_all
def XhY(N:Nat)(h:Wo)(n u:Int)(first:Int):Option (Nat×Int):=
 if 0<=h.b/\u<=Jd h.c/\(pg h.p h.b).s=h.s/\(pg h.p h.b).u+n<=h.c.W then some (h.b.toNat,(pg h.p h.b).u)
 else if 0<=first/\u<Jd h.c then some (first.toNat,0)else none
def JV(h:Wo)(n:Int)(j:Nat)(at_:Int):Wo:=⟨h.c,h.w,h.p.set j ⟨1,h.s,at_+n,(pg h.p (j:Int)).P⟩,h.s,(j:Int)⟩
def Xeu(hN:NB N){h:Wo}(hb:HB h)(hp:Ut h){n u f:Int}(Z:0<=n/\n<=300)(I:QcS N h.p=some u)(G:Qbp N h.p 1=some f):
 QeX N h n=some (match XhY N h n u f with|some (j,a)=>(JV h n j a,Xj h.c (j:Int) a,true)|none=>(zHp,0,false)):=by
 have r:1000000<N:=by unfold NB at hN;omega
 have v:=hb.2;have hpages:=hp.pages;have J:=Xu.1 hp.conf;have fresh:(bif decide (f<0)then some (zHp,(0:Int),false)else bif decide (u>=Jd h.c)then some (zHp,0,false)else bnd (QbJ N h.p f h.s) λq=>bnd (Xb q.1 f) λy=>bnd (Xb q.1 f) λz=>bnd (Xb q.1 f) λl=>some ((Wo.mk h.c h.w (q.1.set f.toNat (Wv.mk l.k l.s (wI (z.u+n)) l.P)) h.s f),(wU (wI ((wI (4096+(wI (f*h.c.W))))+y.u))),true))=some (match (if 0<=f/\u<Jd h.c then some (f.toNat,(0:Int))else none)with|some (j,a)=>(JV h n j a,Xj h.c (j:Int) a,true)|none=>(zHp,0,false)):=by
  by_cases K:f<0
  .grind
  by_cases L:u>=Jd h.c
  .grind
  rw[XT K,Wa,XT L,Wa,Wp aa]
  have g:RunOK h.p f 1:=by
   rcases(ZK (N:=N) (ps:=h.p) 1 aa aa).get_eq G with A|A
   .omega
   .omega
  obtain⟨j,rfl⟩:∃j:Nat,f=(j:Int):=⟨f.toNat,aa⟩
  have H:j<h.p.length:=by have:=g.2.2.1;omega
  have M:=hp.space
  have O:=X4 hp.conf (i:=(j:Int)) aa aa
  have R:=Xfp r v (Wv.mk 1 h.s 0 0) (Wv.mk 0 0 0 0) 1 aa aa g
  have B:QdD N h.p (j:Int) 1 (Wv.mk 1 h.s 0 0) (Wv.mk 0 0 0 0)=_:=R
  have o:Kc h.p (Wv.mk 1 h.s 0 0::List.replicate (1-1) (Wv.mk 0 0 0 0)) j=h.p.set j (Wv.mk 1 h.s 0 0):=by
   unfold Kc
   rw[List.set_eq_take_append_cons_drop,Wp H];simp
  rw[QbJ,XT (show¬h.s<0 by omega),Wa,XT (show¬h.s>1 by omega),Wa,B,show(j:Int).toNat=j from rfl,o,Xa,Xa]
  have S:Xb (h.p.set j (Wv.mk 1 h.s 0 0)) (j:Int)=some (Wv.mk 1 h.s 0 0):=by
   rw[Xe,IL H]
  dsimp only
  have T:(pg h.p (j:Int)).P=0:=by
   have:=(hp.pgs (j:Int) aa aa).free (by have:=g.2.2.2 0 aa aa;assumption)
   rw[this];rfl
  simp only[S,Xa]
  unfold JV Xj
  rw[List.set_set,T,Xd (n:=0+n) aa aa,Xd (n:=(j:Int)*h.c.W) aa aa,Xd (n:=4096+(j:Int)*h.c.W) aa aa,Xd (n:=4096+(j:Int)*h.c.W+0) aa aa,XA aa aa]
 rw[QeX,Xc aa,XcM,Xa,I,Xa,Xz,G];simp only[Xa];unfold XhY;by_cases b0:h.b<0
 .grind
 have e:0<=h.b/\h.b<h.p.length/\(pg h.p h.b).k=1:=by
  rcases hp.bump with A|A
  .omega
  omega
 have D:=hp.pgs h.b e.1 e.2.1;have U:=D.small e.2.2;have O:=X4 hp.conf (i:=h.b) aa aa;rw[XT b0,Wa,XG e.1 e.2.1];simp only[Xa];rw[Xd (n:=(pg h.p h.b).u+n) aa aa];by_cases V:(pg h.p h.b).s=h.s;case neg=>grind
 rw[show((pg h.p h.b).s != h.s)=false by simp_all,Wa];by_cases b2:(pg h.p h.b).u+n>h.c.W
 .grind
 by_cases Y:u>Jd h.c
 .grind
 rw[XT b2,Wa,XT Y,Wa,Wp (c:=0<=h.b/\u<=Jd h.c/\_) aa];dsimp only;unfold JV Xj;have E:(h.b.toNat:Int)=h.b:=aa;rw[E,e.2.2,V,Xd (n:=h.b*h.c.W) aa aa,Xd (n:=4096+h.b*h.c.W) aa aa,Xd (n:=4096+h.b*h.c.W+(pg h.p h.b).u) aa aa,XA aa aa]
end
section
variable {N:Nat}
def XgO(hN:NB N){h:Wo}(hb:HB h)(hp:Ut h){n u f:Int}(V:0<=n/\n<=300)(G:XF h.c n=0)(H:QcS N h.p=some u)(D:Qbp N h.p 1=some f):
 Qe7 N h n=some (match XhY N h n u f with|some (j,a)=>(JV h n j a,⟨(j:Int),a⟩,0)|none=>(zHp,⟨0,0⟩,3)):=by
 have o:1000000<N:=by unfold NB at hN;omega
 have q:=hb.2;have I:=Xu.1 hp.conf;have fresh:(bif decide (f>=0)then(bif decide (u<Jd h.c)then(bnd (Qeh N h.p f h.s) λl=>bif (l.2 != 0)then some (zHp,(IW.mk 0 0),l.2)else bnd (Xb l.1 f) λr=>some ((Wo.mk h.c h.w (l.1.set f.toNat (Wv.mk r.k r.s n r.P)) h.s f),(IW.mk f 0),0))else some (zHp,(IW.mk 0 0),3))else some (zHp,(IW.mk 0 0),3))=some (match (if 0<=f/\u<Jd h.c then some (f.toNat,(0:Int))else none)with|some (j,a)=>(JV h n j a,IW.mk (j:Int) a,(0:Int))|none=>(zHp,IW.mk 0 0,3)):=by
  by_cases J:f>=0
  case neg=>grind
  by_cases K:u<Jd h.c
  case neg=>grind
  rw[Wd J,Wb,Wd K,Wb,Wp aa]
  have g:RunOK h.p f 1:=by
   rcases(ZK (N:=N) (ps:=h.p) 1 aa aa).get_eq D with y|y
   .omega
   .omega
  obtain⟨j,rfl⟩:∃j:Nat,f=(j:Int):=⟨f.toNat,aa⟩
  have E:j<h.p.length:=by have:=g.2.2.1;omega
  have L:=hp.space
  have M:=Xfp o q (Wv.mk 1 h.s 0 0) (Wv.mk 0 0 0 0) 1 aa aa g
  have z:QdD N h.p (j:Int) 1 (Wv.mk 1 h.s 0 0) (Wv.mk 0 0 0 0)=_:=M
  have v:Kc h.p (Wv.mk 1 h.s 0 0::List.replicate (1-1) (Wv.mk 0 0 0 0)) j=h.p.set j (Wv.mk 1 h.s 0 0):=by
   unfold Kc
   rw[List.set_eq_take_append_cons_drop,Wp E];simp
  rw[Xep o q,QbJ,XT (show¬h.s<0 by omega),Wa,XT (show¬h.s>1 by omega),Wa,z,show(j:Int).toNat=j from rfl,v,Xa,Xa]
  have O:Xb (h.p.set j (Wv.mk 1 h.s 0 0)) (j:Int)=some (Wv.mk 1 h.s 0 0):=by
   rw[Xe,IL E]
  dsimp only
  have R:(pg h.p (j:Int)).P=0:=by
   have:=(hp.pgs (j:Int) aa aa).free (by have:=g.2.2.2 0 aa aa;assumption)
   rw[this];rfl
  rw[show((0:Int) != 0)=false from rfl,Wa,O,Xa]
  unfold JV
  rw[List.set_set,R,Int.zero_add]
 rw[Qe7,XbJ,H,Xa,XiX,Xa,VH,G,Xa,XT (show¬(0:Int)>0 by omega),Wa,XbK o q,D];simp only[Xa,Xz];unfold XhY;by_cases b0:h.b>=0;case neg=>grind
 have e:0<=h.b/\h.b<h.p.length/\(pg h.p h.b).k=1:=by
  rcases hp.bump with y|y
  .omega
  omega
 have A:=hp.pgs h.b e.1 e.2.1;have S:=A.small e.2.2;rw[Wd b0,Wb];by_cases T:u<=Jd h.c;case neg=>grind
 rw[Wd T,Wb,XG e.1 e.2.1,Xa];by_cases U:(pg h.p h.b).s=h.s;case neg=>grind
 rw[show((pg h.p h.b).s==h.s)=true by simp_all,Wb,Xd (n:=h.c.W-(pg h.p h.b).u) aa aa];by_cases b2:n<=h.c.W-(pg h.p h.b).u;case neg=>grind
 rw[Wd b2,Wb,Wp (c:=0<=h.b/\u<=Jd h.c/\_) aa,Qaa,Xa,XG e.1 e.2.1,Xa,Xa];dsimp only;unfold JV;have B:(h.b.toNat:Int)=h.b:=aa;rw[B,e.2.2,U,Xd (n:=(pg h.p h.b).u+n) aa aa]
def Xp8(hN:NB N){h:Wo}(hb:HB h)(ep:Qac N h=some true){n u f:Int}(E:1<=n/\n<=h.c.W)(D:Qbp N h.p 1=some f){j:Nat}{a:Int}(g:XhY N h n u f=some (j,a)):j<h.p.length/\0<=a/\a+n<=h.c.W/\Qac N (JV h n j a)=some true:=by
 have hp:=Yq hN hb ep;have G:=hb.2;have y:=hp.space;unfold XhY at g;split at g
 .cases g;have e:0<=h.b/\h.b<h.p.length/\(pg h.p h.b).k=1:=by
   rcases hp.bump with z|z
   .omega
   exact z
  have l:=hp.pgs h.b e.1 e.2.1;have A:=l.small e.2.2;have q:(h.b.toNat:Int)=h.b:=aa;have r:h.b.toNat<h.p.length:=aa;refine⟨r,A.1,aa,?_⟩;unfold JV;rw[q];refine XgN (x:=⟨1,h.s,(pg h.p h.b).u+n,(pg h.p h.b).P⟩) hN hb ep r rfl y l.pins (by show 0<=(pg h.p h.b).u+n/\_;exact⟨aa,by show(pg h.p h.b).u+n<=_;omega⟩) (.inr ?_) q.symm;rw[←Xbi r,q];omega
 split at g
 .cases g;have o:RunOK h.p f 1:=by
   rcases(ZK (N:=N) (ps:=h.p) 1 aa (by unfold NB at hN;omega)).get_eq D with z|z
   .omega
   exact z
  have H:=o.2.2.1;have v:(f.toNat:Int)=f:=aa;have r:f.toNat<h.p.length:=aa;have B:(pg h.p f).k=0:=by have:=o.2.2.2 0 aa aa;simpa using this
  refine⟨r,aa,aa,?_⟩;unfold JV;have l:=hp.pgs f aa aa;rw[v];refine XgN (x:=⟨1,h.s,0+n,(pg h.p f).P⟩) hN hb ep r rfl y l.pins (by show 0<=0+n/\_;exact⟨aa,by show 0+n<=_;omega⟩) (.inl ?_) v.symm;rw[←Xbi r,v];exact B
 simp_all
end
section
variable {N:Nat}
def Xdo(hN:1000000<N)(c:WV)(d:WC):Qck N c d=some (XL d&&(d.k != 0&&XF c (XM d) != -1)):=by rw[Qck,Zl,Xa,X6];simp only[Xa,ZN (show 10<=N by omega)];grind
def XgP{h:Wo}(hb:HB h)(n:Int)(j:Nat)(a:Int):HB (JV h n j a):=⟨hb.1,by show(h.p.set j _).length<=_;rw[WN];exact hb.2⟩
def XhZ(hN:NB N){h:Wo}(hb:HB h){d:WC}(y:tW d.Map)(g:XF h.c (XM d)=0):Qe2 N h d=QcG N h d:=by
 have e:1000000<N:=by unfold NB at hN;omega
 have z:=hb.2;rw[Qe2,QcG,Yd z e,Jl e];have⟨b,eb⟩:=ZY (N:=N) hN hb;rw[eb,Xa,Xa];cases b with
 |false=>rfl
 |true=>
 rw[Wi,Wa,Wa,Xdo e,Xa,Xa];cases l:XL d with
 |false=>rfl
 |true=>
 cases A:(d.k != 0)with
 |false=>rfl
 |true=>
 have hp:=Yq hN hb eb;have B:=XY l;have K:XM d=d.n+1:=by unfold XM;rw[Wp l]
 have D:1<=XM d/\XM d<=h.c.W:=by
  have s:1<=XM d:=aa;refine⟨s,?_⟩;unfold XF at g;rw[Wp ⟨hp.conf,s⟩]at g;by_cases E:XM d<=h.c.W / 4
  .omega
  omega
 have⟨u,v,_⟩:=Xa1 (N:=N) (ps:=h.p) aa aa;have⟨f,o,_⟩:=ZK (N:=N) (ps:=h.p) 1 aa aa;simp only[show((0:Int) != -1)=true from rfl,IS,Wi,Wa,YS (show 1000<N by omega),X6,Xa,ZN (show 10<=N by omega),g,Xeu hN hb hp (n:=XM d) ⟨aa,aa⟩ v o,XgO hN hb hp (n:=XM d) ⟨aa,aa⟩ g v o,Xz,show decide ((0:Int)>0)=false from rfl];cases q:XhY N h (XM d) u f with
 |none=>rfl
 |some G=>
  have⟨j,a⟩:=G;have⟨L,M,O,H⟩:=Xp8 hN hb eb D o q;have I:=hp.pages;have R:=X4 hp.conf (i:=(j:Int)) aa aa;have hw:=hp.words;dsimp only;have r:Yt (JV h (XM d) j a).w (Xj h.c (j:Int) a) (d.n.toNat+1):=by
   unfold Yt Xj;show _/\_<=4096+(h.w.length:Int);constructor
   .omega
   omega
  have⟨S,J⟩:=Xes hN (XgP hb _ j a) H l r;rw[show((0:Int) != 0)=false from rfl,Wa,VJ,KO,Wk (by simp[hp.conf]),Wp aa,Xa];rw[show((0:Int) != 0)=false from rfl,Wa,Xdn hN (XgP hb _ j a) (by unfold Xj;omega) y,J,Xa];rw[show((0:Int) != 0)=false from rfl,Wa,Wi,Wa];rw[Xa]
end
section
variable {N:Nat}
def Xmm{e l:List Wv}{j:Nat}(h:j+l.length<=e.length)(i:Nat):(Kc e l j)[i]? = if i<j then e[i]? else if i<j+l.length then l[i-j]? else e[i]?:=by unfold Kc;grind
def Xkb{α:Type}(q:α->Bool){l e:List α}(f:l.length=e.length)(h:(∀i:Nat,l[i]? = e[i]?)\/∃(i:Nat) (x y:α),l[i]? = some x/\e[i]? = some y/\q x=false/\q y=false):l.all q=e.all q:=by
 rcases h with h|⟨i,x,y,g,j,o,p⟩
 .rw[List.ext_getElem? h]
 grind
def Xmn{c:WV}{ps:List Wv}{i:Nat}{p:Wv}{s:Nat}(h:Yb c ps i p=s)(e:2<=s):((ps.drop (i+1)).take (s-1)).all (Yc p.s)=true/\s<=ps.length-i:=by unfold Yb at h;grind
def Xmo{c:WV}{f e:List Wv}(g:e.length=f.length){i:Nat}(hd:∀m sp,((e.drop (i+1)).take m).all (Yc sp)=((f.drop (i+1)).take m).all (Yc sp))(p:Wv):Yb c e i p=Yb c f i p:=by unfold Yb;simp_all
def Xdp{h:Wo}(e:h.p.length<=100000)(hN:1000000<N):∀(k n j:Nat),j+k<=h.p.length->(∀m,m<k->∀(g:j+m<h.p.length),h.p[j+m]=Je)->Qaf N h (n+k) (j:Int)=Qaf N h n ((j+k:Nat):Int)
 |0,n,j,_,_=>rfl
 |k+1,n,j,o,f=>by rw[show n+(k+1)=(n+k)+1 from rfl,Qaf,Wd aa,Wb,Kz e hN (show j<h.p.length by omega),Xa];have:=f 0 aa aa;simp at this;rw[this,XhX,show((((1:Nat)):Int)==0)=false from rfl,Wa,show((1:Nat):Int)=1 from rfl,Xg aa,Xdp e hN k n (j+1) aa (λm g l=>by have:=f (m+1) aa aa;simpa only[show j+(m+1)=j+1+m by omega]using this)];grind
def Xh0(hN:NB N){h:Wo}(hb:HB h)(ep:Qac N h=some true){j k:Nat}(hk:1<=k)(hr:RunOK h.p (j:Int) (k:Int)){w:Int}(hw:XF h.c w=(k:Int)):Qac N ⟨h.c,h.w,Kc h.p (Wv.mk 2 h.s w 0::List.replicate (k-1) (Wv.mk 3 h.s 0 0)) j,h.s,h.b⟩=some true:=by
 have l:1000000<N:=by unfold NB at hN;omega
 have hp:=Yq hN hb ep;have I:=hb.2;have hsp:=hp.space;have⟨_,_,hfit,z⟩:=hr;generalize H:(Wv.mk 2 h.s w 0::List.replicate (k-1) (Wv.mk 3 h.s 0 0))=L;have J:L.length=k:=by rw[←H];simp;omega
 have B:j+L.length<=h.p.length:=aa;have o:(Kc h.p L j).length=h.p.length:=Xbh B;have K:∀m,m<k->∀(M:j+m<h.p.length),h.p[j+m]=Je:=by intro m M u;have:=(hp.pgs ((j:Int)+m) aa aa).free (z m aa aa);rw[show(j:Int)+(m:Int)=((j+m:Nat):Int) by omega,Xbi u]at this;exact this
 generalize hq:Kc h.p L j=e at *;have g:∀i,e[i]? = if i<j then h.p[i]? else if i<j+k then L[i-j]? else h.p[i]?:=by intro i;rw[←hq,Xmm B,J]
 have v:∀i(hi:i<h.p.length),(i<j\/j+k<=i)->e[i]'aa=h.p[i]:=by
  intro i hi r;have a:=g i;rw[Wc aa,Wc hi]at a;rcases r with r|r
  .simp_all
  grind
 have D:∀i,(i<j\/j+k<=i)->∀m sp,((e.drop (i+1)).take m).all (Yc sp)=((h.p.drop (i+1)).take m).all (Yc sp):=by
  intro i r m sp;refine Xkb _ (by simp_all) ?_;by_cases hcov:i<j/\j<i+1+m
  .right;refine⟨j-(i+1),Wv.mk 2 h.s w 0,Je,?_,?_,rfl,rfl⟩
   .rw[Ul,Wp aa,UL,show i+1+(j-(i+1))=j by omega,g,Wk aa,Wp aa,IP,←H];rfl
   grind
  grind
 have main:∀(m i n f:Nat),h.p.length-i<=m->i<=h.p.length->(i<=j\/j+k<=i)->h.p.length-i+200<n->h.p.length-i+200<f->Qaf N ⟨h.c,h.w,e,h.s,h.b⟩ n (i:Int)=Qaf N h f (i:Int):=by
  intro m;induction m with
  |zero=>
   intro i n f h1 h2 h3 h4 h5;obtain⟨n,rfl⟩:∃q,n=q+1:=⟨n-1,aa⟩
   obtain⟨f,rfl⟩:∃q,f=q+1:=⟨f-1,aa⟩
   rw[Qaf,Qaf];grind
  |succ m ih=>
   intro i n f h1 h2 h3 h4 h5;by_cases u:i<h.p.length;case neg=>
    grind
   by_cases O:i=j
   .subst O;obtain⟨n,rfl⟩:∃q,n=q+1:=⟨n-1,aa⟩
    obtain⟨f,rfl⟩:∃q,f=q+k:=⟨f-k,aa⟩
    rw[Xdp I l k f i aa K,Qaf];dsimp only;have hx:e[i]'aa=Wv.mk 2 h.s w 0:=by have a:=g i;rw[Wc aa,Wk aa,Wp aa,IP,←H]at a;exact WE a
    have R:((e.drop (i+1)).take (k-1)).all (Yc h.s)=true:=by
     rw[W9];intro y hy;obtain⟨q,S,rfl⟩:=WJ hy;rw[Wj,Wl]at S;have a:=g (i+1+q);have T:L[i+1+q-i]? = some (Wv.mk 3 h.s 0 0):=by rw[←H,show i+1+q-i=q+1 by omega,List.getElem?_cons_succ,List.getElem?_replicate,Wp aa]
     rw[Wc aa,Wk aa,Wp aa,T]at a;rw[Ih,ID,WE a];simp[Yc,Kb]
    have U:Yb h.c e i (e[i]'aa)=k:=by rw[hx];unfold Yb;have V:(XF h.c w).toNat=k:=aa;rw[Wk (show¬(2:Int)=0 by omega),Wp (by grind),Wk (show¬(2:Int)=1 by omega),Wp rfl];dsimp only;rw[V,Wp ⟨aa,aa,R⟩]
    rw[Wd aa,Wb,Kz aa l aa,U,Xa,show((k:Int)==0)=false by grind,Wa,Xd aa aa,show(i:Int)+(k:Int)=((i+k:Nat):Int) by omega];exact ih (i+k) n f aa aa (.inr aa) aa aa
   have r:i<j\/j+k<=i:=aa;obtain⟨n,rfl⟩:∃q,n=q+1:=⟨n-1,aa⟩
   obtain⟨f,rfl⟩:∃q,f=q+1:=⟨f-1,aa⟩
   rw[Qaf,Qaf];dsimp only;rw[o,Wd aa,Wb,Wb,Kz aa l aa,Kz I l u,v i u r,Xmo o (D i r),Xa,Xa];have E:=Xmn (c:=h.c) (ps:=h.p) (i:=i) (p:=h.p[i]) rfl;generalize Yb h.c h.p i h.p[i]=s at *;by_cases h0:s=0
   .simp_all
   rw[show((s:Int)==0)=false by simpa using h0,Wa,Wa,Xd aa aa,show(i:Int)+(s:Int)=((i+s:Nat):Int) by omega];refine ih (i+s) n f aa aa ?_ aa aa;rcases r with r|r
   .left;by_cases W:2<=s
    .have⟨ha,_⟩:=E W;by_cases Y:i+s<=j
     .exact Y
     rw[W9]at ha;have M:Je∈(h.p.drop (i+1)).take (s-1):=by refine Ua (i:=j-(i+1)) ?_;rw[Ul,Wp aa,UL,show i+1+(j-(i+1))=j by omega,Wc aa];have:=K 0 aa aa;simp only[IM]at this;rw[this]
     have:=ha _ M;cases this
    omega
   omega
 have A:h.b = -1\/(0<=h.b/\h.b<e.length/\(pg e h.b).k=1):=by
  rcases hp.bump with hh|⟨b0,b1,b2⟩
  .omega
  have⟨q,Z⟩:∃q:Nat,h.b=(q:Int):=⟨h.b.toNat,aa⟩
  rw[Z]at b1 b2⊢;have G:q<h.p.length:=aa;rw[Xbi G]at b2;by_cases hin:q<j\/j+k<=q
  .rw[Xbi aa,v q G hin];omega
  have:=K (q-j) aa aa;simp only[show j+(q-j)=q by omega]at this;rw[this]at b2;cases b2
 rw[←Yd (by simp_all) l,Jm (h:=⟨h.c,h.w,e,h.s,h.b⟩) ⟨hp.conf,hp.words,by rw[o];exact hp.pages,hp.space,A⟩];have:=main h.p.length 0 N N aa aa (.inl aa) aa aa;rw[show((0:Nat):Int)=0 from rfl]at this;rw[this,←Jm hp.pre,Yd I l,ep]
end
section
variable {N:Nat}
def Xdq(h:Wo)(n:Int)(j k:Nat):Wo:=⟨h.c,h.w,Kc h.p (Wv.mk 2 h.s n 0::List.replicate (k-1) (Wv.mk 3 h.s 0 0)) j,h.s,h.b⟩
def Xmp(hN:1000000<N){h:Wo}(e:h.p.length<=100000)(hp:Ut h){n:Int}{j k:Nat}(f:1<=k)(g:k<=4)(hw:XF h.c n=(k:Int))(l:RunOK h.p (j:Int) (k:Int)):Qee N h.c h.p (j:Int) h.s n=some ((Xdq h n j k).p,0):=by have o:=hp.space;rw[Qee,ZN aa,Xa,hw,XT (show¬(k:Int)<1 by omega),Wa,XT (show¬h.s<0 by omega),Wa,XT (show¬h.s>1 by omega),Wa,Xfp hN e _ _ k f aa l,Xa];rfl
def Xmq{h:Wo}(hb:HB h)(n:Int){j k:Nat}(e:1<=k)(f:j+k<=h.p.length):HB (Xdq h n j k):=⟨hb.1,by
 show(Kc h.p _ j).length<=_
 rw[Xbh (by simp_all)];exact hb.2⟩
def Xh1(hN:NB N){h:Wo}(hb:HB h){d:WC}(S:tW d.Map)(z:0<XF h.c (XM d)):Qe2 N h d=QcG N h d:=by
 have e:1000000<N:=by unfold NB at hN;omega
 have y:=hb.2;rw[Qe2,QcG,Yd y e,Jl e];have⟨b,eb⟩:=ZY (N:=N) hN hb;rw[eb,Xa,Xa];cases b with
 |false=>rfl
 |true=>
 rw[Wi,Wa,Wa,Xdo e,Xa,Xa];cases A:XL d with
 |false=>rfl
 |true=>
 cases T:(d.k != 0)with
 |false=>rfl
 |true=>
 have hp:=Yq hN hb eb;have U:=Xu.1 hp.conf;have V:=XY A;have hpages:=hp.pages;have hs:XM d=d.n+1:=by unfold XM;rw[Wp A]
 have B:=Jr h.c (XM d);have⟨k,o⟩:∃k:Nat,XF h.c (XM d)=(k:Int):=⟨(XF h.c (XM d)).toNat,aa⟩
 have l:=Xiw hp.conf (w:=XM d) aa;rw[o]at l z B⊢;have⟨u,H,hu⟩:=Xa1 (N:=N) (ps:=h.p) aa aa;have⟨f1,D,_⟩:=ZK (N:=N) (ps:=h.p) 1 aa aa;have⟨f,I,Y⟩:=ZK (N:=N) (ps:=h.p) (k:Int) aa aa;have J:0<=Jd h.c/\Jd h.c<=16:=by unfold Jd;rw[Wp hp.conf];omega
 have Z:((k:Int) != -1)=true:=by simp
 simp only[Z,IS,Wi,Wa,YS (show 1000<N by omega),X6,Xa,ZN (show 10<=N by omega),o,Xeu hN hb hp (n:=XM d) ⟨aa,aa⟩ H D,Xz,Wd (show(k:Int)>0 by omega),Wb];rw[QfP,I,Xa,Qe7,XbJ,H,Xa,XiX,Xa,VH,o,Xa,Wd (show(k:Int)>0 by omega),Wb,XbK e y,I,Xa,Xz];by_cases K:f>=0;case neg=>
  rw[We K,Wa,Xa,Wd (show f<0 by omega),Wb,Xa];rfl
 rw[Wd K,Wb,XT (show¬f<0 by omega),Wa,XcM];simp only[Xa];rw[Xd (n:=Jd h.c-(k:Int)) aa aa,Xd (n:=u+(k:Int)) aa aa];by_cases L:u<=Jd h.c-(k:Int);case neg=>
  rw[We L,Wa,Xa,Wd (show u+(k:Int)>Jd h.c by omega),Wb,Xa];rfl
 rw[Wd L,Wb,XT (show¬u+(k:Int)>Jd h.c by omega),Wa,Xka e y];have g:RunOK h.p f (k:Int):=by
  rcases Y with M|M
  .omega
  exact M
 obtain⟨j,rfl⟩:∃j:Nat,f=(j:Int):=⟨f.toNat,aa⟩
 have O:=g.2.2.1;rw[Xmp e y hp aa aa o g];simp only[Xa];have E:=Xh0 hN hb eb aa g o;have q:=Xmq hb (XM d) (j:=j) (k:=k) aa aa;have hm:=X4 hp.conf (i:=(j:Int)) aa aa;have hw:=hp.words;have r:((j:Int)+(k:Int))*h.c.W<=h.c.p*h.c.W:=UE aa aa;rw[IJ]at r;have G:Yt (Xdq h (XM d) j k).w (Xj h.c (j:Int) 0) (d.n.toNat+1):=by
  unfold Yt Xj;show _/\_<=4096+(h.w.length:Int);constructor
  .omega
  have:(((d.n.toNat+1:Nat)):Int)=XM d:=aa;rw[this];omega
 have⟨v,R⟩:=Xes hN q E A G;have ea:wU (wI (4096+wI ((j:Int)*h.c.W)))=Xj h.c (j:Int) 0:=by unfold Xj;rw[Xd (n:=(j:Int)*h.c.W) aa aa,Xd (n:=4096+(j:Int)*h.c.W) aa aa,XA aa aa];omega
 rw[show((0:Int) != 0)=false from rfl,Wa,VJ,KO,Wk (by rw[hp.conf];simp),Wp aa,Xa];rw[show((0:Int) != 0)=false from rfl,Wa,ea,Wi,Wa];have e3:QfR N (Wo.mk h.c h.w (Xdq h (XM d) j k).p h.s h.b) (Xj h.c (j:Int) 0) d=some (v,0):=(Xdn hN q (by unfold Xj;omega) S).trans R;have e4:Qcb N (Wo.mk h.c h.w (Xdq h (XM d) j k).p h.s h.b) (Xj h.c (j:Int) 0) d=some (v,0):=R;simp[e3,e4,Xa]
def XiY(hN:NB N){h:Wo}(hb:HB h){d:WC}(f:tW d.Map):Qe2 N h d=QcG N h d:=by
 have g:=Jr h.c (XM d);by_cases j:XF h.c (XM d)=0
 .exact XhZ hN hb f j
 by_cases l:0<XF h.c (XM d)
 .exact Xh1 hN hb f l
 have e:1000000<N:=by unfold NB at hN;omega
 have o:XF h.c (XM d) = -1:=aa;rw[Qe2,QcG,Yd hb.2 e,Jl e,Xdo e,o];have⟨b,eb⟩:=ZY (N:=N) hN hb;simp[eb,Xa]
end
def GR{β:Type}(N:Nat)(c:WV)(sp n:Int)(e:List Wv)(tk:List Int)(h:Int->Int->Int->List Wv->List Int->Option β):Option β:=
 grd (tk.length<=140737488355328) <|
 jn (λ(_:Unit)=>
  bnd (Qei N e 1) λf=>
  bif (decide (f<0))then h 0 0 3 e tk
  else bnd (Qeh N e f (wI (1-sp))) λj=>
  bif (j.2 != 0)then none
  else grd ((tk.length+1)*8<=140737488355328) <|
  h f 0 0 j.1 (tk++[f])) λg=>
 bif (decide ((tk.length:Int)>0))then(bnd (Xb tk (wI ((tk.length:Int)-1))) λp=>
  bif (decide (p>=0))then(bnd (Xb tk (wI ((tk.length:Int)-1))) λq=>
   grd (e.length<=140737488355328) <|
   bif (decide (q<(e.length:Int)))then(bnd (Xb tk (wI ((tk.length:Int)-1))) λl=>
    bnd (Xb e l) λo=>
    bif (decide (n<=(wI (c.W-o.u))))then h l o.u 0 e tk
    else g ())
   else g ())
  else g ())
 else g ()
def FT{β:Type}(N:Nat)(c:WV)(o:Int)(ws:List Int)(j:List Wv)(q:List Int)(f h:Int)(p:Int->Int->Int->List Int->List Wv->List Int->Option β)(i u:Int):Option β:=
 bnd (QdJ N c i u) λg=>
 bif (g.2 != 0)then p 0 g.2 o ws j q
 else grd ((h.toNat-f.toNat)<=140737488355328) <|
 bnd (Qb2 N c g.1) λe=>
 bif (e.2.2 != 0)then(bnd (Qb4 N g.1) λy=>
  p 0 19 o ws j q)
 else grd (ws.length<=140737488355328) <|
 bif (decide ((((h.toNat-f.toNat):Nat):Int)>(wI ((ws.length:Int)-(wI ((wI (e.1*c.W))+e.2.1))))))then(bnd (Qb4 N g.1) λz=>
  p 0 19 o ws j q)
 else grd (0<=(wI ((wI (e.1*c.W))+e.2.1))/\(wI ((wI (e.1*c.W))+e.2.1))<=(wI ((wI ((wI (e.1*c.W))+e.2.1))+(((h.toNat-f.toNat):Nat):Int)))/\(wI ((wI ((wI (e.1*c.W))+e.2.1))+(((h.toNat-f.toNat):Nat):Int)))<=(ws.length:Int)) <|
 bnd (Qb4 N g.1) λr=>
 bif (r.2 != 0)then p 0 19 o ws j q
 else grd ((h.toNat-f.toNat)<=((wI ((wI ((wI (e.1*c.W))+e.2.1))+(((h.toNat-f.toNat):Nat):Int))).toNat-(wI ((wI (e.1*c.W))+e.2.1)).toNat)) <|
 bnd (KC (((ws.take (wI ((wI (e.1*c.W))+e.2.1)).toNat)++((ws.drop f.toNat).take (h.toNat-f.toNat)))++(ws.drop ((wI ((wI (e.1*c.W))+e.2.1)).toNat+(h.toNat-f.toNat)))) (f.toNat) (h.toNat-f.toNat) 0) λA=>
 bnd (Xb j i) λv=>
 grd ((h.toNat-f.toNat)<=140737488355328) <|
 bnd (Xb j i) λl=>
 grd ((q.length+1)*8<=140737488355328) <|
 p g.1 0 (wI (o+1)) ((((ws.take (wI ((wI (e.1*c.W))+e.2.1)).toNat)++((ws.drop f.toNat).take (h.toNat-f.toNat)))++(ws.drop ((wI ((wI (e.1*c.W))+e.2.1)).toNat+(h.toNat-f.toNat)))).set f.toNat r.1) (j.set i.toNat (Wv.mk l.k l.s (wI (v.u+(((h.toNat-f.toNat):Nat):Int))) l.P)) (q++[g.1])
end Go.Sx
