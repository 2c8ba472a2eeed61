import Derived.Test.YtmpbhfnjjaocoaaGreatAD
set_option linter.all false
namespace Go.Sx
def IT{β κ:Type}{P:β->Prop}{k:κ->Option β}{f:(κ->Option β)->Option β}(h:∀x,Ok (k x) P)(g:∀j:κ->Option β,(∀x,Ok (j x) P)->Ok (f j) P):Ok (Sx.jn k f) P:=by simp_all[XF]
def W7{β:Type}{P:β->Prop}{b:Bool}{x y:Option β}(h1:Ok x P)(h2:Ok y P):Ok (bif b then x else y) P:=by grind
def W5{α β:Type}{P:β->Prop}{o:Option α}{Q:α->Prop}{f:α->Option β}(h:Ok o Q)(k:∀y,Q y->Ok (f y) P):Ok (Sx.bnd o f) P:=WH h λy _ hq=>k y hq
def Ok.t{α:Type}{o:Option α}{P:α->Prop}(h:Ok o P):Ok o λ_=>True:=h.mono λ_ _=>trivial
section
variable {N:Nat}{x:W9}
abbrev EP(r:W9×Int×Int):Prop:=EB r.1
def Xjt(e:Int):Ok (Qaf N e) EP:=by exact We XcG
def XD(e:Int):Ok (bnd (Qaf N e) λy=>some (y.1,y.2.1,y.2.2)) EP:=W5 (Xjt e) λy hy=>We hy
def Xlw(a b c:Int):Ok (Qcy N a b c) λ_=>True:=by exact W7 (W7 (We trivial) (We trivial)) (We trivial)
def VH(hN:NB N)(hx:EB x)(a:Int):Ok (Qcz N x a) EP:=by have hN':=hN;unfold NB at hN';refine W7 (We hx) ?_;rw[Xav hx.loc aa,Xa];exact W7 (XD _) (W5 (Zr _) λy _=>We ⟨hx.heap,Xik hx.loc a,hx.glo,hx.wea,hx.pins,hx.roots⟩)
def Xhk(hN:NB N)(hx:EB x)(a b c:Int):Ok (QdH N x a b c) EP:=by have hN':=hN;unfold NB at hN';refine W7 (XD _) (W5 (Xlw _ _ _) λy _=>U6 (W7 (XD _) (W5 (XeS hN _ _) λz _=>W7 (XD _) ?_)));rw[Xav hx.loc aa,Xa];exact W7 (XD _) (W5 (XaZ hN hx _) λy7 h7=>W7 (XD _) (W5 (VH hN h7 _) λy9 h9=>We h9))
def VJ(hN:NB N)(hx:EB x)(a:Int):Ok (QdC N x a) λ_=>True:=by exact W5 (Zl hN hx a) λy _=>W7 (W7 (We trivial) (We trivial)) (We trivial)
def XdY(hN:NB N)(hx:EB x)(a b:Int)(c:Bool):Ok (Qep N x a b c) λ_=>True:=by refine W5 (VJ hN hx a) λy _=>W7 (We trivial) (W5 (V5 hN hx.heap _) λz _=>W7 (We trivial) ?_);rw[VD,Xa];exact W7 (We trivial) (We trivial)
def Xju(hN:NB N)(hx:EB x)(a b c d:Int):Ok (Qeq N x a b c d) EP:=by
 have sf:∀i j v:Int,Ok (α:=W9×Int×Int) (bnd (QbO N x.h i j v) λy12=>some ((W9.mk y12.1 x.l x.g x.v x.P x.R),0,0)) EP:=λi j v=>
  W5 (XfX hN hx.heap i j v) λy hy=>We ⟨hy,hx.loc,hx.glo,hx.wea,hx.pins,hx.roots⟩
 refine U6 (W7 (W5 (XdY hN hx _ _ _) λy _=>?_) (W5 (XdY hN hx _ _ _) λy _=>?_))<;>
 exact W7 (XD _) (W5 (Xct hN hx.heap _ _) λz _=>W7 (We hx) (W7 (W5 (VH hN hx _) λy8 h8=>We h8) (U6 (W7 (W5 (Zl hN hx _) λy9 _=>W7 (XD _) (sf _ _ _)) (sf _ _ _)))))
def Xjv(hN:NB N)(hx:EB x)(a b c:Int):Ok (Qer N x a b c) EP:=by refine IT (λb1=>W7 (W5 (VJ hN hx _) λy _=>W7 (XD _) (W5 (V5 hN hx.heap _) λz _=>W7 (We hx) (We hx))) (W7 (W5 (Zl hN hx _) λy _=>W7 (XD _) (W5 (Zl hN hx _) λz _=>W7 (XD _) (W7 (We hx) (We hx)))) (W5 (Zl hN hx _) λy _=>W7 (XD _) (W5 (VH hN hx _) λz hz=>We hz)))) λj hj=>W7 (hj _) (hj _)
def Xgg(hN:NB N)(hx:EB x)(a b:Int):Ok (Qdh N x a b) EP:=by
 have hN':=hN;unfold NB at hN';refine W5 (VJ hN hx _) λy _=>W7 (XD _) (U6 (W7 ?_ ?_))
 .show Ok (bnd (QcX N ⟨x.v.e⟩ y.1) _) EP;rw[Jb (t:=⟨x.v.e⟩) hx.wea aa,Xa];have h:=Xin (t:=⟨x.v.e⟩) hx.wea y.1;exact W7 (XD _) (U6 (W7 (W5 (Zr _) λz _=>We ⟨hx.heap,hx.loc,hx.glo,h,hx.pins,hx.roots⟩) (W5 (Zr _) λz _=>We ⟨hx.heap,hx.loc,h,hx.wea,hx.pins,hx.roots⟩)))
 show Ok (bnd (QcX N ⟨x.g.e⟩ y.1) _) EP;rw[Jb (t:=⟨x.g.e⟩) hx.glo aa,Xa];have h:=Xin (t:=⟨x.g.e⟩) hx.glo y.1;exact W7 (XD _) (U6 (W7 (W5 (Zr _) λz _=>We ⟨hx.heap,hx.loc,hx.glo,h,hx.pins,hx.roots⟩) (W5 (Zr _) λz _=>We ⟨hx.heap,hx.loc,h,hx.wea,hx.pins,hx.roots⟩)))
def Xhl(hN:NB N)(hx:EB x)(a b:Int):Ok (QdK N x a b) EP:=by
 have hN':=hN;unfold NB at hN';refine W7 (XD _) (W5 (Zl hN hx _) λy _=>W7 (XD _) (W5 (XaY _) λz _=>IT (λ_=>W7 ?_ (W7 ?_ ?_)) λj2 h2=>IT (λ_=>XD _) λj1 h1=>?_))
 .rw[XeR hx.loc aa,Xa];exact We ⟨hx.heap,Xil hx.loc _ _,hx.glo,hx.wea,hx.pins,hx.roots⟩
 .rw[VG hx.glo aa,Xa];exact We ⟨hx.heap,hx.loc,Xio hx.glo _ _,hx.wea,hx.pins,hx.roots⟩
 .rw[VG hx.wea aa,Xa];exact We ⟨hx.heap,hx.loc,hx.glo,Xio hx.wea _ _,hx.pins,hx.roots⟩
 grind
def Xhm(hN:NB N)(hx:EB x)(a b:Int):Ok (QdL N x a b) EP:=by
 have hN':=hN;unfold NB at hN';refine W7 (W7 (XD _) ?_) (W5 (Zl hN hx _) λy _=>W7 (XD _) ?_)
 .rw[Xaw hx.loc aa,Xa];exact W7 (XD _) (We ⟨hx.heap,Xf8 hx.loc _,hx.glo,hx.wea,hx.pins,hx.roots⟩)
 rw[XbQ hx.loc aa,Xa];exact W7 (XD _) (W5 (VH hN (x:=⟨x.h,(ZY x.l).1,x.g,x.v,x.P,x.R⟩) ⟨hx.heap,XbR hx.loc,hx.glo,hx.wea,hx.pins,hx.roots⟩ _) λz hz=>We hz)
def Xlx(hN:NB N)(hx:EB x)(a b:Int):Ok (QfH N x a b) EP:=by refine W5 (VJ hN hx _) λy _=>W7 (XD _) (W7 (W5 (Xhj hN hx.heap hx.pins _) λz hz=>W7 (XD _) (We ⟨hz.1,hx.loc,hx.glo,hx.wea,hz.2,hx.roots⟩)) (W5 (Xjs hN hx.heap hx.pins _) λz hz=>W7 (XD _) (We ⟨hz.1,hx.loc,hx.glo,hx.wea,hz.2,hx.roots⟩)))
def Xly(hN:NB N)(hx:EB x)(op a b c:Int):Ok (QeZ N x op a b c) EP:=by
 have thr:∀{o:Option (W9×Int×Int)},Ok o EP->Ok (bnd o λy=>some (y.1,y.2.1,y.2.2)) EP:=λh=>W5 h λy hy=>We hy;refine W5 (ZM hN hx) λb1 _=>W7 (XD _) ?_;refine IT (λx1=>W7 (thr (Xhk hN hx _ _ _)) ?_) λj2 h2=>?_
 .refine IT (λx1=>W7 (thr (Xju hN hx _ _ _ _)) ?_) λj h=>?_
  .refine IT (λx1=>W7 (thr (Xjv hN hx _ _ _)) ?_) λj h=>?_
   .refine IT (λx1=>W7 (thr (Xgg hN hx _ _)) ?_) λj h=>?_
    .refine IT (λx1=>W7 (thr (Xhl hN hx _ _)) ?_) λj h=>?_
     .refine IT (λx1=>W7 (thr (Xhm hN hx _ _)) ?_) λj h=>?_
      .refine IT (λx1=>W7 (thr (Xlx hN hx _ _)) (XD _)) λj h=>W7 (h _) (h _)
      exact W7 (h _) (h _)
     exact W7 (h _) (IT (λx1=>h _) λj h=>W7 (h _) (h _))
    grind
   exact W7 (h _) (IT (λx1=>h _) λj h=>W7 (h _) (IT (λx1=>h _) λj h=>W7 (h _) (h _)))
  exact W7 (h _) (IT (λx1=>h _) λj h=>W7 (h _) (IT (λx1=>h _) λj h=>W7 (h _) (h _)))
 exact W7 (h2 _) (IT (λx1=>h2 _) λj h=>W7 (h _) (h _))
end
structure WB(k:Nat)(w:WV):Prop where
 kk:k<=900
 things:w.T.length<=k
 fields:∀x∈w.T,x.D.length<=1000
 loc:LBp w.l
 gloK:w.g.e.length<=1000+k
 weaK:w.v.e.length<=1000+k
 marksK:w.m.length<=100+k
 rootsK:w.R.length<=100+k
def WB.glo{k:Nat}{w:WV}(h:WB k w):TB w.g:=by have:=h.kk;have:=h.gloK;unfold TB;omega
def WB.wea{k:Nat}{w:WV}(h:WB k w):TB w.v:=by have:=h.kk;have:=h.weaK;unfold TB;omega
def WB.marks{k:Nat}{w:WV}(h:WB k w):w.m.length<=1000:=by have:=h.kk;have:=h.marksK;omega
def WB.roots{k:Nat}{w:WV}(h:WB k w):w.R.length<=1000:=by have:=h.kk;have:=h.rootsK;omega
def Vp(d:Wy):Nat->List Int->List Int
 |_,[]=>[]
 |k,f::fs=>if Ji d k then f::Vp d (k+1) fs else Vp d (k+1) fs
def XdZ(x:Ib):List Int:=Vp x.H 0 x.D
def Xa0(d:Wy):∀(k:Nat)(l:List Int),(Vp d k l).length<=l.length
 |k,[]=>by simp[Vp]
 |k,f::fs=>by have:=Xa0 d (k+1) fs;unfold Vp;grind
def ZC(n:Nat)(l:List Int):Bool:=l.all λp=>!decide (p>(n:Int))
def Zt(l:List Il)(id:Int):Int:=match l.findIdx? (λm=>m.I==id)with|some k=>(k:Int)|none=>-1
def XcJ(n:Nat)(x:Ib):Bool:=XI x.H&&(!(x.H.k==0)&&(!((x.D.length:Int) != x.H.n)&&ZC n (XdZ x)))
def Xiq(n:Nat)(l:List Il)(_:Unit)(i:Nat)(m:Il):Bool:=!decide (m.I<1)&&(!decide (m.I>(n:Int))&&(!(Zt l m.I != (i:Int))&&(!decide (m.M<1)&&!decide (m.M>1000))))
def XeT(n:Nat)(l:List Il):Bool:=Zq (Xiq n l) (λs _=>s) () 0 l
def YG(w:WV):Bool:=X6 w.c&&(Y3 w.l&&(YZ w.g.e&&(YZ w.v.e&&(!decide ((w.m.length:Int)>64)&&(w.T.all (XcJ w.T.length)&&(((XT w.g.e).all λp=>!(p==0))&&(XeT w.T.length w.m&&(ZC w.T.length w.R&&(ZC w.T.length (X8 w.l.S)&&(ZC w.T.length (XT w.g.e)&&ZC w.T.length (XT w.v.e)))))))))))
section
variable {N:Nat}{w:WV}
def JB(ht:w.T.length<=1000){l:List Int}(hl:l.length<=1000000)(hN:1000000<N):Qc8 N w l=some (ZC w.T.length l):=by
 have h:=K8 (l:=l) (F:=Qc7 N w l) (q:=λ_ p=>!decide (p>(w.T.length:Int))) (λn k p e=>by
  have hk:=XC e
  rw[Qc7,Xk hk,Wb,Xe,e,Xa,Xf aa,Xx aa aa]
  cases decide (p>(w.T.length:Int))<;>rfl) (λn=>by rw[Qc7,Xw,Wa]) (n:=N) aa
 rw[ZL]at h;rw[Qc8,h,Xa,ZC];cases l.all λp=>!decide (p>(w.T.length:Int))
 .rw[Wa,XA]
 simp[Wb,Xm]
def XcK{x:Ib}(hl:x.D.length<=1000000):∀(n k:Nat)(v:List Int),k<=x.D.length->x.D.length-k<n->v.length<=k->QdX N x n (k:Int) v=some (v++Vp x.H k (x.D.drop k))
 |0,k,v,_,hn,_=>by omega
 |n+1,k,v,hk,hn,hlv=>by
  rw[QdX];by_cases h:k<x.D.length
  .rw[Xk h,Wb,VD,Xa,Xf aa,Wr h,Vp];cases hp:Ji x.H (k:Int)
   .rw[Wa,Wn ab,XcK hl n (k+1) v aa aa aa]
   rw[Wb,Wq rfl,Xe,Wc h,Xa,Xc aa,XcK hl n (k+1) _ aa aa (by simp_all)];simp
  obtain rfl:k=x.D.length:=aa;simp[Vp]
def Xgh{x:Ib}(hl:x.D.length<=1000000)(hN:1000000<N):Qgr N x=some (XdZ x):=by have h:=XcK (N:=N) (x:=x) hl N 0 [] aa aa ab;rw[show((0:Nat):Int)=0 from rfl,WX,Uh]at h;rw[Qgr,h,Xa];rfl
def Xir(id:Int)(hl:w.m.length<=1000000):∀(n k:Nat),k<=w.m.length->w.m.length-k<n->QeK N w id n (k:Int)=some (match (w.m.drop k).findIdx? (λm=>m.I==id)with|some j=>.ret ((k+j:Nat):Int)|none=>.nxt ())
 |0,k,_,hn=>by omega
 |n+1,k,hk,hn=>by
  rw[QeK];by_cases h:k<w.m.length
  .rw[Xk h,Wb,Xe,Wc h,Xa,Xf aa,Wr h,List.findIdx?_cons];cases hm:(w.m[k].I==id)
   .rw[Wa,Xir id hl n (k+1) aa aa,Wn ab];cases (w.m.drop (k+1)).findIdx? (λm=>m.I==id)with
    |none=>rfl
    |some j=>simp only[IF];rw[show k+1+j=k+(j+1) by omega]
   simp
  grind
def XeU(hl:w.m.length<=1000000)(hN:1000000<N)(id:Int):QfG N w id=some (Zt w.m id):=by
 have h:=Xir (N:=N) id hl N 0 aa aa;rw[show((0:Nat):Int)=0 from rfl,WX]at h;rw[QfG,h,Xa,Zt];cases w.m.findIdx? (λm=>m.I==id)with
 |none=>simp[Xm]
 |some j=>simp[XA,Uy]
def Xgi{a:Ww}(h:Y3 a=true):(X8 a.S).length<=4096:=by have hf:=Zj.1 h;have:=hf.slots;have:=hf.iss;have:=XaW a.S;omega
def Xax{l:List W8}(h:YZ l=true):(XT l).length<=64:=by have:=Vl h;have:=VF l;omega
def XbU{k:Nat}(hw:WB k w)(hN:1000000<N):Qel N w=some (YG w):=by
 have hk:=hw.kk;have ht:=hw.things;have hm:=hw.marks;have hr:=hw.roots;rw[Qel,Y1,Xa,YG];cases X6 w.c
 .rfl
 rw[Wo,Wa,ZB hw.loc hN,Xa,W3];cases hv1:Y3 w.l
 .rfl
 rw[Wo,Wa,Zd hw.glo hN,Xa,W3];cases hv2:YZ w.g.e
 .rfl
 rw[Wo,Wa,Zd hw.wea hN,Xa,W3];cases hv3:YZ w.v.e
 .rfl
 rw[Wo,Wa,W3];cases decide ((w.m.length:Int)>64);rotate_left
 .rfl
 rw[Wa,Uf,W3];have h1:=K8 (l:=w.T) (F:=Qdn N w) (q:=λ_=>XcJ w.T.length) (λn k p e=>by
  have hk:=XC e
  have hpf:=hw.fields p (Ui e)
  have hrl:=Xa0 p.H 0 p.D
  rw[Qdn,Xk hk,Wb,Xe,e,Xa,Y8,Xa,Xgh aa hN,Xa,JB aa (by unfold XdZ;omega) hN,Xa,Xf aa]
  unfold XcJ
  grind) (λn=>by rw[Qdn,Xw,Wa]) (n:=N) aa
 rw[ZL]at h1;rw[h1,Xa];cases w.T.all (XcJ w.T.length)
 .simp[Wa,XA]
 rw[Wb,Xm,Yk hw.glo hN,Xa,hv2,Wb,W3];have g64:=Xax hv2;have h2:=K8 (l:=XT w.g.e) (F:=Qdo N w (XT w.g.e)) (q:=λ_ p=>!(p==0)) (λn k p e=>by
  have hk:=XC e
  rw[Qdo,Xc aa,Xk hk,Wb,Xe,e,Xa,Xf aa]
  simp) (λn=>by rw[Qdo,Xc aa,Xw,Wa]) (n:=N) aa
 rw[ZL]at h2;rw[h2,Xa];cases (XT w.g.e).all λp=>!(p==0)
 .simp[Wa,XA]
 rw[Wb,Xm,W3];have h3:=K8 (l:=w.m) (F:=Qdp N w (XT w.g.e)) (q:=Xiq w.T.length w.m ()) (λn k p e=>by
  have hk:=XC e
  rw[Qdp,Xk hk,Wb,Xe,e,Xa,XeU aa hN,Xa,Xf aa,Xx aa aa]
  unfold Xiq
  grind) (λn=>by rw[Qdp,Xw,Wa]) (n:=N) aa
 rw[h3,Xa];show exK (bif XeT w.T.length w.m then Ex.nxt ()else Ex.ret false) _ _=_;cases XeT w.T.length w.m
 .simp[Wa,XA]
 rw[Wb,Xm,JB aa aa hN,Xa,W3];cases ZC w.T.length w.R
 .rfl
 have s1:=Xgi hv1;rw[Wb,Zk hw.loc hN,Xa,hv1,Wb,JB aa aa hN,Xa,W3];cases ZC w.T.length (X8 w.l.S)
 .rfl
 rw[Wb,JB aa aa hN,Xa,W3];cases ZC w.T.length (XT w.g.e)
 .rfl
 have s3:=Xax hv3;rw[Wb,Yk hw.wea hN,Xa,hv3,Wb,JB aa aa hN,Xa,W3]
end
def J4(v:Int):IA×Int:=
 if v=0 then(⟨0,0,0⟩,5)else if 1<=v % 4/\1<=v / 262144/\v / 262144<=4294967295 then(⟨v % 4,v / 4 % 65536,v / 262144⟩,0)else(⟨0,0,0⟩,6)
def Xlz{N:Nat}{v:Int}(hv:tU v):QcA N v=some (J4 v):=by
 have⟨h0,h1⟩:=hv;rw[QcA,J4];by_cases hz:v=0
 .simp_all
 rw[show(v==0)=false by simp_all,Wa,Wn hz];have a1:Zc .u64 v 3=v % 4:=YR v 2 aa h0 h1;have a2:YA .u64 v 2=v / 4:=YQ v 2 aa h0;have a3:Zc .u64 (v / 4) 65535=v / 4 % 65536:=YR (v / 4) 16 aa aa aa;have a4:YA .u64 v 18=v / 262144:=YQ v 18 aa h0;rw[a2,a1,a3,a4,Xd (n:=v % 4) aa aa,Xd (n:=v / 4 % 65536) aa aa,Xd (n:=v / 262144) aa aa,Qb1,QhA];have s1:∀x:Int,ZQ .u64 x 2=wU (x*4):=λ_=>rfl;have s2:∀x:Int,ZQ .u64 x 18=wU (x*262144):=λ_=>rfl;rw[Wg (show v / 4 % 65536>=0 by omega),Wg (show v / 4 % 65536<=65535 by omega),Wg (show v % 4<=3 by omega)];simp only[Wb];by_cases g1:v % 4>=1
 .rw[Wg g1,Wb];by_cases g2:v / 262144>=1
  .rw[Wg g2,Wb,Xa];by_cases g3:v / 262144<=4294967295
   .rw[Wg g3,Wo,Wa,Xa,Wq ⟨g1,g2,g3⟩];have e:wU (wU (wU (v % 4)+ZQ .u64 (wU (v / 4 % 65536)) 2)+ZQ .u64 (wU (v / 262144)) 18)=v:=by rw[s1,s2,Xx (n:=v % 4) aa aa,Xx (n:=v / 4 % 65536) aa aa,Xx (n:=v / 262144) aa aa,Xx (n:=v / 4 % 65536*4) aa aa,Xx (n:=v / 262144*262144) aa aa,Xx (n:=v % 4+v / 4 % 65536*4) aa aa,Xx aa aa];omega
    simp_all
   rw[Wh g3,Uf,Wb,Xa,Wn (λh=>g3 h.2.2)];rfl
  rw[Wh g2,Wa,Xa,Uf,Wb,Xa,Wn (λh=>g2 h.2.1)];rfl
 rw[Wh g1,Wa,Xa,Uf,Wb,Xa,Wn (λh=>g1 h.1)];rfl
def ZS(w:WV)(v:Int):Int×Int:=
 if v=0 then(0,0)else if(J4 v).2≠0 then(0,(J4 v).2)else
 if(J4 v).1.Tag=1 then ZJ w.l (J4 v).1.Index (J4 v).1.J else
 if(J4 v).1.Tag=2 then Zu w.g.e (J4 v).1.Index (J4 v).1.J else Zu w.v.e (J4 v).1.Index (J4 v).1.J
def XM(w:WV)(a:Int):Int×Int:=if(ZS w a).2=0/\(ZS w a).1=0 then(0,5)else ZS w a
structure WF(w:WV):Prop where
 conf:X6 w.c=true
 loc:Y3 w.l=true
 glo:YZ w.g.e=true
 wea:YZ w.v.e=true
 m64:w.m.length<=64
 thing:∀x∈w.T,XI x.H=true/\x.H.k≠0/\(x.D.length:Int)=x.H.n/\∀r∈XdZ x,r<=w.T.length
 mark:XeT w.T.length w.m=true
 roots:∀r∈w.R,r<=w.T.length
 rloc:∀r∈X8 w.l.S,r<=w.T.length
 rglo:∀r∈XT w.g.e,r<=w.T.length
 rwea:∀r∈XT w.v.e,r<=w.T.length
def K0{n:Nat}{l:List Int}:ZC n l=true↔∀r∈l,r<=n:=by unfold ZC;simp
def KO{w:WV}(h:YG w=true):WF w:=by unfold YG at h;simp only[W6,IL,Iy]at h;have⟨h1,h2,h3,h4,h5,h6,h7,h8,h9,h10,h11,h12⟩:=h;refine⟨h1,h2,h3,h4,aa,λx hx=>?_,h8,K0.1 h9,K0.1 h10,K0.1 h11,K0.1 h12⟩;have:=(Ud.1 h6) x hx;unfold XcJ at this;simp at this;exact⟨this.1,this.2.1,this.2.2.1,K0.1 this.2.2.2⟩
def WF.mk_{w:WV}(h:WF w){k:Nat}{m:Il}(hm:w.m[k]? = some m):1<=m.I/\m.I<=w.T.length/\1<=m.M/\m.M<=1000:=by have:=(K9 w.m () 0).1 h.mark k m hm;unfold Xiq at this;simp_all
def Xjw{l:List UM}{p:UM}(hp:p∈l)(hL:p.V=true):p.a∈X8 l:=by unfold X8;grind
def Xjx{l:List W8}{p:W8}(hp:p∈l)(hL:p.V=true):p.a∈XT l:=by unfold XT;grind
def Xhn(a:Ww)(i g:Int):(ZJ a i g).2=0\/(ZJ a i g).1=0:=by
 unfold ZJ;split
 .exact .inr rfl
 split
 .exact .inr rfl
 split
 .exact .inr rfl
 split
 .exact .inr rfl
 split
 .exact .inr rfl
 split
 .exact .inr rfl
 split
 .exact .inl rfl
 omega
def Xho(l:List W8)(i g:Int):(Zu l i g).2=0\/(Zu l i g).1=0:=by unfold Zu;grind
def Xn5{w:WV}(h:WF w)(v:Int):(ZS w v).1<=w.T.length:=by
 have g:∀i g,(ZJ w.l i g).1<=w.T.length:=by
  intro i g;by_cases he:(ZJ w.l i g).2=0
  .have⟨_,_,p,hp,_,hL,e⟩:=XdV he;rw[e];exact h.rloc _ (Xjw (Ui hp) hL)
  have:=(Xhn w.l i g).resolve_left he;omega
 have t:∀(t:WE),(∀r∈XT t.e,r<=w.T.length)->∀i g,(Zu t.e i g).1<=w.T.length:=by
  intro t ht i g;by_cases he:(Zu t.e i g).2=0
  .have⟨_,_,p,hp,_,hL,e⟩:=XdW he;rw[e];exact ht _ (Xjx (Ui hp) hL)
  have:=(Xho t.e i g).resolve_left he;omega
 unfold ZS;split
 .simp
 split
 .simp
 split
 .simp_all
 split
 .exact t _ h.rglo _ _
 exact t _ h.rwea _ _
section
variable {N:Nat}{w:WV}{k:Nat}
def Jj(hw:WB k w)(hN:1000000<N)(hv:YG w=true){v:Int}(tv:tU v):QaI N w v=some (ZS w v):=by
 rw[QaI,XbU hw hN,Xa,hv,Wo,Wa,ZS];by_cases hz:v=0
 .rw[Wq hz,hz];rfl
 rw[Wn hz,show(v==0)=false by simpa using hz,Wa,Xlz tv,Xa];by_cases he:(J4 v).2=0
 .rw[he,show((0:Int) != 0)=false from rfl,Wa,Wn ab];by_cases h1:(J4 v).1.Tag=1
  .rw[Wq h1,h1,show((1:Int)==1)=true from rfl,Wb,XeQ hw.loc hN,Xa]
  rw[Wn h1,show((J4 v).1.Tag==1)=false by simpa using h1,Wa];by_cases h2:(J4 v).1.Tag=2
  .rw[Wq h2,h2,show((2:Int)==2)=true from rfl,Wb,Xau hw.glo hN,Xa]
  rw[Wn h2,show((J4 v).1.Tag==2)=false by simpa using h2,Wa,Xau hw.wea hN,Xa]
 grind
def Xay(hw:WB k w)(hN:1000000<N)(hv:YG w=true){v:Int}(tv:tU v):Qes N w v=some (XM w v):=by rw[Qes,Jj hw hN hv tv,Xa,XM];grind
end
def zTh:Ib:=⟨⟨0,0,0⟩,[]⟩
def thg(w:WV)(id:Int):Ib:=w.T.getD (id-1).toNat zTh
def Jk(a:Ww)(id:Int):Int:=if id=0 then 0 else(V8 a id).2.2.2
def okW(op a b:Int):Prop:=a<=2147483647/\(op=1->b<=4294967295)
instance(op a b:Int):Decidable (okW op a b):=by unfold okW;infer_instance
def hdW(op a b:Int):Wy:=⟨op,a,if op=1 then b else 0⟩
def Xd0(c:WT)(d:Wy):Bool:=XI d&&(d.k != 0&&Xy c (Xz d) != -1)
def Xaz(w:WV)(op a b:Int)(failed:Bool):Int:=
 if w.m.length>0 then 15 else if¬okW op a b then 1 else if Xd0 w.c (hdW op a b)=false then 1 else
 if Jk w.l 1≠0 then Jk w.l 1 else if failed then 3 else 0
def XcL(op:Int):Bool:=op==8||op==9
def XbV(w:WV)(op a b c:Int):Int:=
 if(XM w a).2≠0 then(XM w a).2 else if b>=(thg w (XM w a).1).H.n then 2 else
 if Ji (thg w (XM w a).1).H b≠XcL op then 4 else
 if op=8 then Jk w.l ((thg w (XM w a).1).D.getD b.toNat 0)else if op=9 then(ZS w c).2 else 0
def XcM(w:WV)(op a:Int):Int:=
 if a=0 then 5 else if(ZS w a).2≠0 then(ZS w a).2 else
 if(J4 a).1.Tag≠(if op=16 then 3 else if op=14 then 2 else 1)then 4 else 0
def Xhp(w:WV)(op a:Int):Int:=
 if(XM w a).2≠0 then(XM w a).2 else(Vn (if op=15 then w.v else w.g) (XM w a).1).2.2.2
def XeV(w:WV)(op a:Int):Int:=
 if op=17 then(if a>64 then 1 else(JQ w.l a).2)else
 if(ZS w a).2≠0 then(ZS w a).2 else if(ZY w.l).2≠0 then(ZY w.l).2 else Jk (ZY w.l).1 (ZS w a).1
def Xgj(l:List Il)(i:Int):Il:=l.getD i.toNat ⟨0,0,0⟩
def Xis(w:WV)(op a:Int)(failed:Bool):Int:=
 if(XM w a).2≠0 then(XM w a).2 else
 if op=20 then(if Zt w.m (XM w a).1<0 then 12 else 0)else
 if 0<=Zt w.m (XM w a).1/\(Xgj w.m (Zt w.m (XM w a).1)).M=1000 then 18 else
 if Zt w.m (XM w a).1<0/\w.m.length=64 then 18 else if failed then 18 else 0
def XcN(w:WV)(op a b:Int):Int:=
 if op=4\/op=5 then(XM w a).2 else if(ZS w a).2≠0 then(ZS w a).2 else
 if op=10 then(ZS w b).2 else Jk w.l (ZS w a).1
def XlA(w:WV)(op a b c:Int)(failed:Bool):Int:=
 if YG w=false then 19 else
 if op=1\/op=2\/op=3 then Xaz w op a b failed else
 if op=6\/op=7\/op=8\/op=9 then XbV w op a b c else
 if op=12\/op=14\/op=16 then XcM w op a else
 if op=13\/op=15 then Xhp w op a else
 if op=17\/op=18 then XeV w op a else
 if op=19\/op=20 then Xis w op a failed else
 if op=4\/op=5\/op=10\/op=11 then XcN w op a b else 1
def XG{a b:Int}(h:¬a=b):(a==b)=false:=by simp_all
def XN{a b:Int}(h:a=b):(a==b)=true:=by simp_all
def ZN{a b:Int}(h:a=b):(a != b)=false:=by simp_all
def X2{a b:Int}(h:¬a=b):(a != b)=true:=by simp_all
section
variable {N:Nat}{w:WV}{k:Nat}
def Xn6(hw:WB k w)(hv:YG w=true)(tw:XZ w){v:Int}(tv:tU v):tU (ZS w v).1:=by have:=QfN (N:=1000001) tw tv;exact this _ (Jj (N:=1000001) hw aa hv tv)
def Xd1(hw:WB k w)(hv:YG w=true)(tw:XZ w){v:Int}(tv:tU v)(h:(XM w v).2=0):1<=(XM w v).1/\(XM w v).1<=w.T.length/\XM w v=ZS w v:=by
 have h1:=Xn6 hw hv tw tv;have h2:=Xn5 (KO hv) v;unfold XM at h⊢;by_cases hc:(ZS w v).2=0/\(ZS w v).1=0
 .simp_all
 rw[Wn hc]at h⊢;unfold tU at h1;grind
def Jd(hw:WB k w){id:Int}(h1:1<=id)(h2:id<=w.T.length):Xb w.T (wU (id-1))=some (thg w id)/\thg w id∈w.T:=by
 have hk:=hw.kk;have ht:=hw.things;have e:=Wc (show(id-1).toNat<w.T.length by omega);have e2:thg w id=w.T[(id-1).toNat]'aa:=by unfold thg;rw[Wp,e];rfl
 rw[Xx aa aa,Yj aa aa,e2];simp
def JS(hl:LBp w.l)(hN:1000000<N)(id:Int):Qc3 N w.l id=some (Jk w.l id):=by
 rw[Qc3,Jk];by_cases h:id=0
 .rw[Wq h,h];rfl
 simp[Wn,h,XG,Wa,Xav,hl,hN,Xa]
def Xgk{a:Ww}(hl:LBp a)(hN:1000000<N)(id:Int):Qc3 N a id=some (Jk a id):=JS (w:=⟨⟨0,0⟩,[],a,zT,zT,[],[]⟩) hl hN id
def Xgl(op:Int){a b:Int}(ta:tU a)(tb:tU b):∃d,Qcy N op a b=some (d,decide (okW op a b))/\(okW op a b->d=hdW op a b):=by
 unfold tU at ta tb;have hmask:a<=2147483647->wI (Zc .u64 a 2147483647)=a:=λh=>by have:Zc .u64 a 2147483647=a % 2147483648:=YR a 31 aa ta.1 ta.2;rw[this,Xd aa aa];omega
 rw[Qcy];by_cases h1:op=1
 .rw[XN h1,Wb];by_cases h2:a<=2147483647
  .rw[Wg h2,Wb];refine⟨⟨op,wI (Zc .u64 a 2147483647),wW b⟩,?_,λh=>?_⟩
   .exact congrArg (λx=>some (_,x)) (decide_eq_decide.2 ⟨λh=>⟨h2,λ_=>h⟩,λh=>h.2 h1⟩)
   rw[hmask h2,Xpc aa (by have:=h.2 h1;omega),hdW,Wq h1]
  rw[Wh h2,Wa];refine⟨⟨op,wI (Zc .u64 a 2147483647),wW b⟩,?_,λh=>absurd h.1 h2⟩;rw[Wh (show¬okW op a b fromλh=>h2 h.1)]
 rw[XG h1,Wa];refine⟨⟨op,wI (Zc .u64 a 2147483647),0⟩,?_,λh=>?_⟩
 .exact congrArg (λx=>some (_,x)) (decide_eq_decide.2 ⟨λh=>⟨h,λe=>absurd e h1⟩,λh=>h.1⟩)
 rw[hmask h.1,hdW,Wn h1]
def Xn7(hN:10<=N)(c:WT)(d:Wy):Qcf N c d=some (Xd0 c d):=by rw[Qcf,Y8,Xa,Xd0,X1,Xa,Zp hN,Xa];grind
def Xhq(hw:WB k w)(hN:1000000<N)(op:Int){a b:Int}(ta:tU a)(tb:tU b)(f:Bool):QfR N w op a b f=some (Xaz w op a b f):=by
 have⟨d,hd,hd2⟩:=Xgl (N:=N) op ta tb;rw[QfR,Xaz];by_cases h0:w.m.length>0
 .rw[Wg (show(w.m.length:Int)>0 by omega),Wb,Wq h0]
 rw[Wh (show¬(w.m.length:Int)>0 by omega),Wa,Wn h0,hd,Xa];by_cases h1:okW op a b
 .rw[Wg h1,Wo,Wa,Wn (by simpa using h1),Xn7 aa,Xa,hd2 h1];cases hA:Xd0 w.c (hdW op a b)
  .rfl
  rw[Wo,Wa,Wn ab,JS hw.loc hN,Xa];by_cases hL:Jk w.l 1=0
  .rw[ZN hL,Wa,Wn (by simpa using hL)];cases f<;>rfl
  rw[X2 hL,Wb,Wq hL]
 simp_all
def Xjy(hw:WB k w)(hN:1000000<N)(hv:YG w=true)(tw:XZ w)(op:Int){a b c:Int}(ta:tU a)(tb:tU b)(tc:tU c):Qgf N w op a b c=some (XbV w op a b c):=by
 rw[Qgf,Xay hw hN hv ta,Xa,XbV];by_cases he:(XM w a).2=0;rotate_left
 .grind
 have⟨i1,i2,_⟩:=Xd1 hw hv tw ta he;have⟨g1,g2⟩:=Jd hw i1 i2;have⟨v1,v2,v3,v4⟩:=(KO hv).thing _ g2;have vb:=XL v1;unfold tU at tb;rw[ZN he,Wa,Wn aa,g1,Xa,Xx (n:=(thg w (XM w a).1).H.n) aa aa];by_cases h1:b>=(thg w (XM w a).1).H.n
 .simp_all
 rw[Wh h1,Wa,Wn h1,Xd (n:=b) aa aa];have key:∀x:Bool,x=XcL op->(bnd (Qb9 N (thg w (XM w a).1).H b) λy4=>
  bif (!(y4==x))then some 4
  else bif (op==8)then(bnd (Xb (thg w (XM w a).1).D b) λp5=>
   bnd (Qc3 N w.l p5) λy6=>
   some y6)
  else bif (op==9)then(bnd (QaI N w c) λy7=>
   some y7.2)
  else some (XM w a).2)=some (if Ji (thg w (XM w a).1).H b≠XcL op then 4 else
 if op=8 then Jk w.l ((thg w (XM w a).1).D.getD b.toNat 0)else if op=9 then(ZS w c).2 else 0):=by
  intro x hx
  subst hx
  rw[VD,Xa]
  by_cases h2:Ji (thg w (XM w a).1).H b=XcL op
  .rw[show(Ji (thg w (XM w a).1).H b==XcL op)=true by simpa using h2,Wo,Wa,Wn (by simpa using h2)]
   by_cases h3:op=8
   .rw[XN h3,Wb,Wq h3,Yj aa aa,Xa,JS hw.loc hN,Xa,Wp,Wc aa];rfl
   rw[XG h3,Wa,Wn h3]
   by_cases h4:op=9
   .rw[XN h4,Wb,Wq h4,Jj hw hN hv tc,Xa]
   grind
  .grind
 rw[XF];cases h8:(op==8)
 .have:=key (op==9) (by unfold XcL;rw[h8,U9]);grind
 have:=key true (by unfold XcL;rw[h8,Bool.true_or]);simp_all
def Xhr(hw:WB k w)(hN:1000000<N)(hv:YG w=true)(op:Int){a:Int}(ta:tU a):QfS N w op a=some (XcM w op a):=by
 rw[QfS,XcM];by_cases h0:a=0
 .rw[XN h0,Wb,Wq h0]
 rw[XG h0,Wa,Wn h0,Jj hw hN hv ta,Xa];by_cases h1:(ZS w a).2=0;rotate_left
 .rw[X2 h1,Wb,Wq h1]
 rw[ZN h1,Wa,Wn (by simpa using h1),Xlz ta,Xa,XF];grind
def XlB(hw:WB k w)(hN:1000000<N)(hv:YG w=true)(op:Int){a:Int}(ta:tU a):QgL N w op a=some (Xhp w op a):=by
 rw[QgL,Xay hw hN hv ta,Xa,Xhp];by_cases h1:(XM w a).2=0;rotate_left
 .rw[X2 h1,Wb,Wq h1]
 rw[ZN h1,Wa,Wn (by simpa using h1),XF];by_cases h2:op=15
 .rw[Wq h2,XN h2,Wb];show bnd (QcX N w.v (XM w a).1) _=_;rw[Jb hw.wea hN,Xa]
 simp[Wn,h2,XG,Wa,Jb,hw.glo,hN,Xa]
def Xjz(hw:WB k w)(hN:1000000<N)(hv:YG w=true)(op:Int){a:Int}(ta:tU a):Qgg N w op a=some (XeV w op a):=by
 rw[Qgg,XeV];by_cases h0:op=17
 .rw[XN h0,Wb,Wq h0];by_cases h1:a>64
  .simp_all
  unfold tU at ta;rw[Wh h1,Wa,Wn h1,Xd (n:=a) aa aa,Xaw hw.loc hN,Xa]
 rw[XG h0,Wa,Wn h0,Jj hw hN hv ta,Xa];by_cases h1:(ZS w a).2=0;rotate_left
 .grind
 rw[ZN h1,Wa,Wn aa,XbQ hw.loc hN,Xa];by_cases h2:(ZY w.l).2=0;rotate_left
 .grind
 rw[ZN h2,Wa,Wn aa,Xgk (XbR hw.loc) hN,Xa]
def Xa1{l:List Il}{id:Int}(h:0<=Zt l id):Zt l id<l.length/\Xb l (Zt l id)=some (Xgj l (Zt l id))/\(Xgj l (Zt l id)).I=id:=by
 unfold Zt at h⊢;cases e:l.findIdx? (λm=>m.I==id)with
 |none=>simp_all
 |some j=>have h2:=List.findIdx?_eq_some_iff_getElem.1 e;have⟨hj,hp,_⟩:=h2;simp_all[Xe,Xgj,Wp,Int.toNat_natCast,Wc,hj]
def XjA(hw:WB k w)(hN:1000000<N)(hv:YG w=true)(op:Int){a:Int}(ta:tU a)(f:Bool):Qhb N w op a f=some (Xis w op a f):=by
 have hm:=hw.marks;rw[Qhb,Xay hw hN hv ta,Xa,Xis];by_cases h1:(XM w a).2=0;rotate_left
 .rw[X2 h1,Wb,Wq h1]
 rw[ZN h1,Wa,Wn (by simpa using h1),XeU aa hN,Xa];by_cases h2:op=20
 .rw[XN h2,Wb,Wq h2];by_cases h3:Zt w.m (XM w a).1<0
  .rw[Wg h3,Wb,Wq h3]
  rw[Wh h3,Wa,Wn h3]
 rw[XG h2,Wa,Wn h2];by_cases h3:0<=Zt w.m (XM w a).1
 .have⟨m1,m2,m3⟩:=Xa1 h3;rw[Wg (show Zt w.m (XM w a).1>=0 from h3),Wb,m2,Xa,Wh (show¬Zt w.m (XM w a).1<0 by omega),Wa];rw[Wn (show¬(Zt w.m (XM w a).1<0/\w.m.length=64) by omega)];by_cases h4:(Xgj w.m (Zt w.m (XM w a).1)).M=1000
  .rw[XN h4,Wb,Wq ⟨h3,h4⟩]
  rw[XG h4,Wa,Wn (λh=>h4 h.2)];cases f<;>rfl
 grind
def XlC(hw:WB k w)(hN:1000000<N)(hv:YG w=true)(op:Int){a b:Int}(ta:tU a)(tb:tU b):QgM N w op a b=some (XcN w op a b):=by
 rw[QgM,XcN,XF,Xay hw hN hv ta,Xa];by_cases h4:op=4
 .rw[XN h4,Wb,Wq (.inl h4)]
 rw[XG h4,Wa];by_cases h5:op=5
 .rw[XN h5,Wb,Wq (.inr h5)]
 rw[XG h5,Wa,Wn aa,Jj hw hN hv ta,Xa];by_cases h1:(ZS w a).2=0;rotate_left
 .rw[X2 h1,Wb,Wq h1]
 rw[ZN h1,Wa,Wn (by simpa using h1)];by_cases h10:op=10
 .rw[XN h10,Wb,Wq h10,Jj hw hN hv tb,Xa]
 simp[XG,h10,Wa,Wn,JS,hw.loc,hN,Xa]
end
def Xpg{β:Type}(K:Bool->β)(c1 c2:Bool):(jn K λj=>bif c1 then j true else j c2)=K (c1||c2):=by grind[XF]
def b2(op a b:Int):(op==a||op==b)=decide (op=a\/op=b):=by grind
def bd(op a:Int)(p:Prop)[Decidable p]:(op==a||decide p)=decide (op=a\/p):=by grind
def Xrv{β:Type}{p:Prop}[Decidable p](x y:β):(bif decide p then x else y)=if p then x else y:=by simp
def Xn8{β:Type}(o:Option β):(bnd o λy=>some y)=o:=by
 cases o
 .exact Kr _
 exact Xa _ _
def Xn9{β:Type}{p:Prop}[Decidable p](x y:β):(if p then some x else some y)=some (if p then x else y):=by grind
section
variable {N:Nat}{w:WV}{k:Nat}
def Xp7(hw:WB k w)(hN:1000000<N)(tw:XZ w)(op:Int){a b c:Int}(ta:tU a)(tb:tU b)(tc:tU c)(f:Bool):QfT N w op a b c f=some (XlA w op a b c f):=by
 rw[QfT,XbU hw hN,Xa,XlA];cases hv:YG w
 .rfl
 rw[Wo,Wa,Wn ab];simp only[Xpg,Xn8,Xhq hw hN op ta tb f,Xjy hw hN hv tw op ta tb tc,Xhr hw hN hv op ta,XlB hw hN hv op ta,Xjz hw hN hv op ta,XjA hw hN hv op ta f,XlC hw hN hv op ta tb,b2,bd,Xrv,Xn9]
end
def Xa2(d:Wy):∀(k:Nat)(l:List Int),∀r∈Vp d k l,r∈l
 |k,[],r,h=>by assumption
 |k,f::fs,r,h=>by
  unfold Vp at h;split at h
  .rcases UY.1 h with h|h
   .simp_all
   exact Ul _ (Xa2 d (k+1) fs r h)
  exact Ul _ (Xa2 d (k+1) fs r h)
def zWo:WV:=⟨⟨0,0⟩,[],zL,zT,zT,[],[]⟩
def XlD{k:Nat}(hk:k<=900):WB k zWo:=⟨hk,by simp[zWo],λx hx=>by simp_all[zWo],ZA,by simp[zWo,zT],by simp[zWo,zT],by simp[zWo],by simp[zWo]⟩
section
variable {N:Nat}{w:WV}{k:Nat}
def XcO(hm:w.m.length<=1000):∀(n:Nat)(i:Int)(v:List Int),0<=i->i<=w.m.length->(w.m.length-i).toNat<n->v.length<=100000+i->(∀x∈v,0<=x/\x<=w.T.length)->(∀m∈w.m,0<=m.I/\m.I<=w.T.length)->Ok (QeW N w n i v) λr=>r.length<=v.length+(w.m.length-i)/\∀x∈r,0<=x/\x<=w.T.length
 |0,i,v,_,_,hn,_,_,_=>by omega
 |n+1,i,v,h0,hi,hn,hv,hx,hmm=>by
  refine Wm (λhc=>?_) λhc=>We ⟨aa,hx⟩;have hc:i<w.m.length:=Wu hc;rw[Xd (n:=i+1) aa aa];refine Ok.get h0 hc λp hp=>WS aa ?_;have hpm:=Yy hp;refine(XcO hm n (i+1) _ aa aa aa ah (λx hx'=>?_) hmm).mono λr hr=>⟨?_,hr.2⟩
  .rcases WG.1 hx' with h|h
   .exact hx x h
   rw[UK.1 h];exact hmm p hpm
  grind
def Xhs(hN:NB N)(hw:WB k w)(hv:YG w=true)(tw:XZ w):Ok (Qha N w) λr=>r.length<=10000/\∀x∈r,0<=x/\x<=w.T.length:=by
 have hN':=hN;unfold NB at hN';have hr:=hw.roots;have hm:=hw.marks;have wf:=KO hv;have⟨t1,t2,t3,t4,t5,t6⟩:=tw;have l1:=Xgi wf.loc;have l2:=Xax wf.glo;refine WS aa ?_;rw[Zk hw.loc aa,Xa,wf.loc,Wb];refine WS aa ?_;rw[Yk hw.glo aa,Xa,wf.glo,Wb];refine WS aa (WH (XcO hm N 0 _ aa aa aa ah (λx hx=>?_) λm hmm=>?_) λr _ h=>We ⟨?_,h.2⟩)
 .simp only[WG]at hx;rcases hx with(h|h)|h
  .exact⟨(t6 x h).1,wf.roots x h⟩
  .refine⟨?_,wf.rloc x h⟩;obtain⟨p,hp,rfl⟩:=UX.1 h;exact(t2 p (US.1 hp).1).1
  refine⟨?_,wf.rglo x h⟩;obtain⟨p,hp,rfl⟩:=UX.1 h;exact(t3 p (US.1 hp).1).1
 .have⟨i,hi,e⟩:=WN hmm;have:=wf.mk_ (k:=i) (m:=m) (by rw[Wc hi,e]);omega
 grind
def XaA(hN:NB N)(hw:WB k w)(hv:YG w=true)(tw:XZ w)(M:Nat)(hM:M<=2000000):∀(n:Nat)(i:Int)(v:List Bool)(q:List Int),0<=i->i<=q.length->(M-i).toNat<n->v.length=w.T.length->(∀x∈q,0<=x/\x<=w.T.length)->q.length+1000*v.countP (λb=>!b)<=M->Ok (QcM N w n i v q) λr=>r.length=w.T.length
 |0,i,v,q,_,_,hn,_,_,_=>by omega
 |n+1,i,v,q,h0,hi,hn,hl,hq,hm=>by
  have hN':=hN;unfold NB at hN';have hk:=hw.kk;have ht:=hw.things;refine WS aa (Wm (λhc=>?_) λ_=>We hl);have hc:i<q.length:=Wu hc;rw[Xd (n:=i+1) aa aa];refine Ok.get h0 hc λp hp=>?_;have same:∀p',Xb q i=some p'->p'=p:=λp' h=>WK (h.symm.trans hp);have hpq:=hq p (Yy hp);refine Wm (λ_=>XaA hN hw hv tw M hM n (i+1) v q aa aa aa hl hq hm) λhz=>?_;have hz:¬p=0:=by simpa using hz
  refine Ok.get h0 hc λp2 hp2=>?_;obtain rfl:=same p2 hp2;rw[Xx (n:=p2-1) aa aa];refine Ok.get aa aa λb hb=>Wm (λ_=>XaA hN hw hv tw M hM n (i+1) v q aa aa aa hl hq hm) λhbf=>?_;refine Ok.get h0 hc λp3 hp3=>?_;obtain rfl:=same p3 hp3;rw[Xx (n:=p3-1) aa aa];refine Ok.get aa aa λ_ _=>Ok.get h0 hc λp4 hp4=>?_;obtain rfl:=same p4 hp4;have⟨g1,g2⟩:=Jd hw (id:=p4) aa aa;have hf:=hw.fields _ g2;have⟨v1,v2,v3,v4⟩:=(KO hv).thing _ g2;have hrl:=Xa0 (thg w p4).H 0 (thg w p4).D;have hrl:(XdZ (thg w p4)).length<=1000:=by unfold XdZ;omega
  rw[g1,Xa,Xgh aa aa,Xa];have hlt:(p4-1).toNat<v.length:=aa;have hbv:v[(p4-1).toNat]=false:=by rw[Yj aa aa]at hb;rw[WK hb];exact hbf
  have hcount:(v.set (p4-1).toNat true).countP (λb=>!b)+1<=v.countP (λb=>!b):=by have hpos:0<v.countP (λb=>!b):=List.countP_pos_iff.2 ⟨v[(p4-1).toNat],WO _,by simp_all⟩;rw[List.countP_set hlt,hbv];simp;omega
  refine WS aa (XaA hN hw hv tw M hM n (i+1) _ _ aa (by rw[WQ];omega) aa (by simp_all) (λx hx=>?_) (by rw[WQ];omega));rcases WG.1 hx with h|h
  .simp_all
  refine⟨?_,v4 x h⟩;exact((tw.1 _ g2).2 x (Xa2 _ _ _ x h)).1
def Xht(hN:NB N)(hw:WB k w)(hv:YG w=true)(tw:XZ w):Ok (QfQ N w) λr=>r.length=w.T.length:=by have hN':=hN;unfold NB at hN';have hk:=hw.kk;have ht:=hw.things;rw[QfQ,XbU hw aa,Xa,hv,Wo,Wa];refine WS aa (WH (Xhs hN hw hv tw) λy _ hy=>WH (XaA hN hw hv tw 1100000 aa N 0 _ y aa aa aa (by rw[WU];omega) hy.2 ?_) λr _ hr=>We hr);grind[WU]
def XeW(y:List Bool)(hy:y.length=w.T.length)(hw:WB k w):∀(n:Nat)(i:Int)(v:List Int),0<=i->i<=v.length->(v.length-i).toNat<n->v.length<=1000->(∀x∈v,0<=x/\x<=w.T.length)->Ok (Qa3 N w y n i v) λr=>r.length=v.length
 |0,i,v,_,_,hn,_,_=>by omega
 |n+1,i,v,h0,hi,hn,hl,hx=>by
  have hk:=hw.kk;have ht:=hw.things;refine WS aa (Wm (λhc=>?_) λ_=>We rfl);have hc:i<v.length:=Wu hc;rw[Xd (n:=i+1) aa aa];have next:=XeW y hy hw n (i+1) v aa aa aa hl hx
  refine Ok.get h0 hc λp hp=>Wm (λhz=>Ok.get h0 hc λp2 hp2=>?_) λ_=>next
  obtain rfl:p=p2:=WK (hp.symm.trans hp2);have hpq:=hx p (Yy hp);have hz:¬p=0:=by simpa using hz
  rw[Xx (n:=p-1) aa aa];refine Ok.get aa aa λ_ _=>Wm (λ_=>Ok.get h0 hc λ_ _=>?_) λ_=>next
  refine(XeW y hy hw n (i+1) _ aa (by rw[WR];omega) (by rw[WR];omega) (by rw[WR];exact hl) λx hx'=>?_).mono λr hr=>by rw[hr,WR]
  grind
def Xbw(hN:NB N)(hw:WB k w)(tw:XZ w):Ok (Qdg N w) λr=>WB k r.1:=by
 have hN':=hN;unfold NB at hN';rw[Qdg,XbU hw aa,Xa];refine Wm (λ_=>We (XlD hw.kk)) λhv=>?_;have hv:YG w=true:=by simpa using hv
 have wf:=KO hv;have l3:=Xax wf.wea;refine WH (Xht hN hw hv tw) λy _ hy=>?_;rw[Yk hw.wea aa,Xa,wf.wea,Wb];refine WH (XeW y hy hw N 0 _ aa aa aa aa λx hx=>⟨?_,wf.rwea x hx⟩) λz _ hz=>WH (XdX hw.wea aa aa) λt _ ht=>We ⟨hw.kk,hw.things,hw.fields,hw.loc,hw.gloK,Um ht hw.weaK,hw.marksK,hw.rootsK⟩;obtain⟨p,hp,rfl⟩:=UX.1 hx;exact(tw.2.2.2.1 p (US.1 hp).1).1
end
def Oy{β κ:Type}{P:β->Prop}{k:κ->Option β}{f:(κ->Option β)->Option β}(Q:κ->Prop)(h:∀x,Q x->Ok (k x) P)(g:∀j:κ->Option β,(∀x,Q x->Ok (j x) P)->Ok (f j) P):Ok (Sx.jn k f) P:=by simp_all[XF]
section
variable {N:Nat}{w:WV}{k:Nat}
def VK(hw:WB k w)(hN:1000000<N)(id:Int):Ok (Qc4 N w id) λr=>WB k r.1:=by refine W7 (We hw) ?_;rw[Xav hw.loc hN,Xa];exact W5 (Zr _) λy _=>We ⟨hw.kk,hw.things,hw.fields,Xik hw.loc id,hw.gloK,hw.weaK,hw.marksK,hw.rootsK⟩
def Xit(hw:WB k w){id i v:Int}(h1:1<=id)(h2:id<=w.T.length)(i0:0<=i)(i1:i<(thg w id).D.length):Ok (Qfy N w id i v) λr=>WB k r:=by
 have hk:=hw.kk;have ht:=hw.things;have⟨g1,g2⟩:=Jd hw h1 h2;have hf:=hw.fields _ g2;rw[Qfy,Xc aa,g1,Xa,Xc aa];refine Ok.get i0 aa λ_ _=>?_;rw[Xa];refine We ⟨hw.kk,?_,λx hx=>?_,hw.loc,hw.gloK,hw.weaK,hw.marksK,hw.rootsK⟩
 .simp_all
 rcases Ux hx with h|h
 .exact hw.fields x h
 simp_all
def Xgm(hw:WB k w)(hN:1000000<N)(op id:Int):Ok (QeM N w op id) λr=>WB k r.1:=by
 refine U6 (W7 ?_ ?_)
 .rw[Jb hw.wea hN,Xa];exact W5 (Zr _) λy _=>We ⟨hw.kk,hw.things,hw.fields,hw.loc,hw.gloK,XcD hw.weaK id,hw.marksK,hw.rootsK⟩
 rw[Jb hw.glo hN,Xa];exact W5 (Zr _) λy _=>We ⟨hw.kk,hw.things,hw.fields,hw.loc,XcD hw.gloK id,hw.weaK,hw.marksK,hw.rootsK⟩
def Xhu(hw:WB k w)(hN:1000000<N)(v:Int):Ok (Qfq N w v) λr=>WB k r:=by
 refine W5 (XaY _) λy _=>W7 ?_ (W7 ?_ ?_)
 .rw[XeR hw.loc hN,Xa];exact We ⟨hw.kk,hw.things,hw.fields,Xil hw.loc _ _,hw.gloK,hw.weaK,hw.marksK,hw.rootsK⟩
 .rw[VG hw.glo hN,Xa];exact We ⟨hw.kk,hw.things,hw.fields,hw.loc,Xga hw.gloK _ _,hw.weaK,hw.marksK,hw.rootsK⟩
 rw[VG hw.wea hN,Xa];exact We ⟨hw.kk,hw.things,hw.fields,hw.loc,hw.gloK,Xga hw.weaK _ _,hw.marksK,hw.rootsK⟩
def XlE(hw:WB k w)(hN:1000000<N)(h64:w.m.length<=64)(op id b:Int)(h20:op=20->0<=Zt w.m id):Ok (QfI N w op id b) λr=>WB k r.1:=by
 have setM:∀l:List Il,l.length<=100+k->WB k ⟨w.c,w.T,w.l,w.g,w.v,l,w.R⟩:=λl hl=>⟨hw.kk,hw.things,hw.fields,hw.loc,hw.gloK,hw.weaK,hl,hw.rootsK⟩
 rw[QfI,Qhc,XeU aa hN,Xa,Xa];refine WS aa (Wm (λh=>?_) λ_=>Wm (λh=>?_) λh=>WS aa (We (setM _ (by grind))))
 .have h:=h20 (by simp_all);have⟨m1,_,_⟩:=Xa1 h;refine Ok.get h m1 λ_ _=>Ok.get h m1 λ_ _=>Ok.get h (by simp_all) λ_ _=>Wm (λ_=>?_) λ_=>We (setM _ (by grind));have e:=Xd (n:=Zt w.m id+1) aa aa;refine WS aa (WS aa (WS aa (We (setM _ ?_))));simp;omega
 have h:0<=Zt w.m id:=Wu h;have⟨m1,_,_⟩:=Xa1 h;exact Ok.get h m1 λ_ _=>Ok.get h m1 λ_ _=>Ok.get h (by simp_all) λ_ _=>We (setM _ (by grind))
def WB.up(hw:WB k w)(hk:k+1<=900):WB (k+1) w:=⟨hk,by have:=hw.things;omega,hw.fields,hw.loc,by have:=hw.gloK;omega,by have:=hw.weaK;omega,by have:=hw.marksK;omega,by have:=hw.rootsK;omega⟩
def XlF(hN:NB N)(hw:WB k w)(hk:k+1<=900)(tw:XZ w)(op:Int){a b c:Int}(ta:tU a)(tb:tU b)(tc:tU c)(ft:I6):Ok (QfJ N w op a b c ft) λr=>WB (k+1) r.1:=by
 have hN':=hN;unfold NB at hN';have hN1:1000000<N:=aa;have zero:WB (k+1) zWo:=XlD hk;rw[QfJ,Xp7 hw hN1 tw op ta tb tc,Xa];refine Wm (λ_=>We zero) λhz=>?_;have hz:XlA w op a b c ft.Failed=0:=by simpa using hz
 have hv:YG w=true:=by
  cases h:YG w
  .unfold XlA at hz;rw[h]at hz;cases hz
  rfl
 have wf:=KO hv;unfold XlA at hz;rw[hv,Wn ab]at hz;have thing:(XM w a).2=0->1<=(ZS w a).1/\(ZS w a).1<=w.T.length/\XM w a=ZS w a:=λh=>by obtain⟨t1,t2,t3⟩:=Xd1 hw hv tw ta h;rw[t3]at t1 t2;exact⟨t1,t2,t3⟩
 refine Oy (λx=>¬(op<=3\/op=17)->x=(ZS w a).1) (λx3 hx3=>?_) λj1 h1=>?_;rotate_left
 .refine Wm (λhg=>Wm (λh17=>?_) λh17=>h1 _ λh=>absurd (Or.inr (by simpa using h17)) h) λhg=>h1 _ λh=>absurd (Or.inl (by have:=WL hg;omega)) h;rw[Jj hw hN1 hv ta,Xa];exact h1 _ λ_=>rfl
 simp only[Xpg];refine Wm (λhc=>?_) λhc=>?_
 ·
  have hc:op=1\/op=2\/op=3:=by simpa using hc
  rw[Wq hc]at hz;obtain⟨d,hd,hd2⟩:=Xgl (N:=N) op ta tb;have hfac:okW op a b/\Xd0 w.c (hdW op a b)=true:=by
   unfold Xaz at hz;split at hz
   .cases hz
   split at hz
   .cases hz
   rename_i _ h2;split at hz
   .cases hz
   rename_i h3;exact⟨Classical.not_not.1 h2,by simpa using h3⟩
  have hdd:=hd2 hfac.1;have hvd:XI d=true:=by have:=hfac.2;unfold Xd0 at this;rw[W6]at this;rw[hdd];exact this.1
  have hb:=XL hvd;have main:∀w':WV,WB k w'->Ok (α:=WV×Int×Int) (bnd (Qcy N op a b) λy17=>
   grd (w'.T.length*48<=140737488355328) <|
   grd (0<=y17.1.n/\y17.1.n.toNat*8<=140737488355328) <|
   grd ((w'.T.length+1)*48<=140737488355328) <|
   grd ((w'.T.length+1)<=140737488355328) <|
   bnd (Qc4 N (WV.mk (WT.mk w'.c.W w'.c.p) (w'.T++[(Ib.mk y17.1 (List.replicate y17.1.n.toNat 0))]) (Ww.mk w'.l.S w'.l.x w'.l.i) (WE.mk w'.g.e) (WE.mk w'.v.e) w'.m w'.R) (wU (((w'.T.length+1):Nat):Int))) λy18=>
   some (y18.1,y18.2,0)) λr=>WB (k+1) r.1:=by
   intro w' hw'
   have ht:=hw'.things
   rw[hd,Xa]
   refine WS aa (WS (by constructor<;>simp only<;>omega) (WS aa (WS aa (W5 (VK (k:=k+1) (w:=⟨w'.c,w'.T++[⟨d,List.replicate d.n.toNat 0⟩],w'.l,w'.g,w'.v,w'.m,w'.R⟩) ⟨hk,?_,λx hx=>?_,hw'.loc,Iq hw'.gloK,Iq hw'.weaK,Iq hw'.marksK,Iq hw'.rootsK⟩ hN1 _) λy hy=>We hy))))
   .show(w'.T++[_]).length<=_;rw[WQ];simp;omega
   .rcases WG.1 hx with h|h
    .exact hw'.fields x h
    .rw[UK.1 h];show(List.replicate _ _).length<=_;rw[WU];omega
  refine U6 (Wm (λ_=>WH (Xbw hN hw tw) λy _ hy=>?_) λ_=>?_)
  .exact main y.1 hy
  exact main w hw
 have hn1:¬(op=1\/op=2\/op=3):=by simpa using hc
 rw[Wn hn1]at hz;have sw:∀v e:Int,Ok (α:=WV×Int×Int) (some (w,v,e)) λr=>WB (k+1) r.1:=λv e=>We (hw.up hk);have up:∀{w':WV},WB k w'->WB (k+1) w':=λh=>WB.up h hk;have pl:(op=4\/op=5\/op=10\/op=11)->XcN w op a b=0:=λh=>by rw[Wn aa,Wn aa,Wn aa,Wn aa,Wn aa,Wq h]at hz;exact hz
 have len:(op=4\/op=5)->1<=x3/\x3<=w.T.length:=λh=>by have h1:=pl aa;unfold XcN at h1;rw[Wq h]at h1;have:=thing h1;rw[hx3 aa];exact⟨this.1,this.2.1⟩
 have fld:(op=6\/op=7\/op=8\/op=9)->(1<=x3/\x3<=w.T.length)/\b<(thg w x3).D.length/\wI b=b:=λh=>by
  rw[Wq h]at hz;unfold XbV at hz;by_cases h1:(XM w a).2=0;rotate_left
  .rw[Wq h1]at hz;exact absurd hz h1
  rw[Wn (by simpa using h1)]at hz;obtain⟨t1,t2,t3⟩:=thing h1;have e:x3=(ZS w a).1:=hx3 aa;rw[t3,←e]at hz;rw[←e]at t1 t2;obtain⟨g1,g2⟩:=Jd hw t1 t2;obtain⟨v1,v2,v3,v4⟩:=wf.thing _ g2;have vb:=XL v1;by_cases h2:b>=(thg w x3).H.n
  .rw[Wq h2]at hz;cases hz
  have:=tb.1;exact⟨⟨t1,t2⟩,aa,Xd aa aa⟩
 refine Wm (λh4=>?_) λn4=>Wm (λh5=>?_) λn5=>Wm (λh6=>?_) λn6=>Wm (λh7=>?_) λn7=>Wm (λh8=>?_) λn8=>Wm (λh9=>?_) λn9=>Wm (λh10=>?_) λn10=>Wm (λh11=>?_) λn11=>?_
 .have h4:op=4:=by simpa using h4
  have:=len (.inl h4);rw[(Jd hw this.1 this.2).1,Xa];exact sw _ _
 .have h5:op=5:=by simpa using h5
  have:=len (.inr h5);rw[(Jd hw this.1 this.2).1,Xa];exact sw _ _
 .have h6:op=6:=by simpa using h6
  obtain⟨f1,f2,f3⟩:=fld aa;rw[(Jd hw f1.1 f1.2).1,Xa];exact Ok.get tb.1 f2 λ_ _=>sw _ _
 .have h7:op=7:=by simpa using h7
  obtain⟨f1,f2,f3⟩:=fld aa;rw[f3];exact W5 (Xit hw f1.1 f1.2 tb.1 f2) λy hy=>We (up hy)
 .have h8:op=8:=by simpa using h8
  obtain⟨f1,f2,f3⟩:=fld aa;rw[(Jd hw f1.1 f1.2).1,Xa];exact Ok.get tb.1 f2 λ_ _=>W5 (VK hw hN1 _) λy hy=>We (up hy)
 .have h9:op=9:=by simpa using h9
  obtain⟨f1,f2,f3⟩:=fld aa;rw[Jj hw hN1 hv tc,Xa,f3];exact W5 (Xit hw f1.1 f1.2 tb.1 f2) λy hy=>We (up hy)
 .rw[Jj hw hN1 hv tb,Xa];exact W7 (sw _ _) (sw _ _)
 .exact W5 (VK hw hN1 _) λy hy=>We (up hy)
 have n6:¬op=6:=by simpa using n6
 have n7:¬op=7:=by simpa using n7
 have n8:¬op=8:=by simpa using n8
 have n9:¬op=9:=by simpa using n9
 refine Wm (λ_=>W5 (Xgm hw hN1 _ _) λy hy=>We (up hy)) λnl=>?_;have nl:¬(op=13\/op=15):=by simpa using nl
 refine Wm (λ_=>W5 (Xhu hw hN1 _) λy hy=>We (up hy)) λnr=>?_;have nr:¬(op=12\/op=14\/op=16):=by simpa using nr
 refine Wm (λ_=>?_) λn17=>Wm (λ_=>?_) λn18=>?_
 .rw[Xaw hw.loc hN1,Xa];exact We (up ⟨hw.kk,hw.things,hw.fields,Xf8 hw.loc _,hw.gloK,hw.weaK,hw.marksK,hw.rootsK⟩)
 .rw[XbQ hw.loc hN1,Xa];exact W5 (VK (w:=⟨w.c,w.T,(ZY w.l).1,w.g,w.v,w.m,w.R⟩) ⟨hw.kk,hw.things,hw.fields,XbR hw.loc,hw.gloK,hw.weaK,hw.marksK,hw.rootsK⟩ hN1 _) λy hy=>We (up hy)
 have n17:¬op=17:=by simpa using n17
 have n18:¬op=18:=by simpa using n18
 rw[Wn aa,Wn aa,Wn aa,Wn aa]at hz;refine W5 (XlE hw hN1 wf.m64 op x3 _ λh20=>?_) λy hy=>We (up hy);unfold Xis at hz;grind
end
def Xiu{α:Type}{l:List α}{F:Nat->Int->Option (Ex Int Unit)}{p:α->Bool}(hl:l.length<=1000000)(hstep:∀(n k:Nat)(x:α),l[k]? = some x->F (n+1) (k:Int)=bif p x then some (.ret (k:Int))else F n ((k+1:Nat):Int))(hstop:∀n:Nat,F (n+1) (l.length:Int)=some (.nxt ())):∀(n k:Nat),k<=l.length->l.length-k<n->F n (k:Int)=some (match (l.drop k).findIdx? p with|some j=>.ret ((k+j:Nat):Int)|none=>.nxt ())
 |0,k,_,hn=>by omega
 |n+1,k,hk,hn=>by
  by_cases h:k<l.length
  .rw[hstep n k _ (Wc h),Wr h,List.findIdx?_cons];cases hp:p l[k]
   .rw[Wa,Xiu hl hstep hstop n (k+1) aa aa,Wn ab];cases (l.drop (k+1)).findIdx? p with
    |none=>rfl
    |some j=>simp only[IF];rw[show k+1+j=k+(j+1) by omega]
   simp
  grind
def VW{α:Type}(p:α->Bool)(l:List α):Int:=match l.findIdx? p with|some j=>(j:Int)|none=>-1
def Jl{α:Type}{l:List α}{F:Nat->Int->Option (Ex Int Unit)}{p:α->Bool}{N:Nat}(hl:l.length<=1000000)(hN:1000000<N)(hstep:∀(n k:Nat)(x:α),l[k]? = some x->F (n+1) (k:Int)=bif p x then some (.ret (k:Int))else F n ((k+1:Nat):Int))(hstop:∀n:Nat,F (n+1) (l.length:Int)=some (.nxt ())):(bnd (F N 0) λe=>exK e (λr=>some r) λ_=>some (-1))=some (VW p l):=by
 have h:=Xiu hl hstep hstop N 0 aa aa;rw[show((0:Nat):Int)=0 from rfl,WX]at h;rw[h,Xa,VW];cases l.findIdx? p with
 |none=>simp[Xm]
 |some j=>simp[XA,Uy]
def Ke{α:Type}(p:α->Bool)(l:List α):decide (VW p l>=0)=l.any p:=by unfold VW;grind
section
variable {N:Nat}
def Xoa(e:W8):QfU N e=some (!Xbv e):=by rw[QfU];unfold Xbv;grind
def XeX{α:Type}(p:α->Bool)(l:List α):(!l.any λx=>!p x)=l.all p:=by grind
def XaB{t:WE}(hl:TB t)(hN:1000000<N):Qet N t=some (YZ t.e):=by
 unfold TB at hl;rw[Qet,QaG,QaL];rw[Jl (p:=λe=>!Xbv e) hl hN (λn k x e=>by
  have hk:=XC e
  rw[Qak,Xk hk,Wb,Xe,e,Xa,Xoa,Xa,Xf aa]) (λn=>by rw[Qak,Xw,Wa])]
 rw[Xa,Xa,Ke,XeX,YZ,show decide ((t.e.length:Int)<=64)=decide (t.e.length<=64)from decide_eq_decide.2 aa];grind
def Xa3{t:WE}(hl:t.e.length<=1000000):∀(n k:Nat)(v:List Int),k<=t.e.length->t.e.length-k<n->v.length<=k ->
 QdZ N t n (k:Int) v=some (v++XT (t.e.drop k))
 |0,k,v,_,hn,_=>by omega
 |n+1,k,v,hk,hn,hlv=>by
  rw[QdZ];by_cases h:k<t.e.length
  .rw[Xk h,Wb,Xe,Wc h,Xa,Xf aa,Wr h,XT];cases hL:t.e[k].V
   .rw[Wa,Xa3 hl n (k+1) v aa aa aa,UQ (by simp_all)];rfl
   rw[Wb,Xc aa,Xa3 hl n (k+1) _ aa aa (by simp_all),Uw aa];simp[XT]
  obtain rfl:k=t.e.length:=aa;simp[XT]
def KP{t:WE}(hl:TB t)(hN:1000000<N):QdD N t=some (bif YZ t.e then XT t.e else[]):=by
 rw[QdD,XaB hl hN,Xa];cases hv:YZ t.e
 .rfl
 have h:=Xa3 (N:=N) (t:=t) hl N 0 [] aa (by unfold TB at hl;omega) ab;rw[show((0:Nat):Int)=0 from rfl,WX,Uh]at h;simp[Wo,Wa,h,Xa]
def XjB(x:Int):QfV N x=some (!(!decide (x<0)&&!decide (x>4095))):=by rw[QfV,show decide (x>=4096)=decide (x>4095)from decide_eq_decide.2 aa];cases decide (x<0)<;>cases decide (x>4095)<;>rfl
def Xd2{a:Ww}:∀(n:Nat)(s i:Int),QaX N ⟨a⟩ n s i=Qan N a n s i
 |0,s,i=>by rfl
 |n+1,s,i=>by rw[QaX,Qan];have e:∀s i,QaX N ⟨a⟩ n s i=Qan N a n s i:=Xd2 n;simp_all
def XcP{a:Ww}:∀(n:Nat)(s i:Int),Qa5 N ⟨a⟩ n s i=Qao N a n s i
 |0,s,i=>by rfl
 |n+1,s,i=>by rw[Qa5,Qao];have e:∀s i,Qa5 N ⟨a⟩ n s i=Qao N a n s i:=XcP n;grind
def XjC{a:Ww}(hl:LBp a)(hne:neB a.S.length a.x=true){k:Nat}{p:UU}(hp:a.x[k]? = some p):QdN N ⟨a⟩ (k:Int)=some ((a.S.drop p.O.toNat).take ((toL a k).toNat-p.O.toNat)):=by
 have hf:=Vm hne hp;have hk:=XC hp;have hl2:=hl.2.1;have hle:(IV.mk a).l.S.length=a.S.length:=rfl;rw[QdN,Xf aa,toL];by_cases h:k+1<a.x.length
 .have e2:=Wc h;have hf2:=Vm hne e2;have:=hf.2.2.2.2.2 _ e2;rw[Xk h,Wb,Xe,hp,Xa,Xe,e2,Xa,Xc aa]
 rw[show decide (((k+1:Nat):Int)<(a.x.length:Int))=false from Wh aa,Wa,Xe,hp,Xa,Xc aa,WY aa];simp[Uj,Wl]
def XcQ(l:List UM)(hl:l.length<=1000000):∀(n k c:Nat),k<=l.length->l.length-k<n->c<=k->QbE N l n (c:Int) (k:Int)=some (((c+(l.drop k).countP (·.V):Nat):Int))
 |0,k,c,_,hn,_=>by omega
 |n+1,k,c,hk,hn,hc=>by
  rw[QbE];by_cases h:k<l.length
  .rw[Xk h,Wb,Xe,Wc h,Xa,Xf aa,Xf aa,Wr h,List.countP_cons];cases hL:l[k].V
   .rw[Wa,XcQ l hl n (k+1) c aa aa aa];simp
   rw[Wb,XcQ l hl n (k+1) (c+1) aa aa aa];simp;omega
  grind
def XlG{a:Ww}(hl:LBp a)(hN:1000000<N)(hne:neB a.S.length a.x=true){k:Nat}{p:UU}(hp:a.x[k]? = some p):Qef N ⟨a⟩ (k:Int)=some ((Ja a.S p.O.toNat (toL a k).toNat:Nat):Int):=by
 have hl1:=hl.1;rw[Qef,XjC hl hne hp,Xa];have hlen:((a.S.drop p.O.toNat).take ((toL a k).toNat-p.O.toNat)).length<=1000000:=by rw[Wj,Wl];omega
 have h:=XcQ (N:=N) _ hlen N 0 0 aa aa aa;rw[show((0:Nat):Int)=0 from rfl,WX,Uy]at h;rw[h,Xa];rfl
def XcR{a:Ww}(hl:LBp a)(hN:1000000<N):Qe9 N a=some (Y3 a):=by
 have hl':=hl;have⟨hl1,hl2,hl3⟩:=hl;rw[Qe9,Qbn,QbJ];rw[Jl (p:=λx=>!(!decide (x<0)&&!decide (x>4095))) hl3 hN (λn k x e=>by
  have hk:=XC e
  rw[QaF,Xk hk,Wb,Xe,e,Xa,XjB,Xa,Xf aa]) (λn=>by rw[QaF,Xw,Wa])]
 have h2:=Jz (l:=a.S) (F:=λn s i=>Qao N a n s i) (q:=stQ a.i) (nxp:=λ_ p=>p.J) (I:=λs=>0<=s) (λn s k p hs e=>by
  have hk:=XC e
  show Qao N a (n+1) s (k:Int)=_
  rw[Qao,Xk hk,Wb,Xe,e,Xa,Xf aa]
  unfold stQ
  cases g1:decide (p.J<=s)
  .cases g2:decide (p.J>(a.i.length:Int))
   .have g1:=WL g1
    have g2:=WL g2
    rw[Wa,Wa,Xd aa aa,Yj aa aa,Xa]
    have ge:a.i[(p.J-1).toNat]'aa=a.i.getD (p.J-1).toNat 0:=by
     rw[Wp,Wc aa];rfl
    rw[ge]
    cases (a.i.getD (p.J-1).toNat 0 != (k:Int))<;>cases (p.V==(p.a != 0))<;>rfl
   .rfl
  .rfl) (λn s=>by show Qao N a (n+1) s _=_;rw[Qao,Xw,Wa]) (λs k p hs e hq=>by
   unfold stQ at hq
   simp only[W6,IL,Iy]at hq
   have:=hq.1
   omega) N 0 0 aa aa aa
 have h3:=Jz (l:=a.x) (F:=λn s i=>Qan N a n s i) (q:=neQ a.S.length) (nxp:=λ_ p=>p.O) (I:=λ_=>True) (λn s k p hs e=>by
  have hk:=XC e
  show Qan N a (n+1) s (k:Int)=_
  rw[Qan,Xk hk,Wb,Xe,e,Xa,Xf aa]
  unfold neQ
  cases ((k:Int)==0)<;>cases (p.O != 0)<;>cases p.B0<;>cases decide (p.O<s)<;>cases decide (p.O>(a.S.length:Int))<;>cases decide (p.C0<0)<;>cases decide (p.C0>64)<;>rfl) (λn s=>by show Qan N a (n+1) s _=_;rw[Qan,Xw,Wa]) (λ_ _ _ _ _ _=>trivial) N 0 0 trivial aa aa
 have e2:Qao N a N 0 0=some (bif stB a.i a.S then .nxt ()else .ret false):=h2;have e3:Qan N a N 0 0=some (bif neB a.S.length a.x then .nxt ()else .ret false):=h3;have en:Qdj N ⟨a⟩=some (!decide ((a.x.length:Int)>64)&&((!((a.x.length:Int)==0)||!decide ((a.S.length:Int)>0))&&neB a.S.length a.x)):=by rw[Qdj,XF,Xd2,e3,Xa];cases neB a.S.length a.x<;>cases decide ((a.x.length:Int)>64)<;>cases ((a.x.length:Int)==0)<;>cases decide ((a.S.length:Int)>0)<;>simp only[Wb,Wa,XA,Xm]<;>rfl
 have es:Qc9 N ⟨a⟩=some (stB a.i a.S):=by rw[Qc9,XcP,e2,Xa];cases stB a.i a.S<;>simp only[Wb,Wa,XA,Xm]
 rw[Xa,Xa,Ke,en,Xa,es,Xa,Y3,Xn4];have ea:(a.i.any λx=>!(!decide (x<0)&&!decide (x>4095))) = !(a.i.all λp=>!decide (p<0)&&!decide (p>4095)):=by rw[←XeX,Bool.not_not]
 rw[ea];cases decide ((a.i.length:Int)>4096);rotate_left
 .rfl
 cases (a.i.all λp=>!decide (p<0)&&!decide (p>4095))
 .cases decide ((a.x.length:Int)>64)<;>cases (!((a.x.length:Int)==0)||!decide ((a.S.length:Int)>0))<;>rfl
 cases decide ((a.x.length:Int)>64);rotate_left
 .rfl
 cases (!((a.x.length:Int)==0)||!decide ((a.S.length:Int)>0))
 .rfl
 cases hne:neB a.S.length a.x
 .cases stB a.i a.S<;>rfl
 cases stB a.i a.S
 .rfl
 simp;have h4:=K8 (l:=a.x) (F:=Qdr N a) (q:=Xlt a ()) (λn k p e=>by
  have hk:=XC e
  rw[Qdr,Xk hk,Wb,Xe,e,Xa,XlG hl' hN hne e,Xa,Xf aa]
  unfold Xlt
  cases decide (((Ja a.S p.O.toNat (toL a k).toNat:Nat):Int)>p.C0)<;>rfl) (λn=>by rw[Qdr,Xw,Wa]) (n:=N) aa
 rw[h4,Xa];show exK (bif Xhi a then Ex.nxt ()else Ex.ret false) _ _=_;cases Xhi a
 .rw[Wa,XA]
 simp[Wb,Xm]
def Xa4{a:Ww}(hl:a.S.length<=1000000):∀(n k:Nat)(v:List Int),k<=a.S.length->a.S.length-k<n->v.length<=k ->
 Qd0 N a n (k:Int) v=some (v++X8 (a.S.drop k))
 |0,k,v,_,hn,_=>by omega
 |n+1,k,v,hk,hn,hlv=>by
  rw[Qd0];by_cases h:k<a.S.length
  .rw[Xk h,Wb,Xe,Wc h,Xa,Xf aa,Wr h,X8];cases hL:a.S[k].V
   .rw[Wa,Xa4 hl n (k+1) v aa aa aa,UQ (by simp_all)];rfl
   rw[Wb,Xc aa,Xa4 hl n (k+1) _ aa aa (by simp_all),Uw aa];simp[X8]
  obtain rfl:k=a.S.length:=aa;simp[X8]
def Xa5{a:Ww}(hl:LBp a)(hN:1000000<N):QfK N a=some (bif Y3 a then X8 a.S else[]):=by
 rw[QfK,XcR hl hN,Xa];cases hv:Y3 a
 .rfl
 have h:=Xa4 (N:=N) (a:=a) hl.1 N 0 [] aa (by have:=hl.1;omega) ab;rw[show((0:Nat):Int)=0 from rfl,WX,Uh]at h;simp[Wo,Wa,h,Xa]
end
def KR(N:Nat)(c:WT):QbQ N c=some (X6 c):=by exact Y1 N c
def XlH(N:Nat)(c:WT):Qe0 N c=some (smC c):=by exact XfU N c
def Vq(N:Nat)(c:WT)(w:Int):Qe1 N c w=some (Xy c w):=by
 simp only[Qe1,KR,XlH,Xa,Xy,smC];cases hc:X6 c with
 |false=>simp
 |true=>
  have h:=Xl.1 hc;simp only[Wo,Wa,if_true,Uv];rw[Xd (n:=4*c.W) aa aa];by_cases h1:w<1
  .rw[Wq h1,Wn (show¬(True/\1<=w)fromλh=>aa)]
  rw[Wn h1,Wq (show True/\1<=w from⟨trivial,aa⟩)];by_cases h2:w>4*c.W
  .rw[Wq h2];simp only[Wn (show¬w<=c.W / 4 by omega),Wn (show¬c.W>=w by omega),Wn (show¬2*c.W>=w by omega),Wn (show¬3*c.W>=w by omega),Wn (show¬4*c.W>=w by omega)]
  rw[Wn h2];by_cases h3:w<=c.W / 4
  .rw[Wq h3,Wq h3]
  rw[Wn h3,Wn h3,Xc aa,Xd (n:=w+c.W) aa aa,Xd (n:=w+c.W-1) aa aa,U0 aa];have key:∀k:Int,k*c.W<=w+c.W-1->w+c.W-1<(k+1)*c.W->(w+c.W-1) / c.W=k:=by intro k a b;have b1:=Int.ediv_lt_of_lt_mul (show 0<c.W by omega) b;have a1:=Int.le_ediv_of_mul_le (show 0<c.W by omega) a;omega
  split
  .rw[key 1 aa aa];rfl
  split
  .rw[key 2 aa aa];rfl
  split
  .rw[key 3 aa aa];rfl
  split
  .rw[key 4 aa aa];rfl
  omega
def Xhv(N:Nat)(c:WT)(a:Int)(ha:a<=18446744073709551615):Qch N c a=QcL N c a:=by
 rw[Jx];simp only[Qch,KR,Xa,Uv];cases hc:X6 c with
 |false=>simp
 |true=>
  have h:=Xl.1 hc;have hm:=XW hc (i:=0) aa aa;simp only[Wo,Wa];rw[Wn (show¬(true=false) by simp),Int.mul_comm c.W c.p];rw[Xd (n:=c.p*c.W) aa aa,Xx (n:=c.p*c.W) aa aa];by_cases h1:a<4096
  .grind
  rw[Wn h1,Xx (n:=a-4096) aa aa];by_cases h2:a>=4096+c.p*c.W
  .grind
  rw[Wn aa,Wq aa,Xc aa,Xc aa];rw[Xd (n:=a-4096) aa aa,U0 aa,If aa];have hd:0<=(a-4096) / c.W:=Int.ediv_nonneg aa aa;have hd2:(a-4096) / c.W<=a-4096:=Int.ediv_le_self _ aa;rw[Xd aa aa]
def Vr(N:Nat)(c:WT)(p o:Int):Qdb N c p o=Qbq N c p o:=by
 rw[KC];simp only[Qdb,KR,Xa,Uv];cases hc:X6 c with
 |false=>simp
 |true=>
  simp only[Wo,Wa];rw[Wn (show¬(true=false) by simp)];by_cases h1:p<0
  .rw[Wq h1,Wn aa]
  rw[Wn h1];by_cases h2:p>=c.p
  .rw[Wq h2,Wn aa]
  rw[Wn h2];by_cases h3:o<0
  .rw[Wq h3,Wn aa]
  rw[Wn h3];by_cases h4:o>=c.W
  .rw[Wq h4,Wn aa]
  have hm:=XW hc (i:=p) aa aa;rw[Xd (n:=p*c.W) aa aa,Xd (n:=p*c.W+o) aa aa,Xx (n:=p*c.W+o) aa aa,Xx aa aa];unfold Xg;grind
def ZZ(sp:Int)(p:Wt):Bool:=p.k==3&&p.s==sp
def Vs(ps:List Wt)(sp:Int)(i:Nat):Nat:=((ps.drop i).takeWhile (ZZ sp)).length
def Xgn(N:Nat)(ps:List Wt)(sp:Int)(hl:ps.length<=1000000):∀(n c i:Nat),i<=ps.length->c<=i->ps.length-i<n->Qdm N ps sp n (c:Int) (i:Int)=some (((c+Vs ps sp i:Nat):Int))
 |0,c,i,_,_,h=>by omega
 |n+1,c,i,h,hc,hn=>by
  rw[Qdm];by_cases hlt:i<ps.length
  .rw[Wg aa,Wb,Xe,Wc hlt,Xa,Xa];have hd:ps.drop i=ps[i]::ps.drop (i+1):=Wr hlt;unfold Vs;rw[hd,List.takeWhile_cons];cases h1:(ps[i].k==3)with
   |false=>simp[ZZ,h1]
   |true=>
    cases h2:(ps[i].s==sp)with
    |false=>simp[ZZ,h1,h2]
    |true=>rw[Wb,show ZZ sp ps[i]=true by simp[ZZ,h1,h2],Wq rfl];rw[Xf aa,Xf aa,Xgn N ps sp hl n (c+1) (i+1) aa aa aa];unfold Vs;grind
  have:ps.drop i=[]:=UE aa;rw[Wh aa,Wa];simp[Vs,this]
def XlI{N:Nat}(ps:List Wt)(sp:Int)(hl:ps.length<=1000000)(hN:1000000<N)(i:Nat)(hi:i<ps.length):Qe6 N ps (i:Int) sp=some ((Vs ps sp (i+1):Nat):Int):=by rw[Qe6,Xf aa,show(0:Int)=((0:Nat):Int)from rfl,Xgn N ps sp hl N 0 (i+1) aa aa aa,Xa,Uy]
def XaC{α:Type}(q:α->Bool):∀(l:List α)(k:Nat),k<=(l.takeWhile q).length↔k<=l.length/\(l.take k).all q=true
 |[],k=>by simp
 |a::l,0=>by simp
 |a::l,k+1=>by
  rw[List.takeWhile_cons];cases h:q a with
  |false=>grind
  |true=>simp[h];exact XaC q l k |>.trans ab
def Ya(sp:Int)(p:Wt):Bool:=ZZ sp p&&(p.u==0&&p.P==0)
def Xiv(N:Nat)(a1:List Wt)(a2:Int)(p1:Wt)(x5 y6:Int)(l:List Wt)(hl:l.length<=1000000)(hd:((a1.drop (wI (a2+1)).toNat).take ((wI (a2+y6)).toNat-(wI (a2+1)).toNat))=l)(hm:min ((wI (a2+y6)).toNat-(wI (a2+1)).toNat) (a1.length-(wI (a2+1)).toNat)=l.length):
 ∀(n k:Nat),k<=l.length->l.length-k<n->Qfr N a1 a2 p1 x5 y6 n (k:Int)=some (if(l.drop k).all (Ya p1.s)=true then .nxt ()else .ret 0)
 |0,k,_,h=>by omega
 |n+1,k,h,hn=>by
  rw[Qfr,hd,hm];by_cases hlt:k<l.length
  .rw[Wg aa,Wb,Xe,Wc hlt,Xa,Qfi,Xa,Wr hlt,List.all_cons];have e:((l[k].k==3)&&((l[k].s==p1.s)&&((l[k].u==0)&&(l[k].P==0))))=Ya p1.s l[k]:=by unfold Ya ZZ;rw[Bool.and_assoc]
   rw[e];cases hq:Ya p1.s l[k]with
   |false=>simp
   |true=>rw[Wo,Wa,Xf aa,Xiv N a1 a2 p1 x5 y6 l hl hd hm n (k+1) aa aa,W3]
  grind
def X9(c:WT)(ps:List Wt)(i:Nat)(p:Wt):Nat:=
 if p.k=0 then(if p.s=0/\p.u=0/\p.P=0 then 1 else 0)
 else if(p.s=0\/p.s=1)/\0<=p.P/\p.P<=2147483647 then
  (if p.k=1 then(if 0<=p.u/\p.u<=c.W then 1 else 0)
   else if p.k=2 then(if 1<=Xy c p.u/\(Xy c p.u).toNat<=ps.length-i/\((ps.drop (i+1)).take ((Xy c p.u).toNat-1)).all (Ya p.s)=true then(Xy c p.u).toNat else 0)
   else 0)
 else 0
def ZO(N:Nat)(p:Wt):QbX N p=some (decide (p.s=0\/p.s=1)):=by rw[QbX];grind
def VL(N:Nat)(p:Wt):Qdd N p=some (decide (0<=p.P/\p.P<=2147483647)):=by grind[Qdd]
def Ki{N:Nat}{c:WT}{ps:List Wt}(hl:ps.length<=100000)(hN:1000000<N){i:Nat}(hi:i<ps.length):Qg1 N c ps (i:Int)=some ((X9 c ps i ps[i]:Nat):Int):=by
 rw[Qg1,Xe,Wc hi,Xa,XF];generalize hp:ps[i]=p;unfold X9;by_cases k0:p.k<0
 .grind
 rw[Wh k0,Wa];by_cases k3:p.k>=3
 .grind
 rw[Wh k3,Wa];by_cases e0:p.k=0
 .rw[show(p.k==0)=true by simpa using e0,Wb,Wq e0,Qf8,Xa];grind
 rw[show(p.k==0)=false by simp_all,Wa,Wn e0];by_cases hsp:(p.s=0\/p.s=1);case neg=>
  rw[Wn (λhh=>hsp hh.1)]
  by_cases e1:p.k=1
  .rw[show(p.k==1)=true by simp_all,Wb,Qds,ZO,Xa,Wh hsp,Wa,Xa];rfl
  .have e2:p.k=2:=aa
   rw[show(p.k==1)=false by simp_all,Wa,show(p.k==2)=true by simp_all,Wb,Qdt,ZO,Xa,Wh hsp,Wa,Xa];rfl
 by_cases hpn:0<=p.P/\p.P<=2147483647;case neg=>
  rw[Wn (λhh=>hpn hh.2)]
  by_cases e1:p.k=1
  .rw[show(p.k==1)=true by simp_all,Wb,Qds,ZO,Xa,Wg hsp,Wb,VL,Xa,Wh hpn,Wa,Xa];rfl
  .have e2:p.k=2:=aa
   rw[show(p.k==1)=false by simp_all,Wa,show(p.k==2)=true by simp_all,Wb,Qdt,ZO,Xa,Wg hsp,Wb,VL,Xa,Wh hpn,Wa,Xa];rfl
 rw[Wq ⟨hsp,hpn⟩];by_cases e1:p.k=1
 .rw[show(p.k==1)=true by simpa using e1,Wb,Qds,ZO,Xa,Wg hsp,Wb,VL,Xa,Wg hpn,Wb,Wq e1];by_cases u0:0<=p.u
  .by_cases u1:p.u<=c.W
   .simp[u0,u1,Xa]
   simp[u0,u1,Xa]
  simp[u0,Xa]
 have e2:p.k=2:=aa;rw[show(p.k==1)=false by simp_all,Wa,show(p.k==2)=true by simp_all,Wb,Qdt,ZO,Xa,Wg hsp,Wb,VL,Xa,Wg hpn,Wb,Wn e1,Wq e2];simp only[Vq,Xa];by_cases hn1:Xy c p.u>=1;case neg=>grind
 rw[Wg hn1,Wo,Wa,show((2:Int) != 2)=false from rfl,Wa,Xd (n:=(ps.length:Int)-i) aa aa];by_cases hfit:Xy c p.u>(ps.length:Int)-i
 .grind
 rw[Wh hfit,Wa];have w1:wI ((i:Int)+1)=((i+1:Nat):Int):=Xf aa;have w2:wI ((i:Int)+Xy c p.u)=(i:Int)+Xy c p.u:=Xd aa aa;rw[Xc aa];have t1:(wI ((i:Int)+1)).toNat=i+1:=by rw[w1];omega
 have t2:(wI ((i:Int)+Xy c p.u)).toNat-(wI ((i:Int)+1)).toNat=(Xy c p.u).toNat-1:=by rw[t1,w2];omega
 rw[show(0:Int)=((0:Nat):Int)from rfl,Xiv N ps (i:Int) p 2 (Xy c p.u) ((ps.drop (i+1)).take ((Xy c p.u).toNat-1)) (by grind) (by simp_all) (by simp_all) N 0 aa (by grind),Xa,WX];by_cases hall:((ps.drop (i+1)).take ((Xy c p.u).toNat-1)).all (Ya p.s)=true
 .rw[Wq hall,Xm,Wq ⟨hn1,aa,hall⟩];grind
 rw[Wn hall,XA,Wn (λhh=>hall hh.2.2)];rfl
def XR{p:Prop}[Decidable p](h:¬p):decide p=false:=Wh h
def Xd3{N:Nat}{h:Wk}(hl:h.p.length<=100000){sp:Int}(hsp:sp=0\/sp=1):∀(k n i:Nat),i+k<=h.p.length->((h.p.drop i).take k).all (ZZ sp)=true ->
 QaB N h (n+k) (k:Int) (i:Int)=if((h.p.drop i).take k).all (Ya sp)=true then QaB N h n 0 ((i+k:Nat):Int)else some (.ret false)
 |0,n,i,hik,ha=>by simp
 |k+1,n,i,hik,ha=>by
  have hlt:i<h.p.length:=aa;have hd:(h.p.drop i).take (k+1)=h.p[i]::(h.p.drop (i+1)).take k:=by rw[Wr hlt,List.take_succ_cons]
  rw[hd,List.all_cons,W6]at ha;rw[hd,List.all_cons,show n+(k+1)=(n+k)+1 from rfl,QaB,Wg aa,Wb,Xe,Wc hlt,Xa];have ih:=Xd3 (N:=N) hl hsp k n (i+1) aa ha.2;generalize h.p[i]=p at *;have hk:p.k=3/\p.s=sp:=by have:=ha.1;simp only[ZZ,W6,beq_iff_eq]at this;exact this
  have⟨hk3,hks⟩:=hk;have q3:(p.k==3)=true:=by simpa using hk3
  rw[q3,Wg (show(((k+1:Nat):Int)>0) by omega),show(!(true==true))=false from rfl,Wa,XR (show¬p.s<0 by omega),Wa,XR (show¬p.s>1 by omega),Wa,XeI,Xa];by_cases hp:p.P=0;case neg=>
   have hc:Ya sp p=false:=by simp[Ya,hp]
   rw[hc,Ut,Wn ab]
   by_cases hp2:0<=p.P/\p.P<=2147483647
   .rw[Wg hp2,Wo,Wa]
    simp only[XF,show(p.k==0)=false by rw[hk3];rfl,show(p.k==1)=false by rw[hk3];rfl,show(p.k==2)=false by rw[hk3];rfl,q3,Wa,Wb,show(p.P != 0)=true by simpa using hp,Bool.cond_self]
   grind
  simp only[XF,show(p.k==0)=false by simp_all,show(p.k==1)=false by simp_all,show(p.k==2)=false by simp_all,q3,Wa,Wb,show(p.P != 0)=false by simp_all];by_cases hu:p.u=0
  .have hc:Ya sp p=true:=by unfold Ya;rw[ha.1];simp[hu,hp]
   rw[show(p.u != 0)=false by simpa using hu,Wa,hc,W3,Xd (n:=((k+1:Nat):Int)-1) aa aa,Xf aa];grind
  have hc:Ya sp p=false:=by simp[Ya,hu]
  grind
def XlJ{α:Type}{p q:α->Bool}(h:∀x,q x=true->p x=true):∀{l:List α},l.all q=true->l.all p=true:=by simp_all
def XjD{N:Nat}{h:Wk}(hc:X6 h.c=true)(hl:h.p.length<=100000)(hN:1000000<N){i:Nat}(hi:i<h.p.length)(n:Nat)(hn:10<=n):
 QaB N h n 0 (i:Int)=if X9 h.c h.p i h.p[i]=0 then some (.ret false)else QaB N h (n-X9 h.c h.p i h.p[i]) 0 ((i+X9 h.c h.p i h.p[i]:Nat):Int):=by
 obtain⟨n,rfl⟩:∃m,n=m+1:=⟨n-1,aa⟩
 rw[QaB,Wg (show(i:Int)<(h.p.length:Int) by omega),Wb,Xe,Wc hi,Xa];generalize h.p[i]=p;have go:(if(0:Int)<wI (0-1)then wI (0-1)else 0)=0:=by rw[Xd aa aa];rfl
 have ge:wI ((i:Int)+1)=((i+1:Nat):Int):=Xf aa;generalize hs:X9 h.c h.p i p=s;unfold X9 at hs;have no:s=0->(if s=0 then some (.ret false)else QaB N h (n+1-s) 0 ((i+s:Nat):Int))=some (.ret false):=λe=>Wq e;rw[Wh (show¬(0:Int)>0 by omega)];by_cases k3:p.k=3
 .rw[show(p.k==3)=true by simpa using k3,show(!(true==false))=true from rfl,Wb];rw[Wn (show¬p.k=0 by omega),Wn (show¬p.k=1 by omega),Wn (show¬p.k=2 by omega),ite_self]at hs;exact(no hs.symm).symm
 have q3:(p.k==3)=false:=by simpa using k3
 rw[q3,show(!(false==false))=false from rfl,Wa];by_cases hsp:p.s=0\/p.s=1;case neg=>
  have z:s=0:=by
   rw[←hs,Wn (c:=(p.s=0\/p.s=1)/\_) (λhh=>hsp hh.1)]
   split
   .rw[Wn (λhh=>hsp (.inl hh.1))]
   .rfl
  rw[no z]
  by_cases h0:p.s<0
  .rw[Wg h0,Wb]
  .rw[XR h0,Wa,Wg (show p.s>1 by omega),Wb]
 rw[XR (show¬p.s<0 by omega),Wa,XR (show¬p.s>1 by omega),Wa,XeI,Xa];by_cases hpn:0<=p.P/\p.P<=2147483647;case neg=>
  have z:s=0:=by
   rw[←hs,Wn (c:=(p.s=0\/p.s=1)/\_) (λhh=>hpn hh.2)]
   split
   .rw[Wn (λhh=>hpn aa)]
   .rfl
  rw[no z,XR hpn,Uf,Wb]
 rw[Wq (c:=(p.s=0\/p.s=1)/\_) ⟨hsp,hpn⟩]at hs;rw[Wg hpn,Wo,Wa];by_cases e0:p.k=0
 .have q1:(p.k==1)=false:=by rw[e0];rfl
  have q2:(p.k==2)=false:=by rw[e0];rfl
  rw[Wq e0]at hs;simp only[XF,show(p.k==0)=true by simpa using e0,q1,q2,q3,Wb,Wa,W3];by_cases hz:p.s=0/\p.u=0/\p.P=0
  .rw[Wq hz]at hs;subst hs;obtain⟨z1,z2,z3⟩:=hz;rw[Wn (show¬(1:Nat)=0 by omega)];simp only[z1,z2,z3,show((0:Int)==0)=true from rfl,Is,Wo,Wa,go,ge,Ig]
  rw[Wn hz]at hs;rw[no hs.symm,show((p.s==0)&&((p.u==0)&&(p.P==0)))=false by
   rw[Bool.eq_false_iff];intro hh;simp only[W6,beq_iff_eq]at hh;exact hz ⟨hh.1,hh.2.1,hh.2.2⟩]
  rfl
 have q0:(p.k==0)=false:=by simpa using e0
 rw[Wn e0]at hs;by_cases e1:p.k=1
 .have q2:(p.k==2)=false:=by rw[e1];rfl
  rw[Wq e1]at hs;simp only[XF,show(p.k==1)=true by simpa using e1,q0,q2,q3,Wb,Wa];by_cases u0:p.u<0
  .rw[Wn aa]at hs;rw[Wg u0,Wb,no hs.symm]
  rw[XR u0,Wa];by_cases u1:p.u>h.c.W
  .rw[Wn aa]at hs;rw[Wg u1,Wb,no hs.symm]
  rw[Wq aa]at hs;subst hs;rw[XR u1,Wa,Wn (show¬(1:Nat)=0 by omega),go,ge,Ig]
 have q1:(p.k==1)=false:=by simpa using e1
 rw[Wn e1]at hs;by_cases e2:p.k=2;case neg=>
  have q2:(p.k==2)=false:=by simpa using e2
  rw[Wn e2]at hs
  simp only[XF,q0,q1,q2,q3,Wa]
  rw[no hs.symm]
 rw[Wq e2]at hs;simp only[XF,show(p.k==2)=true by simpa using e2,q0,q1,q3,Wb,Wa,Zp (show 10<=N by omega),Xa];by_cases hn1:Xy h.c p.u<1
 .rw[Wn (λhh=>aa)]at hs;rw[Wg hn1,Wb,no hs.symm]
 have hr:=KB h.c p.u;rw[XR hn1,Wa,XlI h.p p.s aa hN i hi,Xa,Xd (n:=Xy h.c p.u-1) aa aa];obtain⟨k,hk⟩:∃k:Nat,Xy h.c p.u=((k+1:Nat):Int):=⟨(Xy h.c p.u).toNat-1,aa⟩
 have hk1:(Xy h.c p.u).toNat=k+1:=aa;have tw:=XaC (ZZ p.s) (h.p.drop (i+1)) k;rw[hk1,Ig,hk]at hs;rw[hk];by_cases ht:((Vs h.p p.s (i+1):Nat):Int)<((k+1:Nat):Int)-1
 .have hnot:¬k<=((h.p.drop (i+1)).takeWhile (ZZ p.s)).length:=by unfold Vs at ht;omega
  rw[Wn (λhh=>hnot (tw.2 ⟨by rw[Wl];omega,XlJ (λx hx=>by unfold Ya at hx;rw[W6]at hx;exact hx.1) hh.2.2⟩))]at hs;rw[Wg ht,Wb,no hs.symm]
 have hyes:=tw.1 (by unfold Vs at ht;omega);rw[Wl]at hyes;have e:(if(0:Int)<((k+1:Nat):Int)-1 then((k+1:Nat):Int)-1 else 0)=(k:Int):=by split<;>omega
 rw[e,ge];obtain⟨m,rfl⟩:∃m,n=m+k:=⟨n-k,aa⟩
 rw[Xd3 hl hsp k m (i+1) aa hyes.2];grind
def XcS{c:WT}{ps:List Wt}{i:Nat}(hi:i<ps.length){p:Wt}:X9 c ps i p<=ps.length-i/\X9 c ps i p<=4:=by have hr:=KB c p.u;unfold X9;grind
def XcT{N:Nat}{h:Wk}(hc:X6 h.c=true)(hl:h.p.length<=100000)(hN:1000000<N):∀(m i n n':Nat),i<=h.p.length->h.p.length-i<=m->h.p.length-i<n->h.p.length-i+10<=n'->Qae N h n (i:Int)=QaB N h n' 0 (i:Int)
 |m,i,0,n',_,_,h1,_=>by omega
 |m,i,n+1,n',hi,hm,h1,h2=>by
  by_cases hlt:i<h.p.length
  .rw[Qae,Wg aa,Wb,Ki hl hN hlt,Xa,XjD hc hl hN hlt n' aa];have hs:=XcS (c:=h.c) hlt (p:=h.p[i]);generalize X9 h.c h.p i h.p[i]=s at *;by_cases h0:s=0
   .simp_all
   rw[Wn h0,show((s:Int)==0)=false by simp_all,Wa,Xd aa aa,show(i:Int)+(s:Int)=((i+s:Nat):Int) by omega];obtain⟨m',rfl⟩:∃m',m=m'+1:=⟨m-1,aa⟩
   exact XcT hc hl hN m' (i+s) n (n'-s) aa aa aa aa
  rw[Qae,Wh aa,Wa];obtain⟨k,rfl⟩:∃k,n'=k+1:=⟨n'-1,aa⟩
  rw[QaB,Wh aa,Wa]
def Yl{N:Nat}{h:Wk}(hl:h.p.length<=100000)(hN:1000000<N):QbR N h=Qab N h:=by
 rw[QbR,Qab,KR,Y1];simp only[Xa,XF];cases hc:X6 h.c with
 |false=>rfl
 |true=>
 have e:=XcT hc hl hN h.p.length 0 N N aa aa aa aa;grind
section
variable {N:Nat}
def Xob{m:Int}(h0:0<=m)(h1:2*m+1<=18446744073709551615):bOr .u64 (m*2) 1=m*2+1:=by
 obtain⟨n,rfl⟩:=UB h0;have hb:IntKind.u64.bits=64:=rfl;show IntKind.u64.wrap ((BitVec.ofInt IntKind.u64.bits ((n:Int)*2) |||BitVec.ofInt IntKind.u64.bits 1).toNat:Int)=_;rw[hb];have e1:BitVec.ofInt 64 ((n:Int)*2)=BitVec.ofNat 64 (n*2):=by rw[show(n:Int)*2=((n*2:Nat):Int) by omega];exact BitVec.ofInt_natCast 64 (n*2)
 have e2:BitVec.ofInt 64 (1:Int)=BitVec.ofNat 64 1:=ae;have hn:n*2 % 2 ^ 64=n*2:=IS aa;have h3:=Nat.shiftLeft_add_eq_or_of_lt (i:=1) (b:=1) ae n;rw[Nat.shiftLeft_eq,Nat.pow_one]at h3;rw[e1,e2,BitVec.toNat_or,Ie,Ie,hn,show 1 % 2 ^ 64=1 from rfl,←h3];show wU _=_;rw[Xx aa aa];omega
def Xiw{a:Int}(h0:0<=a)(h1:a<=64):∀(n k:Nat),(k:Int)<=a->(a-k).toNat<n->Qfs N a n ((2:Int) ^ k-1) (k:Int)=some ((2:Int) ^ a.toNat-1)
 |0,k,_,hn=>by omega
 |n+1,k,hk,hn=>by
  rw[Qfs];have e:(if 64<(if a<0 then 0 else a)then 64 else(if a<0 then 0 else a))=a:=by rw[Wn (show¬a<0 by omega),Wn aa]
  rw[e];by_cases h:(k:Int)<a
  .have hp:(1:Int)<=2 ^ k:=Int.pow_pos (n:=(2:Int)) (m:=k) ae;have hq:(2:Int) ^ k<=2 ^ 63:=by have:2 ^ k<=2 ^ 63:=IO aa aa;exact_mod_cast this
   have s1:ZQ .u64 ((2:Int) ^ k-1) 1=wU (((2:Int) ^ k-1)*2):=rfl;rw[Wg h,Wb,s1,Xx aa aa,Xob aa aa,Xf aa];have e2:((2:Int) ^ k-1)*2+1=2 ^ (k+1)-1:=by rw[Int.pow_succ];omega
   rw[e2];exact Xiw h0 h1 n (k+1) aa aa
  grind
def Je{a:Int}(h0:0<=a)(h1:a<=64)(hN:1000<N):QcY N a=some ((2:Int) ^ a.toNat-1):=by have:=Xiw (N:=N) h0 h1 N 0 aa aa;rw[QcY];rw[show((2:Int) ^ 0-1)=0 from rfl,show((0:Nat):Int)=0 from rfl]at this;rw[this,Xa]
def K1(hN:1000<N)(d:Wy):Qda N d=some (XI d):=by
 rw[Qda,XI];by_cases h1:d.k<0
 .rw[Wg h1,Wb,Wh aa,Ut]
 rw[Wh h1,Wa];by_cases h2:d.k>3
 .rw[Wg h2,Wb,Wh aa,Ut]
 rw[Wh h2,Wa];by_cases h3:d.n<0
 .rw[Wg h3,Wb,Wh aa,Ut]
 rw[Wh h3,Wa];by_cases h4:d.n>255
 .rw[Wg h4,Wb,Wh (p:=0<=d.k/\d.k<=3/\0<=d.n/\d.n<=255) aa,Ut]
 rw[Wh h4,Wa,Wg (p:=0<=d.k/\d.k<=3/\0<=d.n/\d.n<=255) aa,W3];by_cases h5:d.k=1
 .rw[Wq h5,XN h5,Wb,XF];by_cases h6:d.n<=32
  .rw[Wg h6,Wb,Je aa aa hN,Xa,W3,Xbq];exact congrArg some (decide_eq_decide.2 aa)
  rw[Wh h6,Wa,Ut]
 grind
def YI(hN:1000<N)(d:Wy):Qbj N d=some (Xz d):=by
 rw[Qbj,K1 hN,Xa,Xz];cases h:XI d with
 |false=>rfl
 |true=>have:=XL h;rw[Wo,Wa,Xd (n:=d.n+1) aa aa];rfl
def XlK(hN:1000<N)(d:Wy)(i:Int):Qft N d i=some (Ji d i):=by
 rw[Qft,K1 hN,Xa,Ji];cases h:XI d with
 |false=>rfl
 |true=>
  have hb:=XL h;rw[Wo,Wa,W3];by_cases h1:i<0
  .rw[Wg h1,Wb,Wh aa,Ut]
  rw[Wh h1,Wa];by_cases h2:i>=d.n
  .rw[Wg h2,Wb,Wh aa,Ut]
  rw[Wh h2,Wa,Wg (p:=0<=i/\i<d.n) aa,W3,Xx (n:=i) aa aa];by_cases h3:d.k=2
  .rw[XN h3,Wb,Wg h3,Bool.true_or]
  rw[XG h3,Wa,Wh h3,U9];by_cases h4:d.k=1
  .rw[XN h4,Wb,Wg h4,W3,Xc aa]
  grind
def XaD(hN:1000<N)(d:Wy)(hv:XI d=true):∀(n:Nat)(i:Int)(v:List Int),0<=i->i<=d.n+1->(d.n+1-i).toNat<n->v.length+(d.n+1-i).toNat<=1000->Qb3 N d (d.n+1) n i v=some (v++Yz d (d.n-i).toNat i)
 |0,i,v,_,_,hn,_=>by omega
 |n+1,i,v,h0,h1,hn,hl=>by
  have hb:=XL hv;rw[Qb3];by_cases h:i<d.n+1
  .rw[Wg h,Wb,XlK hN,Xa,Xd (n:=i+1) aa aa];by_cases h2:i<d.n
   .obtain⟨k,hk⟩:∃k,(d.n-i).toNat=k+1:=⟨(d.n-i).toNat-1,aa⟩
    have hk2:(d.n-(i+1)).toNat=k:=aa;rw[hk,Yz];cases hp:Ji d i
    .rw[Wa,XaD hN d hv n (i+1) v aa aa aa aa,hk2];simp
    rw[Wb,Xc aa,XaD hN d hv n (i+1) _ aa aa aa (by grind),hk2];simp
   have hp:Ji d i=false:=by unfold Ji;rw[Wh (p:=0<=i/\i<d.n) aa];simp
   rw[hp,Wa,XaD hN d hv n (i+1) v aa aa aa aa,show(d.n-i).toNat=0 by omega,show(d.n-(i+1)).toNat=0 by omega];rfl
  rw[Wh h,Wa,show(d.n-i).toNat=0 by omega];simp[Yz]
def Xd4(hN:1000<N)(d:Wy)(hv:XI d=true):QdR N d=some (Zi d):=by
 have hb:=XL hv;have hs:Xz d=d.n+1:=by unfold Xz;rw[hv];rfl
 rw[QdR,YI hN,Xa,hs,XaD hN d hv N 0 [] aa aa aa (by grind),Xa,Zi,hv];simp
def XeY{l:List Int}(hl:l.length<=1000000)(hN:1000000<N):Qah N l 0=some (!l.all λp=>!(p==0)):=by
 rw[Qah,QbI];rw[Jl (p:=λx:Int=>(0==x)) hl hN (λn j x e=>by
  have hk:=XC e
  rw[Qax,Xk hk,Wb,Xe,e,Xa,Xf aa]) (λn=>by rw[Qax,Xw,Wa])]
 rw[Xa,Ke,←XeX,Bool.not_not];grind
def V9:List (List Int)->Nat
 |[]=>0
 |l::ls=>l.length+V9 ls
def Xd5(ls:List (List Int))(hl:ls.length<=1000):∀(n k s:Nat),k<=ls.length->ls.length-k<n->s+V9 (ls.drop k)<=10000000->QaO N ls n (s:Int) (k:Int)=some (((s+V9 (ls.drop k):Nat):Int))
 |0,k,s,_,hn,_=>by omega
 |n+1,k,s,hk,hn,hs=>by
  rw[QaO];by_cases h:k<ls.length
  .rw[Wr h,V9]at hs⊢;rw[Xk h,Wb,Xe,Wc h,Xa,Xd (n:=(s:Int)+((ls[k].length:Nat):Int)) aa aa,Wh aa,Wa,Xf aa];have:=Xd5 ls hl n (k+1) (s+ls[k].length) aa aa aa;grind
  obtain rfl:k=ls.length:=aa;rw[Xw,Wa,UE (Un _)];rfl
def Xd6(ls:List (List Int))(hl:ls.length<=1000):∀(n k:Nat)(v:List Int),k<=ls.length->ls.length-k<n->v.length+V9 (ls.drop k)<=10000000->QaP N ls n (k:Int) v=some (v++(ls.drop k).flatten)
 |0,k,v,_,hn,_=>by omega
 |n+1,k,v,hk,hn,hs=>by
  rw[QaP];by_cases h:k<ls.length
  .rw[Wr h,V9]at hs;rw[Wr h,Xk h,Wb,Xe,Wc h,Xa,Xc aa,Xf aa,Xd6 ls hl n (k+1) _ aa aa (by rw[WQ];omega),List.flatten_cons,UA]
  grind
def Xa6(ls:List (List Int))(hl:ls.length<=1000)(hs:V9 ls<=10000000)(hN:1000000<N):QaK N ls=some ls.flatten:=by
 have h1:=Xd5 (N:=N) ls hl N 0 0 aa aa (by rw[WX];omega);have h2:=Xd6 (N:=N) ls hl N 0 [] aa aa (by rw[WX];simp;omega);rw[show((0:Nat):Int)=0 from rfl,Uy]at h1;rw[show((0:Nat):Int)=0 from rfl,Uh]at h2;have hg:Qbk N ((V9 ls:Nat):Int)=some []:=by
  rw[Qbk,Wh aa,Wa,Xd (n:=(0:Int)) aa aa,Int.sub_zero];have e:=Xd (n:=((V9 ls:Nat):Int)) aa aa;by_cases h:(wI ((V9 ls:Nat):Int))>0
  .rw[Wg h,Wb,Xc ⟨rfl,rfl⟩,Xc aa,Xc aa,Xc aa,List.take_zero]
  rw[Wh h,Wa]
 simp[QaK,h1,Xa,hg,h2]
end
section
variable {N:Nat}
def XeZ{w:Int}(hw:tU w):XbC w=⟨w / 4 % 4,w / 16 % 4096,w / 65536 % 4294967296⟩:=by have⟨h0,h1⟩:=hw;unfold XbC;rw[show YA .u64 w 2=w / 4 from YQ w 2 aa h0,show YA .u64 w 4=w / 16 from YQ w 4 aa h0,show YA .u64 w 16=w / 65536 from YQ w 16 aa h0];rw[show Zc .u64 (w / 4) 3=w / 4 % 4 from YR (w / 4) 2 aa aa aa,show Zc .u64 (w / 16) 4095=w / 16 % 4096 from YR (w / 16) 12 aa aa aa];rw[Xd aa aa,Xd aa aa,Xla]
def XlL{w:Int}(hw:tU w):okH w=(XI (XbC w)&&(decide (w / 281474976710656=0)&&decide (w % 4=1))):=by
 have⟨h0,h1⟩:=hw;unfold okH;cases hv:XI (XbC w)with
 |false=>rfl
 |true=>
  have hb:=XL hv;rw[XeZ ⟨h0,h1⟩]at hb;have e:J1 (XbC w)=1+4*(w / 4 % 4)+16*(w / 16 % 4096)+w / 65536 % 4294967296*65536:=by rw[XeZ ⟨h0,h1⟩];unfold J1;have s:∀x:Int,ZQ .u64 x 16=wU (x*65536):=λ_=>rfl;simp only[s];simp only[Xbq];omega
  grind
def Xrw:Xb [(2:Int),2,12,32] 0=some 2:=by unfold Xb;rfl
def Xrx:Xb [(2:Int),2,12,32] 1=some 2:=by unfold Xb;rfl
def Xry:Xb [(2:Int),2,12,32] 2=some 12:=by unfold Xb;rfl
def Xrz:Xb [(2:Int),2,12,32] 3=some 32:=by unfold Xb;rfl
def Xhw(hN:1000000<N){v:Int}(h0:0<=v)(h1:v<=18446744073709551615):Qfa N v [2,2,12,32]=some (if v / 281474976710656=0 then([v % 4,v / 4 % 4,v / 16 % 4096,v / 65536 % 4294967296],0)else([],2)):=by
 obtain⟨m,rfl⟩:∃m,N=m+5:=⟨N-5,aa⟩
 have l3:([(2:Int),2,12,32].length:Nat)=4:=rfl;have i1:wI (0+1)=1:=Xd aa aa;have i2:wI (1+1)=2:=Xd aa aa;have i3:wI (2+1)=3:=Xd aa aa;have i4:wI (3+1)=4:=Xd aa aa;have j1:wI (64-2)=62:=Xd aa aa;have j2:wI (62-2)=60:=Xd aa aa;have j3:wI (60-12)=48:=Xd aa aa;have j4:wI (48-32)=16:=Xd aa aa;have e1:QaQ (m+5) v [2,2,12,32] (m+5) 64 0=some (.nxt ()):=by rw[QaQ,l3,Xrw];simp only[Xa,i1,j1];rw[QaQ,l3,Xrx];simp only[Xa,i2,j2];rw[QaQ,l3,Xry];simp only[Xa,i3,j3];rw[QaQ,l3,Xrz];simp only[Xa,i4,j4];rw[QaQ,l3];rfl
 have o1:QcY (m+5) 2=some 3:=Je aa aa aa;have o2:QcY (m+5) 12=some 4095:=Je aa aa aa;have o3:QcY (m+5) 32=some 4294967295:=Je aa aa aa;have s1:YA .u64 v 2=v / 4:=YQ v 2 aa h0;have s2:YA .u64 (v / 4) 2=v / 4 / 4:=YQ (v / 4) 2 aa aa;have s3:YA .u64 (v / 4 / 4) 12=v / 4 / 4 / 4096:=YQ (v / 4 / 4) 12 aa aa;have s4:YA .u64 (v / 4 / 4 / 4096) 32=v / 4 / 4 / 4096 / 4294967296:=YQ (v / 4 / 4 / 4096) 32 aa aa;have a1:Zc .u64 v 3=v % 4:=YR v 2 aa h0 h1;have a2:Zc .u64 (v / 4) 3=v / 4 % 4:=YR (v / 4) 2 aa aa aa;have a3:Zc .u64 (v / 4 / 4) 4095=v / 4 / 4 % 4096:=YR (v / 4 / 4) 12 aa aa aa;have a4:Zc .u64 (v / 4 / 4 / 4096) 4294967295=v / 4 / 4 / 4096 % 4294967296:=YR (v / 4 / 4 / 4096) 32 aa aa aa;have e2:QaR (m+5) [2,2,12,32] (m+5) v 0 []=some (v / 4 / 4 / 4096 / 4294967296,[v % 4,v / 4 % 4,v / 4 / 4 % 4096,v / 4 / 4 / 4096 % 4294967296]):=by rw[QaR,l3,Xrw];rw[Wg aa,Wb,Xa,o1,Xa,Xc ab,Xc aa,s1,a1,i1];rw[QaR,l3,Xrx];rw[Wg aa,Wb,Xa,o1,Xa,Xc ab,Xc aa,s2,a2,i2];rw[QaR,l3,Xry];rw[Wg aa,Wb,Xa,o2,Xa,Xc ab,Xc aa,s3,a3,i3];rw[QaR,l3,Xrz];rw[Wg aa,Wb,Xa,o3,Xa,Xc ab,Xc aa,s4,a4,i4];rw[QaR,l3];rw[Wh aa,Wa];rfl
 rw[Qfa,e1,Xa,Xm,e2,Xa];grind
def XcU(hN:1000000<N){w:Int}(hw:tU w):Qd1 N w=some (ZF w,okH w):=by
 have⟨h0,h1⟩:=hw;rw[Qd1,Xhw hN h0 h1,Xa];unfold ZF;rw[XlL ⟨h0,h1⟩];by_cases h:w / 281474976710656=0
 .have g0:Xb [w % 4,w / 4 % 4,w / 16 % 4096,w / 65536 % 4294967296] 0=some (w % 4):=by unfold Xb;rfl
  have g1:Xb [w % 4,w / 4 % 4,w / 16 % 4096,w / 65536 % 4294967296] 1=some (w / 4 % 4):=by unfold Xb;rfl
  have g2:Xb [w % 4,w / 4 % 4,w / 16 % 4096,w / 65536 % 4294967296] 2=some (w / 16 % 4096):=by unfold Xb;rfl
  have g3:Xb [w % 4,w / 4 % 4,w / 16 % 4096,w / 65536 % 4294967296] 3=some (w / 65536 % 4294967296):=by unfold Xb;rfl
  rw[Wq h];simp only[g0,g1,g2,g3,Xa,show((0:Int) != 0)=false from rfl,Wa,Xd (n:=w / 4 % 4) aa aa,Xd (n:=w / 16 % 4096) aa aa,Xpc (n:=w / 65536 % 4294967296) aa aa];rw[K1 aa,Xa,←XeZ ⟨h0,h1⟩,Wg h,W3];by_cases hm:w % 4=1
  .rw[hm,show((1:Int) != 1)=false from rfl,Wa,Wg rfl,Bool.and_true];cases XI (XbC w)<;>rfl
  rw[show(w % 4 != 1)=true by simpa using hm,Wb,Wh hm,Bool.and_false];rfl
 simp_all
def Xa7{ws:List Int}(hl:ws.length<=1000000){a:Int}(ha:a<=18446744073709551615)(n:Int):Qfb N ws a n=Qdv N ws a n:=by
 rw[Qfb,Qdv];by_cases h1:a<4096
 .rw[Wg h1,Wb,Wb]
 rw[XR h1,Wa,Wa,Xx (n:=a-4096) aa aa,Xx (n:=(ws.length:Int)) aa aa,Xx (n:=4096+(ws.length:Int)) aa aa];grind
def Xgo{ws:List Int}(hl:ws.length<=1000000){a:Int}(ha:a<=18446744073709551615):Qgv N ws a=Qbb N ws a:=by simp[Qgv,Qbb,QhB,Qf1,Xa7,hl,ha]
def XlM{ws:List Int}(hl:ws.length<=1000000){a:Int}(ha:a<=18446744073709551615)(n:Int):Qhd N ws a n=Qc5 N ws a n:=by
 rw[Qhd,Qc5,Xa7 hl ha];by_cases h0:n<0
 .simp_all
 rw[XR h0,Wa,Wa];congr 1;funext y;cases y.2 with
 |false=>rfl
 |true=>simp only[Wo,Wa,Qad,Xa];unfold grd;grind
structure HT(h:Wk):Prop where
 hb:HB h
 tw:XQ h
def HT.word{h:Wk}(t:HT h){i:Int}{w:Int}(e:Xb h.w i=some w):tU w:=by have:=t.tw;exact this w (Yy e)
def Xa8(hN:NB N){h:Wk}(ht:HT h){a:Int}(ha:tU a):Qeu N h a=Qam N h a:=by
 have hN':1000000<N:=by unfold NB at hN;omega
 have hb:=ht.hb;unfold HB at hb;rw[Qeu,Qam,Yl aa hN'];have⟨b,eb,hb2⟩:=YB (N:=N) aa (h:=h) aa aa;rw[eb,Xa,Xa];cases b with
 |false=>rfl
 |true=>
 have hp:=hb2 rfl;rw[Wo,Wa,Wa,Xhv _ _ _ ha.2,Jx,Wn (by simp[hp.conf])];by_cases hr:4096<=a/\a<4096+h.c.p*h.c.W;case neg=>simp[Wn,hr,Xa]
 rw[Wq hr,Xa,Xa];have po:=XeH hp.conf hr.1 hr.2;have hpl:=hp.pages;generalize (a-4096) / h.c.W=pn at *;generalize (a-4096) % h.c.W=po' at *;have hpg:=hp.pgs pn aa aa;have hsm:=hpg.small;rw[XH aa aa,Xa,Xa];generalize pg h.p pn=p at hsm⊢;rw[QgU,Xgo aa ha.2];have hcv:=Xl.1 hp.conf;have hmm:=XW hp.conf (i:=0) aa aa;have ew:∃w,Qbb N h.w a=some (w,0)/\tU w:=by rw[Qbb,Qf1,Qdv,XR (show¬a<4096 by omega),Wa,Xx (n:=(h.w.length:Int)) aa aa,Xx (n:=4096+(h.w.length:Int)) aa aa,XR (show¬a>4096+(h.w.length:Int) by have:=hp.words;omega),Wa,Xx (n:=a-4096) aa aa,Xd (n:=a-4096) aa aa,Xd aa aa,Xa];rw[Wg (show 1<=(h.w.length:Int)-(a-4096) by have:=hp.words;omega),Wo,Wa,Xa];simp only[show((0:Int) != 0)=false from rfl,Wa];have hg:=Yj (l:=h.w) (i:=a-4096) aa (by have:=hp.words;omega);exact⟨_,by rw[hg,Xa],ht.word hg⟩
 have⟨w,ew,tw⟩:=ew;rw[ew,Xa,Xa,Xa,XcU hN' tw,Kz,Xa,Xa];simp only[YI (show 1000<N by omega),X1,Xa,XF];have hs:=XdL w;generalize ZF w=d at *;generalize Xz d=s at *;cases okH w with
 |false=>simp
 |true=>
  by_cases k1:p.k=1
  .have k2:(p.k==2)=false:=by rw[k1];rfl
   simp only[show(p.k != 1)=false by simpa using k1,show(p.k==1)=true by simpa using k1,k2,Wb,Wa];by_cases u:po'>=p.u
   .rw[Wg u,Wb,Wb];rfl
   rw[XR u,Wa,Wa];by_cases z:wI (po'+s)>p.u
   .rw[Wg z,Wb];rw[Xd (n:=po'+s) aa aa]at z;have:¬s<=wI (p.u-po'):=by rw[Xd aa aa];omega
    rw[XR this];rfl
   rw[XR z,Wa];rw[Xd (n:=po'+s) aa aa]at z;rw[Xd (n:=p.u-po') aa aa,Wg aa];rfl
  grind
end
section
variable {N:Nat}
def fnd(h:Wk)(a:Int):UJ:=⟨a,hdA h.w a⟩
def Xgp(l:List UJ)(hl:l.length<=1000000):∀(n k:Nat)(v:List Int),k<=l.length->l.length-k<n->v.length=k->Qde N l n (k:Int) v=some (v++(l.drop k).map (·.addr))
 |0,k,v,_,h,_=>by omega
 |n+1,k,v,hk,hn,hv=>by
  rw[Qde];by_cases hlt:k<l.length
  .rw[Wg aa,Wb,Xe,Wc hlt,Xa,Xc aa,Xf aa,Xgp l hl n (k+1) _ aa aa (by simp[hv]),Wr hlt,UA,Ug];rfl
  grind
def XcV(l:List UJ)(hl:l.length<=1000000)(hN:1000000<N):Qcg N l=some (l.map (·.addr)):=by rw[Qcg,show(0:Int)=((0:Nat):Int)from rfl,Xgp l hl N 0 [] aa aa rfl,Xa];simp
def Xoc(h:Wk)(l:List Int):(l.map (fnd h)).map (·.addr)=l:=by rw[List.map_map];exact List.map_id'' (λ_=>rfl) l
def Xtd(h:Wk):Ex (List Int×Int) (List Int)->List UJ×Int
 |.ret r=>([],19)
 |.nxt l=>(l.map (fnd h),0)
def Xd7(hN:NB N){h:Wk}(ht:HT h)(hp:Us h){i:Int}(h0:0<=i)(h1:i<h.p.length)(hk:(pg h.p i).k=1\/(pg h.p i).k=2):∀(n:Nat)(o:Int)(l:List Int),0<=o->(66-o).toNat<n->(l.length:Int)<=o->((pg h.p i).k=1->o<=64)->((pg h.p i).k=2->o=0) ->
 ∃e,Qas N h i (pg h.p i) n o l=some e/\QbS N h i (pg h.p i) n o (l.map (fnd h))=some (Xtd h e)/\(∀r,e=.ret r->r=([],19))
 |0,o,l,ho,hn,hl,k1,k2=>by omega
 |n+1,o,l,ho,hn,hl,k1,k2=>by
  have hN':1000000<N:=by unfold NB at hN;omega
  have hv:=Xl.1 hp.conf;have hpl:=hp.pages;have hsm:=(hp.pgs i h0 h1).small;rw[Qas,QbS];by_cases hlt:o<(pg h.p i).u;case neg=>rw[XR hlt,Wa,Wa];exact⟨_,rfl,rfl,λr e=>by grind⟩
  have hopw:o<h.c.W:=by
   rcases hk with hk|hk
   .omega
   omega
  rw[Wg hlt,Wb,Wb,Vr,KC,hp.conf,Xa,Xa,Wn ab,Wq aa];have hpw:=XW hp.conf (i:=i) h0 aa;have ha:tU (Xg h.c i o):=by unfold Xg;exact⟨aa,aa⟩
  rw[show((0:Int)==0)=true from rfl,Wb,Xa8 hN ht ha];have⟨y,ey,hy⟩:=XdN hN ht.hb (Xg h.c i o);rw[ey,Xa,Xa];by_cases hy0:y.2=0;case neg=>
   rw[show(y.2 != 0)=true by simp_all,show(y.2==0)=false by simp_all,Wb,Wa]
   exact⟨_,rfl,rfl,λr e=>by simp_all⟩
  have⟨_,_,hat,hhd⟩:=hy hy0;have hsz:=YT h.w (Xg h.c i o);have hpi:=XfY hp.conf (p:=i) ho hopw;rw[show(y.2 != 0)=false by simp_all,show(y.2==0)=true by simp_all,Wb,Wa,hhd,Xc aa];rw[YI aa,Xa,hsz.1,Xc (by grind)];rw[show UJ.mk (Xg h.c i o) (hdA h.w (Xg h.c i o))=fnd h (Xg h.c i o)from rfl];have em:l.map (fnd h)++[fnd h (Xg h.c i o)]=(l++[Xg h.c i o]).map (fnd h):=by simp
  rw[em];rcases hk with hk|hk
  .rw[show((pg h.p i).k==2)=false by simp_all,Wa,X1,Xa,hsz.1];have hat1:=hat.small;rw[hpi.1,hpi.2]at hat1;rw[Xd (n:=o+szA h.w (Xg h.c i o)) aa aa];exact Xd7 hN ht hp h0 h1 (.inl hk) n _ _ aa aa (by grind) (λ_=>aa) (λk=>aa)
  rw[show((pg h.p i).k==2)=true by simp_all,Wb];have hat2:=hat.large;rw[hpi.1,hpi.2]at hat2;refine⟨_,rfl,?_,λr e=>by grind⟩;rw[Xd (n:=o+szA h.w (Xg h.c i o)) aa aa];obtain⟨m,rfl⟩:∃m,n=m+1:=⟨n-1,aa⟩
  rw[QbS,XR aa,Wa];rfl
def Yf{h:Wk}(hN:NB N)(hb:HB h)(ep:Qab N h=some true):Us h:=by have⟨b,eb,hb2⟩:=YB (N:=N) (by unfold NB at hN;omega) hb.1 hb.2;simp_all
def Zb(hN:NB N){h:Wk}(hb:HB h):∃b,Qab N h=some b:=by have⟨b,eb,_⟩:=YB (N:=N) (by unfold NB at hN;omega) hb.1 hb.2;simp_all
def XcW(hN:NB N){h:Wk}(ht:HT h)(ep:Qab N h=some true){i:Int}(h0:0<=i)(h1:i<h.p.length):∃r,Qal N h i=some r/\Qf3 N h i=some (r.1.map (fnd h),r.2)/\(r.2≠0->r=([],19)):=by
 have hb:=ht.hb;have hp:=Yf hN hb ep;rw[Qal,Qf3,ep,Xa,XH h0 h1,Xa,Xa,Wo,Wa,XR (show¬i<0 by omega),Wa,XR (show¬i>=_ by omega),Wa];have hkk:=(hp.pgs i h0 h1).kind;have main:((pg h.p i).k=1\/(pg h.p i).k=2)->∃r,(bnd (Qas N h i (pg h.p i) N 0 []) λe=>exK e (λr=>some r) λy8=>some (y8,0))=some r/\QbS N h i (pg h.p i) N 0 []=some (r.1.map (fnd h),r.2)/\(r.2≠0->r=([],19)):=by
  intro hk;obtain⟨e,e1,e2,e3⟩:=Xd7 hN ht hp h0 h1 hk N 0 [] aa (by unfold NB at hN;omega) ab (λ_=>aa) (λ_=>rfl);rw[e1,Xa];rw[Uz]at e2;rw[e2];cases e with
  |ret r=>rw[e3 r rfl];rw[XA];exact⟨_,rfl,rfl,λ_=>rfl⟩
  |nxt l=>rw[Xm];exact⟨_,rfl,rfl,λh=>absurd rfl h⟩
 by_cases k1:(pg h.p i).k=1
 .simp_all
 by_cases k2:(pg h.p i).k=2
 .simp_all
 rw[show((pg h.p i).k != 1)=true by simpa using k1,show((pg h.p i).k != 2)=true by simpa using k2];refine⟨([],0),?_,rfl,λh=>absurd rfl h⟩;grind
def Qod(hN:NB N){h:Wk}(hb:HB h)(i:Int){r:List Int×Int}(e:Qal N h i=some r):r.1.length<=64:=by have:=(QpQ hN hb i).get_eq e;omega
def XcX(hN:NB N){h:Wk}(ht:HT h)(i:Int):Qe2 N h i=Qal N h i:=by
 have hb:=ht.hb;rw[Qe2,Yl (by have:=hb.2;omega) (by unfold NB at hN;omega)];have⟨b,eb⟩:=Zb (N:=N) hN hb;rw[eb,Xa];cases b with
 |false=>simp[Qal,eb,Xa]
 |true=>
 by_cases h0:i<0
 .rw[Qal,eb,Xa,Wg h0];rfl
 by_cases h1:i>=h.p.length
 .rw[Qal,eb,Xa,XR h0,Wg h1];rfl
 have⟨r,e1,e2,e3⟩:=XcW hN ht eb (i:=i) aa aa;rw[Wo,Wa,XR h0,Wa,XR h1,Wa,e2,Xa,e1];have hl:=Qod hN hb i e1;by_cases z:r.2=0
 .rw[show(r.2 != 0)=false by simpa using z,Wa,XcV _ (by rw[W4];omega) (by unfold NB at hN;omega),Xa,Xoc];congr 1;exact Prod.ext rfl z.symm
 simp_all
def Xix(hN:NB N){h:Wk}(ht:HT h)(ep:Qab N h=some true):∀(n k:Nat)(l:List Int),k<=h.p.length->h.p.length-k<n->l.length<=64*k ->
 ∃e,QaN N h n (k:Int) l=some e/\Qf5 N h n (k:Int) (l.map (fnd h))=some (match e with|.ret r=>.ret (r.1.map (fnd h),r.2)|.nxt l=>.nxt (l.map (fnd h)))/\(∀r,e=.ret r->r=([],19))/\(∀l',e=.nxt l'->l'.length<=64*h.p.length)
 |0,k,l,_,h,_=>by omega
 |n+1,k,l,hk,hn,hl=>by
  have hb:=ht.hb;have hb2:=hb.2;rw[QaN,Qf5];by_cases hlt:k<h.p.length;case neg=>rw[Wh (show¬(k:Int)<_ by omega),Wa,Wa];refine⟨_,rfl,rfl,?_,?_⟩<;>intro r e<;>cases e;omega
  rw[Wg (show(k:Int)<_ by omega),Wb,Wb];have⟨r,e1,e2,e3⟩:=XcW hN ht ep (i:=(k:Int)) aa aa;rw[e1,e2,Xa,Xa];have hr:=Qod hN hb (k:Int) e1;by_cases z:r.2=0
  .rw[show(r.2 != 0)=false by simpa using z,Wa,Wa,Xc aa,Xc ah,Xf aa,←List.map_append];exact Xix hN ht ep n (k+1) _ aa aa (by rw[WQ];omega)
  simp_all
def Xod(hN:NB N){h:Wk}(ht:HT h):∃r,Qcs N h=some r/\QhW N h=some (r.1.map (fnd h),r.2)/\(r.2≠0->r.1=[])/\r.1.length<=6400000:=by
 have hb:=ht.hb;have hb2:=hb.2;rw[Qcs,QhW,Yl aa (by unfold NB at hN;omega)];have⟨b,eb⟩:=Zb (N:=N) hN hb;rw[eb,Xa,Xa];cases b with
 |false=>simp
 |true=>
 rw[Wo,Wa,Wa];have⟨e,e1,e2,e3,e4⟩:=Xix hN ht eb N 0 [] aa (by unfold NB at hN;omega) ab;rw[Uz]at e2;rw[show(0:Int)=((0:Nat):Int)from rfl,e1,e2,Xa,Xa];cases e with
 |ret r=>rw[XA];rw[XA,e3 r rfl];simp
 |nxt l=>rw[Xm];grind[Xm]
end
section
variable {N:Nat}
def Ze(f:UJ):Bool:=!(f.hd.k==0)
def JC(h:Wk)(l:List Int):List Int:=l.filter λa=>Ze (fnd h a)
def Xhx(l0:List UJ)(hl:l0.length<=1000000):∀(n i j:Nat)(v:List UJ),i<=j->j<=l0.length->l0.length-j<n->v.length=l0.length->v.drop j=l0.drop j ->
 ∃(i':Nat) (v':List UJ),Qcm N n (i:Int) (j:Int) v=some ((i':Int),v')/\v'.length=l0.length/\i'<=l0.length/\v'.take i'=v.take i++(l0.drop j).filter Ze
 |0,i,j,v,_,_,h,_,_=>by omega
 |n+1,i,j,v,hij,hj,hn,hv,hd=>by
  rw[Qcm,Xc aa];by_cases hlt:j<l0.length;case neg=>
   grind
  have hjv:v[j]'aa=l0[j]:=by have a:=Wr (l:=v) (i:=j) aa;have b:=Wr (l:=l0) (i:=j) aa;rw[hd,b]at a;exact(IU a).1.symm
  have hd1:v.drop (j+1)=l0.drop (j+1):=by have a:=Wr (l:=v) (i:=j) aa;have b:=Wr (l:=l0) (i:=j) aa;rw[hd,b]at a;exact(IU a).2.symm
  rw[Wg aa,Wb,Xe,Wc aa,Xa,Qex,Xa,hjv,Wr hlt];cases hk:(l0[j].hd.k==0)with
  |true=>rw[Wo,Wa,Xf aa,UQ (by unfold Ze;simp_all)];exact Xhx l0 hl n i (j+1) v aa aa aa hv hd1
  |false=>rw[Uf,Wb,Xe,Wc aa,Xa,Xf aa,Xf aa,Uw (by unfold Ze;simp_all)];have⟨i',v',e1,e2,e3,e4⟩:=Xhx l0 hl n (i+1) (j+1) (v.set i l0[j]) aa aa aa (by simp_all) (by rw[Iv aa];omega);refine⟨i',v',e1,e2,e3,?_⟩;rw[e4,List.take_succ,List.getElem?_set_self aa,List.take_set_of_le (Un _)];simp
def Xoe(l:List UJ)(hl:l.length<=1000000)(hN:1000000<N):Qat N l=some (VW (λf=>f.hd.k==0) l):=by
 exact Jl (p:=λf:UJ=>f.hd.k==0) hl hN (λn k x e=>by
  have hk:=XC e
  rw[Qai,Xk hk,Wb,Xe,e,Xa,Qex,Xa,Xf aa]) (λn=>by rw[Qai,Xw,Wa])
def XjE(l:List UJ)(hl:l.length<=1000000)(hN:1000000<N):(bnd (Qat N l) λy2=>
 bif (y2==(-1))then(bnd (Qcg N l) λy11=>
  some (y11,(0:Int)))
 else bnd (Qcm N N y2 (wI (y2+1)) l) λy9=>
 grd (0<=y9.1/\y9.1<=(y9.2.length:Int)/\(y9.2.length:Int)<=(y9.2.length:Int)) <|
 grd (0<=y9.1/\y9.1<=(((((min y9.1.toNat y9.2.length)+(y9.2.length-y9.1.toNat))+(y9.2.length-(y9.1.toNat+(y9.2.length-y9.1.toNat)))):Nat):Int)) <|
 bnd (Qcg N ((((y9.2.take y9.1.toNat)++(List.replicate (y9.2.length-y9.1.toNat) (UJ.mk 0 (Wy.mk 0 0 0))))++(y9.2.drop (y9.1.toNat+(y9.2.length-y9.1.toNat)))).take y9.1.toNat)) λy12=>
 some (y12,0))=some ((l.filter Ze).map (·.addr),0):=by
 rw[Xoe l hl hN,Xa];unfold VW;cases hf:l.findIdx? (λf=>f.hd.k==0)with
 |none=>
  have hall:l.filter Ze=l:=by rw[List.findIdx?_eq_none_iff]at hf;rw[Iu];intro x hx;unfold Ze;rw[hf x hx];rfl
  rw[show((-1:Int)==-1)=true from rfl,Wb,XcV l hl hN,Xa,hall]
 |some j=>
  have⟨hj,hp,hb⟩:=List.findIdx?_eq_some_iff_getElem.1 hf;rw[show((j:Int)==-1)=false by simp,Wa,Xf aa];have⟨i',v',e1,e2,e3,e4⟩:=Xhx (N:=N) l hl N j (j+1) l aa aa aa rfl rfl;rw[e1,Xa];dsimp only;rw[Xc aa,Xc aa,show((i':Int)).toNat=i' from rfl];have et:(((v'.take i')++(List.replicate (v'.length-i') (UJ.mk 0 (Wy.mk 0 0 0))))++(v'.drop (i'+(v'.length-i')))).take i'=v'.take i':=by rw[UA,List.take_append_of_le_length (by grind),List.take_take,WA]
  have ef:l.filter Ze=l.take j++(l.drop (j+1)).filter Ze:=by
   conv=>lhs;rw[←List.take_append_drop j l,List.filter_append,Wr hj,UQ (by unfold Ze;simp_all)]
   congr 1;rw[Iu];intro x hx;obtain⟨k,hk,rfl⟩:=WN hx;rw[Wj]at hk;rw[U7];have:=hb k aa;unfold Ze;simpa using this
  rw[et,e4,←ef];have hle:(l.filter Ze).length<=l.length:=List.length_filter_le _ _;rw[XcV _ aa hN,Xa]
def XaE{h:Wk}(y:List Int×Int)(hy:y.1.length<=1000000)(hev:∀a∈y.1,Qam N h a=some (hdA h.w a,0)):∀(n k:Nat)(v:List Int),k<=y.1.length->y.1.length-k<n->v.length<=k ->
 QaS N h y n (k:Int) v=some (v++JC h (y.1.drop k))
 |0,k,v,_,hn,_=>by omega
 |n+1,k,v,hk,hn,hv=>by
  rw[QaS];by_cases hlt:k<y.1.length
  .rw[Wg aa,Wb,Xe,Wc hlt,Xa,hev _ (WO hlt),Xa,Xf aa,Wr hlt,JC];by_cases hk:(hdA h.w y.1[k]).k=0
   .rw[show((hdA h.w y.1[k]).k != 0)=false by simp_all,Wa,XaE y hy hev n (k+1) v aa aa aa,UQ (by simp[Ze,fnd,hk])];rfl
   rw[show((hdA h.w y.1[k]).k != 0)=true by simp_all,Wb,Xa,Xc aa,XaE y hy hev n (k+1) _ aa aa (by simp_all),Uw (by simp[Ze,fnd,hk])];simp[JC]
  rw[Wh aa,Wa,UE aa];simp[JC]
def Jf(hN:NB N){h:Wk}(ht:HT h):QdO N h=Qay N h:=by
 have hN':1000000<N:=by unfold NB at hN;omega
 have⟨r,e1,e2,e3,_⟩:=Xod hN ht;have⟨hs,hp,_⟩:=(VE hN ht.hb).get_eq e1;have hlen:=hs.len;rw[QdO,Qay,e1,e2,Xa,Xa];rw[show(0:Int)=((0:Nat):Int)from rfl,XaE r aa hs.obj.ev N 0 [] aa aa ab,Xa,WX,Uh];by_cases z:r.2=0
 .rw[show(r.2 != ((0:Nat):Int))=false by simp_all,Wa];have:=XjE (N:=N) (r.1.map (fnd h)) (by grind) hN';rw[show((0:Nat):Int)=0 from rfl,this,z];congr 2;rw[List.filter_map,List.map_map];exact List.map_id'' (λ_=>rfl) _
 rw[show(r.2 != ((0:Nat):Int))=true by simp_all,Wb,e3 z];rfl
end
section
variable {N:Nat}
def exM{α β γ:Type}(f:α->γ):Ex α β->Ex γ β
 |.ret a=>.ret (f a)
 |.nxt b=>.nxt b
def IG.tu{h:Wk}(hp:Us h){a:Int}(ha:IG h a):tU a:=by have:=ha.rng;have:=XW hp.conf (i:=0) aa (by have:=Xl.1 hp.conf;omega);exact⟨aa,aa⟩
def Xd8(hN:NB N){h:Wk}(ht:HT h)(hp:Us h){i:Int}(h0:0<=i)(h1:i<h.p.length)(l:List Int)(hl:l.length<=4096)(hat:∀a∈l,IG h a)(hev:∀a∈l,Qam N h a=some (hdA h.w a,0)):∀(n k:Nat),k<=l.length->l.length-k<n ->
 ∃e,Qbv N h i l n (k:Int)=some e/\Qci N h i l n (k:Int)=some (exM (λa=>(a,true)) e)/\∀a,e=.ret a->a∈l
 |0,k,_,hn=>by omega
 |n+1,k,hk,hn=>by
  rw[Qbv,Qci];by_cases hlt:k<l.length;case neg=>rw[Wh aa,Wa,Wa];exact⟨_,rfl,rfl,λa e=>by grind⟩
  have hm:=WO hlt;have hne:1000<N:=by unfold NB at hN;omega
  have nx:=Xd8 hN ht hp h0 h1 l hl hat hev n (k+1) aa aa;simp only[Wg (show(k:Int)<(l.length:Int) by omega),Wb,Xe,Wc hlt,Xa,Xa8 hN ht ((hat _ hm).tu hp),hev _ hm,YI hne,X1,XlH,XfU,XH h0 h1,Xf (show k<=140737488355328 by omega)];cases ((pg h.p i).k==1)<;>cases ((pg h.p i).k==2)<;>cases (decide (Xz (hdA h.w l[k])<=smC h.c))<;>cases ((hdA h.w l[k]).k==0);all_goals simp only[Wb,Wa,Wo,Uf]
  all_goals first
   |exact nx
   |exact⟨_,rfl,rfl,λa e=>by cases e;exact hm⟩
def XjF(hN:NB N){h:Wk}(ht:HT h)(hp:Us h){i:Int}(h0:0<=i)(h1:i<h.p.length)(l:List Int)(hl:l.length<=4096)(hat:∀a∈l,IG h a)(hev:∀a∈l,Qam N h a=some (hdA h.w a,0)):
 ∃a,Qe7 N h i l=some a/\∃b,Qf4 N h i l=some (b,a != 0):=by
 have⟨e,e1,e2,e3⟩:=Xd8 hN ht hp h0 h1 l hl hat hev N 0 aa (by unfold NB at hN;omega);rw[Qe7,Qf4,show(0:Int)=((0:Nat):Int)from rfl,e1,e2,Xa,Xa];cases e with
 |ret a=>have:=(hat a (e3 a rfl)).rng;simp only[exM,XA];exact⟨a,rfl,a,by rw[show(a != ((0:Nat):Int))=true by grind]⟩
 |nxt u=>simp[exM,Xm]
def Xgq{h:Wk}(hf:(pg h.p 0).k≠3)(hl:h.p.length<=100000):∀(n i:Nat),i<h.p.length->i<n->QeO N h n (i:Int)=QdV N h n (i:Int)
 |0,i,_,hn=>by omega
 |n+1,i,hi,hn=>by
  rw[QeO,QdV,XH aa aa,Xa,Xa];cases i with
  |zero=>grind
  |succ j=>rw[Wg aa,Wb,Xd aa aa,show((j+1:Nat):Int)-1=(j:Int) by omega,Xgq hf hl n j aa aa]
def XlN(hN:NB N){h:Wk}(hb:HB h)(hp:Us h){i:Int}(h0:0<=i)(h1:i<h.p.length):Qhe N h i=Qfz N h i:=by
 obtain⟨k,rfl⟩:∃k:Nat,i=(k:Int):=⟨i.toNat,aa⟩
 have:=hb.2;rw[Qhe,Qfz,Xgq hp.first this N k aa (by unfold NB at hN;omega)]
def VQ(h:Wk)(a:Int):Int:=if(hdA h.w a).k=0 then 1 else szA h.w a
def XrA(h:Wk)(i:Int)(l:List Int)(k:Int):Bool:=l.any λa=>decide (a-Xg h.c i 0<=k/\k<a-Xg h.c i 0+VQ h a)
def Xiy(h:Wk)(hp:Us h)(i:Int)(h0:0<=i)(h1:i<h.p.length)(l:List Int)(k:Nat)(a:Int)(hk:l[k]? = some a)(x:Int)(hx:x<=256)(ha:4096<=a/\a<=8192):∀(n:Nat)(w:Int)(u:List Bool),0<=w->(x-w).toNat<n->u.length<=1000 ->
 ∃u',QbF N h i l (k:Int) x n w u=some u'/\u'.length=u.length/\∀j,j<u.length->u'.getD j false=(u.getD j false||decide (a-Xg h.c i 0+w<=j/\(j:Int)<a-Xg h.c i 0+x))
 |0,w,u,_,hn,_=>by omega
 |n+1,w,u,hw,hn,hu=>by
  have hpl:=hp.pages;have hv:=Xl.1 hp.conf;have hm:=XW hp.conf (i:=i) h0 aa;rw[QbF];by_cases hlt:w<x;case neg=>
   rw[XR hlt,Wa]
   exact⟨u,rfl,rfl,λj hj=>by rw[XR (show¬_ by omega),Bool.or_false]⟩
  have ad:Xg h.c i 0=4096+i*h.c.W:=by unfold Xg;omega
  rw[Wg hlt,Wb,Xe,hk,Xa];rw[Xd (n:=a) aa aa,Xd (n:=a-4096) aa aa,Xd (n:=a-4096+w) aa aa,Xd (n:=i*h.c.W) aa aa,Xd (n:=a-4096+w-i*h.c.W) aa aa,Xd (n:=w+1) aa aa];generalize hq:a-4096+w-i*h.c.W=q;have step:∀v:List Bool,v.length=u.length->(∀j,j<u.length->v.getD j false=(u.getD j false||decide ((j:Int)=q)))->∃u',QbF N h i l (k:Int) x n (w+1) v=some u'/\u'.length=u.length/\∀j,j<u.length->u'.getD j false=(u.getD j false||decide (a-Xg h.c i 0+w<=j/\(j:Int)<a-Xg h.c i 0+x)):=by intro v hv1 hv2;obtain⟨u',e1,e2,e3⟩:=Xiy h hp i h0 h1 l k a hk x hx ha n (w+1) v aa aa aa;refine⟨u',e1,e2.trans hv1,λj hj=>?_⟩;rw[e3 j aa,hv2 j hj,Bool.or_assoc];congr 1;rw[←Bool.decide_or];exact decide_eq_decide.2 aa
  by_cases q0:q>=0;case neg=>
   rw[XR q0,Wa]
   exact step u rfl λj hj=>by rw[XR (show¬(j:Int)=q by omega),Bool.or_false]
  rw[Wg q0,Wb,Xc aa];by_cases q1:q<u.length;case neg=>
   rw[XR q1,Wa]
   exact step u rfl λj hj=>by rw[XR (show¬(j:Int)=q by omega),Bool.or_false]
  rw[Wg q1,Wb,Yj q0 q1,Xa];refine step _ (by rw[WR]) λj hj=>?_;rw[Wp,In];grind
end
section
variable {N:Nat}
def XjG(h:Wk)(i:Int)(k:Int)(a:Int):Bool:=decide (a-Xg h.c i 0<=k/\k<a-Xg h.c i 0+VQ h a)
def Xe0(h:Wk)(i:Int)(l:List Int)(k:Int):XrA h i l k=l.any (XjG h i k):=rfl
def XlO(h:Wk)(a:Int):1<=VQ h a/\VQ h a<=256:=by have:=YT h.w a;unfold VQ;omega
def Xiz(hN:NB N){h:Wk}(hp:Us h)(i:Int)(h0:0<=i)(h1:i<h.p.length)(l:List Int)(hl:l.length<=4096)(hat:∀a∈l,IG h a)(hev:∀a∈l,Qam N h a=some (hdA h.w a,0)):∀(n k:Nat)(u:List Bool),k<=l.length->l.length-k<n->u.length<=1000 ->
 ∃u',Qdf N h i l n (k:Int) u=some u'/\u'.length=u.length/\∀j:Nat,j<u.length->u'.getD j false=(u.getD j false||(l.drop k).any (XjG h i (j:Int)))
 |0,k,u,_,hn,_=>by omega
 |n+1,k,u,hk,hn,hu=>by
  have hv:=Xl.1 hp.conf;have hm:=XW hp.conf (i:=0) aa aa;have hN':1000000<N:=by unfold NB at hN;omega
  rw[Qdf];by_cases hlt:k<l.length;case neg=>
   rw[Wh aa,Wa,UE aa]
   exact⟨u,rfl,rfl,λj hj=>ab⟩
  have hmem:=WO hlt;have hr:=(hat _ hmem).rng;have hx:=XlO h l[k];have hsz:=YT h.w l[k];have e:∀kk:Int->Option (List Bool),(jn kk λj1=>bif ((hdA h.w l[k]).k==0)then j1 1 else j1 (Xz (hdA h.w l[k])))=kk (VQ h l[k]):=by
   intro kk;rw[XF];unfold VQ;rw[hsz.1];by_cases q:(hdA h.w l[k]).k=0
   .rw[Wq q,show((hdA h.w l[k]).k==0)=true by simpa using q,Wb]
   rw[Wn q,show((hdA h.w l[k]).k==0)=false by simpa using q,Wa]
  rw[Wg aa,Wb,Xe,Wc hlt,Xa,hev _ hmem,Xa,X1,Xa];rw[e];have⟨u1,f1,f2,f3⟩:=Xiy (N:=N) h hp i h0 h1 l k l[k] (Wc hlt) (VQ h l[k]) hx.2 aa N 0 u aa aa hu;rw[f1,Xa,Xf aa];have⟨u',g1,g2,g3⟩:=Xiz hN hp i h0 h1 l hl hat hev n (k+1) u1 aa aa aa;refine⟨u',g1,g2.trans f2,λj hj=>?_⟩;rw[g3 j aa,f3 j hj,Bool.or_assoc,Wr hlt,List.any_cons];unfold XjG;simp
def Xof(hN:NB N){h:Wk}(hp:Us h)(i:Int)(h0:0<=i)(h1:i<h.p.length)(l:List Int)(hl:l.length<=4096)(hat:∀a∈l,IG h a)(hev:∀a∈l,Qam N h a=some (hdA h.w a,0)):
 ∃u,Qg8 N h i l=some u/\u.length=h.c.W.toNat/\∀j:Nat,j<u.length->u.getD j false=XrA h i l (j:Int):=by have hv:=Xl.1 hp.conf;rw[Qg8,Xc aa,show(0:Int)=((0:Nat):Int)from rfl];have⟨u,e1,e2,e3⟩:=Xiz hN hp i h0 h1 l hl hat hev N 0 (List.replicate h.c.W.toNat false) aa (by unfold NB at hN;omega) (by grind);rw[e1,Xa];rw[WU]at e2 e3;refine⟨u,rfl,e2,λj hj=>?_⟩;rw[e3 j aa,WX,Xe0,show(List.replicate h.c.W.toNat false).getD j false=false by simp_all,U9]
def wdP(h:Wk)(i:Int)(k:Nat):Int:=wd h.w (Xg h.c i 0+k)
def Xog(hN:NB N){h:Wk}(hb:HB h)(hp:Us h){i:Int}(h0:0<=i)(h1:i<h.p.length){k:Nat}(hk:(k:Int)<h.c.W):QfA N h i (k:Int)=some (wdP h i k):=by
 have hpl:=hp.pages;have hm:=XW hp.conf (i:=i) h0 aa;rw[QfA,Qg9,KC,hp.conf,Wn ab,Wq aa,Xa,YK (by unfold BIG;have:=hb.1;omega),Xa,Xa];have ea:Xg h.c i (k:Int)=Xg h.c i 0+k:=by unfold Xg;omega
 have hw:=hp.words;rw[ea,Wq (by unfold inW Xg;omega)];rfl
def XiA(hN:NB N){h:Wk}(hb:HB h)(hp:Us h){i:Int}(h0:0<=i)(h1:i<h.p.length)(u:List Bool)(hu:u.length=h.c.W.toNat):∀(n k:Nat),k<=u.length->u.length-k<n ->
 ∃e,QcH N h i u n (k:Int)=some e/\((∃j,k<=j/\j<u.length/\u.getD j false=false/\wdP h i j≠0)->∃a,e=.ret a/\a≠0)/\((¬∃j,k<=j/\j<u.length/\u.getD j false=false/\wdP h i j≠0)->e=.nxt ())
 |0,k,_,hn=>by omega
 |n+1,k,hk,hn=>by
  have hpl:=hp.pages;have hm:=XW hp.conf (i:=i) h0 aa;rw[QcH];by_cases hlt:k<u.length;case neg=>
   grind
  rw[Wg aa,Wb,Xe,Wc hlt,Xa,Xog hN hb hp h0 h1 aa,Xa,Xf aa];have hg:u.getD k false=u[k]:=by rw[Wp,Wc hlt];rfl
  have skip:(u[k]=true\/wdP h i k=0)->∃e,QcH N h i u n ((k+1:Nat):Int)=some e/\((∃j,k<=j/\j<u.length/\u.getD j false=false/\wdP h i j≠0)->∃a,e=.ret a/\a≠0)/\((¬∃j,k<=j/\j<u.length/\u.getD j false=false/\wdP h i j≠0)->e=.nxt ()):=by
   intro hs;obtain⟨e,e1,e2,e3⟩:=XiA hN hb hp h0 h1 u hu n (k+1) aa aa;refine⟨e,e1,λ⟨j,a,b,c,d⟩=>e2 ⟨j,?_,b,c,d⟩,λhh=>e3 λ⟨j,a,b⟩=>hh ⟨j,aa,b⟩⟩;by_cases hjk:j=k
   .simp_all
   omega
  cases hc:u[k]with
  |true=>simp_all
  |false=>
   by_cases hz:wdP h i k=0
   .simp_all
   rw[show(wdP h i k != 0)=true by simp_all,Wb,QfP,Xa];refine⟨_,rfl,λ_=>⟨_,rfl,?_⟩,λhh=>absurd ⟨k,aa,hlt,by simp_all,hz⟩ hh⟩;rw[Xd (n:=i*h.c.W) aa aa,Xd (n:=4096+i*h.c.W) aa aa,Xd aa aa,Xx aa aa];omega
end
section
variable {N:Nat}
def Kt(L x:Int):Int:=if L<(if x<0 then 0 else x)then L else(if x<0 then 0 else x)
def Xe1{v:List Int}{lo hi:Nat}(h1:lo<=hi)(h2:hi<=v.length):(((v.take lo)++(List.replicate (hi-lo) 0))++(v.drop (lo+(hi-lo)))).length=v.length:=by grind
def XiB{v:List Int}{lo hi:Nat}(h1:lo<=hi)(h2:hi<=v.length)(j:Nat):(((v.take lo)++(List.replicate (hi-lo) 0))++(v.drop (lo+(hi-lo)))).getD j 0=if lo<=j/\j<hi then 0 else v.getD j 0:=by grind
def Xgr(hN:NB N){h:Wk}(ht:HT h)(hp:Us h)(i:Int)(h0:0<=i)(h1:i<h.p.length)(y4:List Int×Int)(hl:y4.1.length<=4096)(hat:∀a∈y4.1,IG h a)(hev:∀a∈y4.1,Qam N h a=some (hdA h.w a,0)):∀(n k:Nat)(v:List Int),k<=y4.1.length->y4.1.length-k<n->v.length<=1000 ->
 ∃v',Qd2 N h (Xg h.c i 0,0) y4 n (k:Int) v=some v'/\v'.length=v.length/\∀j:Nat,j<v.length->v'.getD j 0=if(y4.1.drop k).any (XjG h i (j:Int))=true then 0 else v.getD j 0
 |0,k,v,_,hn,_=>by omega
 |n+1,k,v,hk,hn,hv=>by
  have hcv:=Xl.1 hp.conf;have hpl:=hp.pages;have hm:=XW hp.conf (i:=i) h0 aa;have hN':1000000<N:=by unfold NB at hN;omega
  rw[Qd2];by_cases hlt:k<y4.1.length;case neg=>
   rw[Wh aa,Wa,UE aa]
   exact⟨v,rfl,rfl,λj hj=>ab⟩
  have hmem:=WO hlt;have hr:=(hat _ hmem).rng;have hx:=XlO h y4.1[k];have hsz:=YT h.w y4.1[k];have e:∀kk:Int->Option (List Int),(jn kk λj1=>bif ((hdA h.w y4.1[k]).k != 0)then(bnd (some (Xz (hdA h.w y4.1[k]))) λy9=>j1 y9)else j1 1)=kk (VQ h y4.1[k]):=by
   intro kk;rw[XF];unfold VQ;rw[hsz.1];by_cases q:(hdA h.w y4.1[k]).k=0
   .rw[Wq q,show((hdA h.w y4.1[k]).k != 0)=false by simpa using q,Wa]
   rw[Wn q,show((hdA h.w y4.1[k]).k != 0)=true by simpa using q,Wb,Xa]
  rw[Wg (show(k:Int)<(y4.1.length:Int) by omega),Wb,Xe,Wc hlt,Xa,Xa8 hN ht ((hat _ hmem).tu hp),hev _ hmem,Xa,YI aa];rw[e];have ad:Xg h.c i 0=4096+i*h.c.W:=by unfold Xg;omega
  have w0:wI y4.1[k]=y4.1[k]:=Xd aa aa;have w1:wI (Xg h.c i 0)=Xg h.c i 0:=Xd aa aa;have w2:wI (y4.1[k]-Xg h.c i 0)=y4.1[k]-Xg h.c i 0:=Xd aa aa;have w3:wI (y4.1[k]-Xg h.c i 0+VQ h y4.1[k])=y4.1[k]-Xg h.c i 0+VQ h y4.1[k]:=Xd aa aa;simp only[w0,w1,w2,w3,Xf (show k<=140737488355328 by omega)];rw[Xc aa,Xc aa];have cl:∀x:Int,(if(v.length:Int)<(if x<0 then 0 else x)then(v.length:Int)else(if x<0 then 0 else x))=Kt v.length x:=λ_=>rfl;have c1:∀x:Int,0<=Kt v.length x/\Kt v.length x<=v.length:=by intro x;unfold Kt;split<;>split<;>omega
  generalize hA:y4.1[k]-Xg h.c i 0=A at *;have a1:=c1 A;have a2:=c1 (A+VQ h y4.1[k]);have a3:Kt v.length A<=Kt v.length (A+VQ h y4.1[k]):=by
   unfold Kt;repeat' split
   all_goals omega
  rw[Xc aa];obtain⟨v',g1,g2,g3⟩:=Xgr hN ht hp i h0 h1 y4 hl hat hev n (k+1) _ aa aa (by rw[Xe1 (v:=v) (lo:=(Kt v.length A).toNat) (hi:=(Kt v.length (A+VQ h y4.1[k])).toNat) aa aa];exact hv);refine⟨v',g1,by rw[g2,Xe1 aa aa],λj hj=>?_⟩;rw[g3 j (by rw[Xe1 aa aa];exact hj),XiB aa aa,Wr hlt,List.any_cons];have ec:XjG h i (j:Int) y4.1[k]=decide ((Kt v.length A).toNat<=j/\j<(Kt v.length (A+VQ h y4.1[k])).toNat):=by
   unfold XjG;rw[hA];refine decide_eq_decide.2 ?_;unfold Kt;repeat' split
   all_goals omega
  grind
def Xoh(l:List Int)(hl:l.length<=1000000)(hN:1000000<N):Qbf N l=some (VW (λx=>x != 0) l):=by
 exact Jl (p:=λx:Int=>x != 0) hl hN (λn k x e=>by
  have hk:=XC e
  rw[Qau,Xk hk,Wb,Xe,e,Xa,Qhf,Xa,Xf aa]) (λn=>by rw[Qau,Xw,Wa])
def XlP(hN:NB N){h:Wk}(ht:HT h)(ep:Qab N h=some true){i:Int}(h0:0<=i)(h1:i<h.p.length):
 ∃a,QfB N h i=some a/\∃b,Qgw N h i=some (b,a != 0):=by
 have hN':1000000<N:=by unfold NB at hN;omega
 have hb:=ht.hb;have hp:=Yf hN hb ep;have hcv:=Xl.1 hp.conf;have hpl:=hp.pages;have hm:=XW hp.conf (i:=i) h0 aa;have ad:Xg h.c i 0=4096+i*h.c.W:=by unfold Xg;omega
 have hw:=hp.words;have⟨pw,hpw⟩:∃pw:Nat,h.c.W=(pw:Int):=⟨h.c.W.toNat,aa⟩
 have hin:Yh h.w (Xg h.c i 0) pw:=by unfold Yh;omega
 have erd:Qc5 N h.w (Xg h.c i 0) h.c.W=some ((h.w.drop (ix (Xg h.c i 0))).take pw,0):=by rw[hpw,XbL (by unfold BIG;omega) N _ pw aa,Wq hin]
 have eadr:Qbq N h.c i 0=some (Xg h.c i 0,0):=by rw[KC,hp.conf,Wn ab,Wq aa]
 have hau:Xg h.c i 0<=18446744073709551615:=aa;have⟨hd,eh,hh0,hh1⟩:=XeM N (h:=h) hp.first N i h0 h1 hb.2 aa;have eh':Qfz N h i=some hd:=by rw[Qfz,eh,Xa]
 have⟨r,er,hr,hlen⟩:=Qhy hN hb hp hd hh0 hh1;have⟨⟨hat,hev,_⟩,_,_⟩:=hr;have⟨u,eu,hu1,hu2⟩:=Xof hN hp i h0 h1 r.1 aa hat hev;have⟨e,e1,e2,e3⟩:=XiA hN hb hp h0 h1 u hu1 N 0 aa aa;rw[QfB,eh',Xa,er,Xa,eu,Xa,show(0:Int)=((0:Nat):Int)from rfl,e1,Xa];rw[Qgw,Vr,eadr,Xa,XlM aa hau];rw[erd,Xa,XlN hN hb hp h0 h1,eh',Xa,XcX hN ht,er,Xa];have hvl:((h.w.drop (ix (Xg h.c i 0))).take pw).length=pw:=by rw[Wj,Wl];unfold ix;unfold Yh at hin;omega
 have⟨v,g1,g2,g3⟩:=Xgr hN ht hp i h0 h1 r aa hat hev N 0 ((h.w.drop (ix (Xg h.c i 0))).take pw) aa aa aa;have g1':Qd2 N h (Xg h.c i 0,0) r N 0 ((h.w.drop (ix (Xg h.c i 0))).take pw)=some v:=g1;have hul:u.length=pw:=by clear e2 e3;omega
 rw[g1',Xa,Xoh v aa hN',Xa];have hany:decide (VW (λx=>x != 0) v>=0)=v.any (λx=>x != 0):=Ke _ v;rw[hany];have hword:∀j,j<pw->((h.w.drop (ix (Xg h.c i 0))).take pw).getD j 0=wdP h i j:=by intro j hj;unfold wdP wd ix;rw[Wp,Uk,Wq hj,UF,Wp];congr 2;omega
 have iff1:v.any (λx=>x != 0)=true↔∃j,0<=j/\j<u.length/\u.getD j false=false/\wdP h i j≠0:=by
  rw[List.any_eq_true];constructor
  .rintro⟨x,hx,hx0⟩;obtain⟨j,hj,rfl⟩:=WN hx;have hj':j<pw:=aa;have:=g3 j aa;rw[Wp,Wc hj,U5,hword j hj',WX,←Xe0]at this;grind
  rintro⟨j,_,hj,hc,hz⟩;have hj':j<v.length:=aa;refine⟨v[j],WO hj',?_⟩;have:=g3 j aa;rw[Wp,Wc hj',U5,hword j aa,WX,←Xe0,←hu2 j hj,hc,Wn ab]at this;grind
 by_cases hex:∃j,0<=j/\j<u.length/\u.getD j false=false/\wdP h i j≠0
 .obtain⟨a,rfl,ha⟩:=e2 hex;rw[XA,iff1.2 hex];simp_all
 have hne:=e3 hex;subst hne;rw[Xm,show v.any (λx=>x != 0)=false by rw[←IQ];exactλhh=>hex (iff1.1 hh)];simp
end
def Jg{α β:Type}{L:Nat}{F:Nat->Int->Option (Ex α β)}{p:Nat->Prop}{Q:α->Prop}{u:β}(hbad:∀n k,k<L->p k->∃a,F (n+1) (k:Int)=some (.ret a)/\Q a)(hok:∀n k,k<L->¬p k->F (n+1) (k:Int)=F n ((k+1:Nat):Int))(hstop:∀n,F (n+1) (L:Int)=some (.nxt u)):∀(n k:Nat),k<=L->L-k<n ->
 ∃e,F n (k:Int)=some e/\((∃j,k<=j/\j<L/\p j)->∃a,e=.ret a/\Q a)/\((¬∃j,k<=j/\j<L/\p j)->e=.nxt u)
 |0,k,_,hn=>by omega
 |n+1,k,hk,hn=>by
  by_cases hlt:k<L;case neg=>
   grind
  by_cases hp:p k
  .have⟨a,e,hq⟩:=hbad n k hlt hp;exact⟨_,e,λ_=>⟨a,rfl,hq⟩,λhh=>absurd ⟨k,Un _,hlt,hp⟩ hh⟩
  have⟨e,e1,e2,e3⟩:=Jg hbad hok hstop n (k+1) aa aa;refine⟨e,(hok n k hlt hp).trans e1,λ⟨j,a,b,c⟩=>e2 ⟨j,?_,b,c⟩,λhh=>e3 λ⟨j,a,b⟩=>hh ⟨j,aa,b⟩⟩;grind
section
variable {N:Nat}
def XlQ(l:List Int)(x:Int)(hl:l.length<=1000000)(hs:l.Pairwise (·<·)):∀(n lo hi:Nat),lo<=hi->hi<=l.length->hi-lo<n->(∀i(h:i<l.length),i<lo->l[i]<x)->(∀i(h:i<l.length),hi<=i->x<=l[i]) ->
 ∃k:Nat,Qaq N l x n (lo:Int) (hi:Int)=some (k:Int)/\k<=l.length/\(∀i(h:i<l.length),i<k->l[i]<x)/\(∀i(h:i<l.length),k<=i->x<=l[i])
 |0,lo,hi,_,_,hn,_,_=>by omega
 |n+1,lo,hi,h1,h2,hn,ha,hb=>by
  rw[Qaq];by_cases hlt:lo<hi;case neg=>
   grind
  have hmid:wI (YA .u64 (wU (wI ((lo:Int)+hi))) 1)=(((lo+hi) / 2:Nat):Int):=by rw[Xd (n:=(lo:Int)+hi) aa aa,Xx aa aa,show YA .u64 ((lo:Int)+hi) 1=((lo:Int)+hi) / 2 from YQ _ 1 aa aa,Xd aa aa];omega
  have hm:(lo+hi) / 2<l.length:=aa;have hlm:lo<=(lo+hi) / 2/\(lo+hi) / 2<hi:=aa;generalize (lo+hi) / 2=m at *;rw[Wg aa,Wb,hmid,Xe,Wc hm,Xa,Qf9,QeC,Xa,show(l[m] != l[m])=false by simp,Wa,Xa];have hpw:=UI.1 hs;by_cases hc:l[m]<x
  .rw[Wg hc,Wb,Xf aa];refine XlQ l x hl hs n (m+1) hi aa h2 aa (λi h hi'=>?_) hb;grind
  rw[Wh hc,Wa];refine XlQ l x hl hs n lo m aa aa aa ha (λi h hi'=>?_);grind
def XlR(l:List Int)(x:Int)(hl:l.length<=1000000)(hN:1000000<N)(hs:l.Pairwise (·<·)):∃k:Int,Qaw N l x=some (k,l.contains x):=by
 have⟨k,e,hk,h1,h2⟩:=XlQ (N:=N) l x hl hs N 0 l.length aa aa aa (λi h hi=>aa) (λi h hi=>aa);rw[Qaw,show(0:Int)=((0:Nat):Int)from rfl,e,Xa];by_cases hlt:k<l.length
 .rw[Wg aa,Wb,Xe,Wc hlt,Xa];by_cases hx:l[k]=x
  .refine⟨k,?_⟩;grind
  refine⟨k,?_⟩;rw[show(l[k]==x)=false by simpa using hx,Wa,Xa,Qdk,Xa,show(l[k] != l[k])=false by simp,Wa];have:l.contains x=false:=by
   rw[←IQ,II];intro hm;obtain⟨i,hi,rfl⟩:=WN hm;have hpw:=UI.1 hs;by_cases hik:i<k
   .have:=h1 i hi hik;omega
   have a:=h2 k hlt (Un _);by_cases heq:i=k
   .subst heq;exact hx rfl
   have:=hpw k i hlt hi aa;omega
  grind
 refine⟨k,?_⟩;have:l.contains x=false:=by rw[←IQ,II];intro hm;obtain⟨i,hi,rfl⟩:=WN hm;have:=h1 i hi aa;omega
 grind
def Oe.asc{h:Wk}{l:List Int}(o:Oe N h l):l.Pairwise (·<·):=
 o.pw.imp λ{a b} hab=>by have:=(YT h.w a).2;omega
def VX{d:Wy}:∀{k:Nat}{i x:Int},i<=x->x<i+k->Ji d x=true->x∈Yz d k i
 |0,i,x,h1,h2,_=>by omega
 |k+1,i,x,h1,h2,h3=>by
  simp only[Yz,WG];by_cases hx:x=i
  .simp_all
  right;exact VX aa aa h3
def Xa9{d:Wy}(hv:XI d=true){x:Int}:x∈Zi d↔0<=x/\x<d.n/\Ji d x=true:=by
 unfold Zi;rw[Wq hv];constructor
 .intro h;have:=JO h;grind
 intro h;exact VX aa aa h.2.2
end
section
variable {N:Nat}
def Xp8(h:Wk)(l:List Int)(a i:Int):Prop:=wd h.w (a+1+i)≠0/\l.contains (wd h.w (a+1+i))=false
def Xaa(h:Wk)(l:List Int)(a:Int):Prop:=∃i,i∈Zi (hdA h.w a)/\Xp8 h l a i
def VM(h:Wk)(a:Int):XI (hdA h.w a)=true:=ZG _
def Xoi{h:Wk}(hp:Us h){a:Int}(ha:IG h a){i:Int}(h0:0<=i)(h1:i<(hdA h.w a).n):4096<=a+1+i/\a+1+i<4096+h.w.length/\a+1+i<=8192/\(hdA h.w a).n<=255:=by have:=K7 hp ha;have:=ha.rng;have:=YT h.w a;have hv:=Xl.1 hp.conf;have:=XW hp.conf (i:=0) aa aa;have:=hp.words;unfold szA at *;omega
def XrB(hN:NB N){h:Wk}(ht:HT h)(hp:Us h)(y1:List Int×Int)(hl:y1.1.length<=1000000)(hs:y1.1.Pairwise (·<·))(v2:Int){a:Int}(ha:IG h a):
 ∃e,QaJ N h y1 v2 a (Zi (hdA h.w a)) N 0=some e/\(Xaa h y1.1 a->∃b,e=.ret b/\b≠0)/\(¬Xaa h y1.1 a->e=.nxt ()):=by
 have hN':1000000<N:=by unfold NB at hN;omega
 have hb:=ht.hb;have hv:=VM h a;have hb255:=XL hv;have hpl:(Zi (hdA h.w a)).length<=255:=by unfold Zi;rw[Wq hv];have:=JP (d:=hdA h.w a) (k:=(hdA h.w a).n.toNat) (i:=0);omega
 have hmem:∀k(hk:k<(Zi (hdA h.w a)).length),0<=(Zi (hdA h.w a))[k]/\(Zi (hdA h.w a))[k]<(hdA h.w a).n:=λk hk=>by have:=(Xa9 hv).1 (WO hk);omega
 generalize hps:Zi (hdA h.w a)=ps at *;have hr:=ha.rng;have step:∀n k(hk:k<ps.length),QaJ N h y1 v2 a ps (n+1) (k:Int)=bif (wd h.w (a+1+ps[k]) != 0)then(bif (!y1.1.contains (wd h.w (a+1+ps[k])))then some (.ret (a+1+ps[k]))else QaJ N h y1 v2 a ps n ((k+1:Nat):Int))else QaJ N h y1 v2 a ps n ((k+1:Nat):Int):=by
  intro n k hk;have hm:=hmem k hk;have hf:=Xoi hp ha hm.1 hm.2;have hw8:(h.w.length:Int)<=100000:=by have:=hb.1;omega
  have w1:wU (wU (a+1)+wU ps[k])=a+1+ps[k]:=by rw[Xx (n:=a+1) aa aa,Xx (n:=ps[k]) aa aa,Xx aa aa]
  rw[QaJ,Wg aa,Wb,Xe,Wc hk,Xa,w1,Xgo aa aa,YK (by unfold BIG;omega),Wq (by unfold inW;omega),Xa];dsimp only;obtain⟨q,eq⟩:=XlR (N:=N) y1.1 (h.w.getD (ix (a+1+ps[k])) 0) hl hN' hs;rw[eq,Xa,Xf aa];rfl
 have key:=Jg (L:=ps.length) (F:=QaJ N h y1 v2 a ps) (p:=λk=>∃hk:k<ps.length,Xp8 h y1.1 a ps[k]) (Q:=λb=>b≠0) (u:=())
  (λn k hk hbad=>by
   obtain⟨hk',h1,h2⟩:=hbad
   refine⟨a+1+ps[k],?_,?_⟩
   .rw[step n k hk,show(wd h.w (a+1+ps[k]) != 0)=true by simpa using h1,Wb,h2];rfl
   grind)
  (λn k hk hnb=>by
   rw[step n k hk]
   by_cases h1:wd h.w (a+1+ps[k])=0
   .simp_all
   .rw[show(wd h.w (a+1+ps[k]) != 0)=true by simp_all,Wb]
    cases h2:y1.1.contains (wd h.w (a+1+ps[k]))with
    |true=>rfl
    |false=>exact absurd ⟨hk,h1,h2⟩ hnb)
  (λn=>by rw[QaJ,Wh aa,Wa]) N 0 aa aa
 have⟨e,e1,e2,e3⟩:=key;refine⟨e,e1,λhbo=>?_,λhbo=>?_⟩
 .have⟨i,hi,hbp⟩:=hbo;rw[hps]at hi;obtain⟨j,hj,rfl⟩:=WN hi;exact e2 ⟨j,UN _,hj,hj,hbp⟩
 refine e3 λ⟨j,_,hj,hj',hbp⟩=>hbo ⟨ps[j],?_,hbp⟩;simp_all
def Xph(hN:NB N){h:Wk}(ht:HT h)(hp:Us h)(y1:List Int×Int)(hl:y1.1.length<=1000000)(hs:y1.1.Pairwise (·<·))(hat:∀a∈y1.1,IG h a)(hev:∀a∈y1.1,Qam N h a=some (hdA h.w a,0)):∀(n k:Nat),k<=y1.1.length->y1.1.length-k<n ->
 ∃r,Qck N h y1 n (k:Int)=some r/\((∃a∈y1.1.drop k,Xaa h y1.1 a)->r≠0)/\((¬∃a∈y1.1.drop k,Xaa h y1.1 a)->r=0)
 |0,k,_,hn=>by omega
 |n+1,k,hk,hn=>by
  have hN':1000000<N:=by unfold NB at hN;omega
  rw[Qck];by_cases hlt:k<y1.1.length;case neg=>
   grind
  have hm:=WO hlt;rw[Wg aa,Wb,Xe,Wc hlt,Xa,Xa8 hN ht ((hat _ hm).tu hp),hev _ hm,Xa,Xd4 aa _ (VM h _),Xa];have⟨e,e1,e2,e3⟩:=XrB hN ht hp y1 hl hs (k:Int) (hat _ hm);rw[e1,Xa,Wr hlt];by_cases hbo:Xaa h y1.1 y1.1[k]
  .grind[XA]
  have:=e3 hbo;subst this;rw[Xm,Xf aa];have⟨r,r1,r2,r3⟩:=Xph hN ht hp y1 hl hs hat hev n (k+1) aa aa;grind
def XlS(hN:NB N){h:Wk}(hb:HB h)(ep:Qab N h=some true){a:Int}(ha:IG h a)(hev:Qam N h a=some (hdA h.w a,0))(hk:(hdA h.w a).k≠0):Qb0 N h a=some (hdA h.w a,0):=by have:=ha.rng;rw[Qb0,ep,Xa,Wo,Wa,show(a==0)=false by simp;omega,Wa,hev,Xa];grind
def XjH(hN:NB N){h:Wk}(hb:HB h)(ep:Qab N h=some true){a:Int}(ha:IG h a)(hev:Qam N h a=some (hdA h.w a,0))(hk:(hdA h.w a).k≠0):∃l,Qfn N h a=some (l,0)/\(l.length:Int)=(hdA h.w a).n/\∀(j:Nat)(hj:j<l.length),l[j]=wd h.w (a+1+j):=by
 have hp:=Yf hN hb ep;have hv:=XL (VM h a);have hr:=ha.rng;have hfit:=K7 hp ha;have hm:=XW hp.conf (i:=0) aa (by have:=Xl.1 hp.conf;omega);have hw:=hp.words;unfold szA at hfit;have⟨m,hm'⟩:∃m:Nat,(hdA h.w a).n=(m:Int):=⟨(hdA h.w a).n.toNat,aa⟩
 rw[Qfn,XlS hN hb ep ha hev hk,Xa];rw[show((0:Int) != 0)=false from rfl,Wa,Xx (n:=a+1) aa aa,hm',XbL (by unfold BIG;omega) N _ m aa,Wq (by unfold Yh;omega),Xa];refine⟨_,rfl,?_,λj hj=>?_⟩
 .rw[Wj,Wl];unfold ix;omega
 rw[U7,Ir];unfold wd;rw[Wp,show ix (a+1+(j:Int))=ix (a+1)+j by unfold ix;omega,Wc (by grind)];rfl
end
section
variable {N:Nat}
def XrC(hN:NB N){h:Wk}(hb:HB h)(hp:Us h)(y1 y6:List Int×Int)(hl:y1.1.length<=1000000)(v2:Int){a:Int}(hv2:Xb y1.1 v2=some a)(ha:IG h a)(hy:(y6.1.length:Int)=(hdA h.w a).n)(hf:∀(j:Nat)(hj:j<y6.1.length),y6.1[j]=wd h.w (a+1+j)):
 ∃e,Qav N h y1 y6 v2 (hdA h.w a,0) N 0=some e/\(Xaa h y1.1 a->∃f,e=.ret f/\f.Fault≠0)/\(¬Xaa h y1.1 a->e=.nxt ()):=by
 have hN':1000000<N:=by unfold NB at hN;omega
 have hv:=VM h a;have hb255:=XL hv;have step:∀n k(hk:k<y6.1.length),Qav N h y1 y6 v2 (hdA h.w a,0) (n+1) (k:Int)=bif Ji (hdA h.w a) (k:Int)then(bif (wd h.w (a+1+k) != 0)then(bif (!y1.1.contains (wd h.w (a+1+k)))then(bnd (QcL N h.c (wU ((wU (a+1))+(wU (k:Int))))) λy13=>some (.ret (Uc.mk 6 y13.1 (wU ((wU (a+1))+(wU (k:Int)))))))else Qav N h y1 y6 v2 (hdA h.w a,0) n ((k+1:Nat):Int))else Qav N h y1 y6 v2 (hdA h.w a,0) n ((k+1:Nat):Int))else Qav N h y1 y6 v2 (hdA h.w a,0) n ((k+1:Nat):Int):=by intro n k hk;rw[Qav,Wg aa,Wb,VD,Xa,Xe,Wc hk,hf k hk,Xf aa];simp only[Xa,YF (wd h.w (a+1+(k:Int))) (show y1.1.length<=1000000000 by omega) (show y1.1.length<N by omega),hv2]
 have key:=Jg (L:=y6.1.length) (F:=Qav N h y1 y6 v2 (hdA h.w a,0)) (p:=λk=>Ji (hdA h.w a) (k:Int)=true/\Xp8 h y1.1 a (k:Int)) (Q:=λf=>f.Fault≠0) (u:=())
  (λn k hk hbad=>by
   obtain⟨h0,h1,h2⟩:=hbad
   rw[step n k hk,h0,Wb,show(wd h.w (a+1+(k:Int)) != 0)=true by simpa using h1,Wb,h2,Uf,Wb,Jx,Xa]
   simp)
  (λn k hk hnb=>by
   rw[step n k hk]
   cases h0:Ji (hdA h.w a) (k:Int)with
   |false=>rfl
   |true=>
   rw[Wb]
   by_cases h1:wd h.w (a+1+(k:Int))=0
   .simp_all
   .rw[show(wd h.w (a+1+(k:Int)) != 0)=true by simp_all,Wb]
    cases h2:y1.1.contains (wd h.w (a+1+(k:Int)))with
    |true=>rfl
    |false=>exact absurd ⟨h0,h1,h2⟩ hnb)
  (λn=>by rw[Qav,Wh aa,Wa]) N 0 aa aa
 have⟨e,e1,e2,e3⟩:=key;refine⟨e,e1,λhbo=>?_,λhbo=>?_⟩
 .have⟨i,hi,hbp⟩:=hbo;have hm:=(Xa9 hv).1 hi;obtain⟨j,rfl⟩:∃j:Nat,i=(j:Int):=⟨i.toNat,aa⟩
  exact e2 ⟨j,UN _,aa,hm.2.2,hbp⟩
 exact e3 λ⟨j,_,hj,hpj,hbp⟩=>hbo ⟨(j:Int),(Xa9 hv).2 ⟨aa,aa,hpj⟩,hbp⟩
def Xpi(hN:NB N){h:Wk}(hb:HB h)(ep:Qab N h=some true)(y1:List Int×Int)(hl:y1.1.length<=1000000)(hat:∀a∈y1.1,IG h a)(hev:∀a∈y1.1,Qam N h a=some (hdA h.w a,0))(hkd:∀a∈y1.1,(hdA h.w a).k≠0):∀(n k:Nat),k<=y1.1.length->y1.1.length-k<n ->
 ∃e,QbU N h y1 n (k:Int)=some e/\((∃a∈y1.1.drop k,Xaa h y1.1 a)->∃f,e=.ret f/\f.Fault≠0)/\((¬∃a∈y1.1.drop k,Xaa h y1.1 a)->e=.nxt ())
 |0,k,_,hn=>by omega
 |n+1,k,hk,hn=>by
  have hp:=Yf hN hb ep;rw[QbU];by_cases hlt:k<y1.1.length;case neg=>
   grind
  have hm:=WO hlt;have hg:Xb y1.1 (k:Int)=some y1.1[k]:=by rw[Xe,Wc hlt]
  have⟨l,f1,f2,f3⟩:=XjH hN hb ep (hat _ hm) (hev _ hm) (hkd _ hm);rw[Wg aa,Wb,hg,Xa,XlS hN hb ep (hat _ hm) (hev _ hm) (hkd _ hm),Xa,Xa,f1,Xa];have⟨e,e1,e2,e3⟩:=XrC hN hb hp y1 (l,0) hl (k:Int) hg (hat _ hm) f2 f3;rw[e1,Xa,Wr hlt];by_cases hbo:Xaa h y1.1 y1.1[k]
  .grind[XA]
  have:=e3 hbo;subst this;rw[Xm,Xf aa];have⟨r,r1,r2,r3⟩:=Xpi hN hb ep y1 hl hat hev hkd n (k+1) aa aa;grind
def JT(hN:NB N){h:Wk}(hb:HB h):∃y,Qay N h=some y/\y.1.length<=4096/\y.1.Pairwise (·<·)/\(∀a∈y.1,IG h a)/\(∀a∈y.1,Qam N h a=some (hdA h.w a,0))/\(∀a∈y.1,(hdA h.w a).k≠0):=by have⟨y,e,hs,_,_⟩:=ZI hN hb;refine⟨y,e,hs.len,hs.obj.asc,hs.obj.at_,hs.obj.ev,?_⟩;have⟨r,er,hr,_,_⟩:=VE hN hb;have hlen:=hr.len;rw[Qay,er,Xa,show(0:Int)=((0:Nat):Int)from rfl,XaE r aa hr.obj.ev N 0 [] aa (by unfold NB at hN;omega) ab,Xa,WX,Uh]at e;cases e;intro a ha;have:=(US.1 ha).2;simp_all[Ze,fnd]
def zF:Uc:=⟨0,0,0⟩
def Xoj(P:Prop)(o:Option Uc):Prop:=∃f,o=some f/\(P->f.Fault≠0)/\(¬P->f=zF)
def Xgs(hN:NB N){h:Wk}(ht:HT h)(ep:Qab N h=some true){y:List Int×Int}(ey:Qay N h=some y):Xoj (∃a∈y.1,Xaa h y.1 a) (Qfu N h)/\Xoj (∃a∈y.1,Xaa h y.1 a) (Qew N h):=by
 have hb:=ht.hb;have hp:=Yf hN hb ep;have⟨y',ey',hl,hs,hat,hev,hkd⟩:=JT hN hb;rw[ey]at ey';cases ey';have hbig:y.1.length<N:=by unfold NB at hN;omega
 constructor
 .have⟨r,e1,e2,e3⟩:=Xph hN ht hp y aa hs hat hev N 0 aa aa;rw[Qfu,Jf hN ht,ey,Xa];have e1':Qck N h y N 0=some r:=e1;rw[e1',Xa];by_cases hbo:∃a∈y.1,Xaa h y.1 a
  .rw[show(r==0)=false by simp_all,Wa];have:∃q,Qch N h.c r=some q:=by
    rw[Qch,KR,Xa];cases hc:X6 h.c with
    |false=>simp
    |true=>
     have:=Xl.1 hc;rw[Wo,Wa];cases decide (r<4096)
     .rw[Wa];cases decide (wU (r-4096)>=wU (wI (h.c.W*h.c.p)))
      .rw[Wa,Xc aa,Xc aa];exact⟨_,rfl⟩
      exact⟨_,rfl⟩
     simp
   have⟨q,eq⟩:=this;rw[eq,Xa];exact⟨_,rfl,λ_=>ab,λhh=>absurd hbo hh⟩
  rw[e3 hbo];exact⟨_,rfl,λhh=>absurd hh hbo,λ_=>rfl⟩
 have⟨e,e1,e2,e3⟩:=Xpi hN hb ep y aa hat hev hkd N 0 aa aa;rw[Qew,ey,Xa];have e1':QbU N h y N 0=some e:=e1;rw[e1',Xa];by_cases hbo:∃a∈y.1,Xaa h y.1 a
 .obtain⟨f,rfl,hf⟩:=e2 hbo;rw[XA];exact⟨_,rfl,λ_=>hf,λhh=>absurd hbo hh⟩
 rw[e3 hbo,Xm];exact⟨_,rfl,λhh=>absurd hh hbo,λ_=>rfl⟩
end
section
variable {N:Nat}
def Xe2(hN:NB N){h:Wk}(ht:HT h)(ep:Qab N h=some true){i:Nat}(h1:i<h.p.length):
 ∃f,QfC N h (i:Int)=some f/\((f.Fault≠0/\∀n,∃f',QaY N h (n+1) (i:Int)=some (.ret f')/\f'.Fault≠0)\/(f.Fault=0/\∀n,QaY N h (n+1) (i:Int)=QaY N h n ((i+1:Nat):Int))):=by
 have hb:=ht.hb;have hp:=Yf hN hb ep;have hpl:h.p.length<=100000:=hb.2;have hg:Xb h.p (i:Int)=some (pg h.p (i:Int)):=XH aa aa;have hst:∀n,QaY N h (n+1) (i:Int)=jn (λ(_:Unit)=>
  bnd (Qe2 N h (i:Int)) λy3=>
  bif (y3.2 != 0)then some (.ret (Uc.mk 3 (i:Int) 0))
  else bnd (Qf4 N h (i:Int) y3.1) λy4=>
  bif y4.2 then some (.ret (Uc.mk 5 (i:Int) y4.1))
  else bnd (Qgw N h (i:Int)) λy5=>
  bif y5.2 then some (.ret (Uc.mk 4 (i:Int) y5.1))
  else QaY N h n ((i+1:Nat):Int)) λj1=>
  bif ((pg h.p (i:Int)).k != 0)then(bif ((pg h.p (i:Int)).s != h.s)then some (.ret (Uc.mk 2 (i:Int) 0))
   else j1 ())
  else j1 ():=by
  intro n
  rw[QaY,Wg aa,Wb,hg,Xa,Xf aa]
 simp only[hst,XF];rw[QfC,XF,hg];simp only[Xa];by_cases hsp:(pg h.p (i:Int)).k≠0/\(pg h.p (i:Int)).s≠h.s
 .rw[show((pg h.p (i:Int)).k != 0)=true by simpa using hsp.1,show((pg h.p (i:Int)).s != h.s)=true by simpa using hsp.2];exact⟨_,rfl,.inl ⟨by show(2:Int)≠0;omega,λn=>⟨_,rfl,by show(2:Int)≠0;omega⟩⟩⟩
 have e1:∀{α:Type}(x y:α),(bif ((pg h.p (i:Int)).k != 0)then(bif ((pg h.p (i:Int)).s != h.s)then x else y)else y)=y:=by
  intro α x y;by_cases k0:(pg h.p (i:Int)).k=0
  .rw[show((pg h.p (i:Int)).k != 0)=false by simpa using k0,Wa]
  have:(pg h.p (i:Int)).s=h.s:=Classical.byContradiction λhh=>hsp ⟨k0,hh⟩;rw[show((pg h.p (i:Int)).s != h.s)=false by simpa using this,Wa,Bool.cond_self]
 simp only[e1];have⟨r,er,hr,hlen⟩:=Qhy hN hb hp (i:Int) aa aa;simp only[XcX hN ht,er,Xa];by_cases hz:r.2=0;case neg=>
  rw[show(r.2 != 0)=true by simpa using hz]
  exact⟨_,rfl,.inl ⟨by show(3:Int)≠0;omega,λn=>⟨_,rfl,by show(3:Int)≠0;omega⟩⟩⟩
 rw[show(r.2 != 0)=false by simpa using hz];have⟨⟨hat,hev,_⟩,_,_⟩:=hr;have⟨a,ea,b,eb⟩:=XjF hN ht hp (i:=(i:Int)) aa aa r.1 aa hat hev;simp only[ea,eb,Xa];by_cases ha:a=0;case neg=>
  rw[show(a != 0)=true by simpa using ha]
  exact⟨_,rfl,.inl ⟨by show(5:Int)≠0;omega,λn=>⟨_,rfl,by show(5:Int)≠0;omega⟩⟩⟩
 rw[show(a != 0)=false by simpa using ha];have⟨d,ed,d',ed'⟩:=XlP hN ht ep (i:=(i:Int)) aa aa;simp only[ed,ed',Xa];by_cases hd:d=0;case neg=>
  rw[show(d != 0)=true by simpa using hd]
  exact⟨_,rfl,.inl ⟨by show(4:Int)≠0;omega,λn=>⟨_,rfl,by show(4:Int)≠0;omega⟩⟩⟩
 simp_all
def XlT(hN:NB N){h:Wk}(ht:HT h)(ep:Qab N h=some true):∃P:Prop,Xoj P (QgN N h)/\∃e,QbK N h N 0=some e/\(P->∃f,e=.ret f/\f.Fault≠0)/\(¬P->e=.nxt ()):=by
 have hb:=ht.hb;have hpl:h.p.length<=100000:=hb.2;have hbig:h.p.length<N:=by unfold NB at hN;omega
 let p:Nat->Prop:=λk=>∃f,QfC N h (k:Int)=some f/\f.Fault≠0;refine⟨∃j,0<=j/\j<h.p.length/\p j,?_,?_⟩
 .have key:=Jg (L:=h.p.length) (F:=QaY N h) (p:=p) (Q:=λ f=>f.Fault≠0) (u:=())
   (λn k hk hbad=>by
    obtain⟨f,ef,hf⟩:=hbad
    obtain⟨f2,ef2,hor⟩:=Xe2 hN ht ep hk
    simp_all)
   (λn k hk hnb=>by
    obtain⟨f2,ef2,hor⟩:=Xe2 hN ht ep hk
    grind)
   (λn=>by rw[QaY,Wh aa,Wa]) N 0 aa aa
  have⟨e,e1,e2,e3⟩:=key;have e1':QaY N h N 0=some e:=e1;unfold Xoj;rw[QgN,e1',Xa];by_cases hP:∃j,0<=j/\j<h.p.length/\p j
  .grind[XA]
  rw[e3 hP,Xm];exact⟨_,rfl,λhh=>absurd hh hP,λ_=>rfl⟩
 have key:=Jg (L:=h.p.length) (F:=QbK N h) (p:=p) (Q:=λ f=>f.Fault≠0) (u:=())
  (λn k hk hbad=>by
   have⟨f,ef,hf⟩:=hbad
   rw[QbK,Wg aa,Wb,ef,Xa,show(f.Fault != 0)=true by simpa using hf]
   exact⟨f,rfl,hf⟩)
  (λn k hk hnb=>by
   have⟨f2,ef2,hor⟩:=Xe2 hN ht ep hk
   have hz:f2.Fault=0:=Classical.byContradiction λhh=>hnb ⟨f2,ef2,hh⟩
   rw[QbK,Wg aa,Wb,ef2,Xa,show(f2.Fault != 0)=false by simpa using hz,Wa,Xf aa])
  (λn=>by rw[QbK,Wh aa,Wa]) N 0 aa aa
 omega
def Xe3{f:Uc}(hf:f.Fault≠0):((f.Fault==0)&&((f.Page==0)&&(f.Addr==0)))=false:=by simp_all
def XcY(hN:NB N){h:Wk}(ht:HT h):QfL N h=Qbm N h:=by
 have hb:=ht.hb;have hpl:h.p.length<=100000:=hb.2;rw[QfL,Qbm,QhC,QgJ,Yl hpl (by unfold NB at hN;omega)];have⟨b,eb⟩:=Zb (N:=N) hN hb;simp only[eb,Xa];cases b with
 |false=>rfl
 |true=>
 rw[Wo,Wa,Wa];have⟨P,⟨f,ef,hf1,hf2⟩,e,e1,e2,e3⟩:=XlT hN ht eb;have⟨y,ey,_⟩:=JT hN hb;have⟨⟨g,eg,hg1,hg2⟩,⟨g',eg',hg1',hg2'⟩⟩:=Xgs hN ht eb ey;simp only[ef,e1,Xa];by_cases hP:P
 .obtain⟨f',rfl,hf'⟩:=e2 hP;simp only[XA,Xe3 (hf1 hP),Uf,Wb,Xa,Xe3 hf']
 rw[e3 hP,hf2 hP];simp only[Xm,eg,eg',Xa,zF,show((0:Int)==0)=true from rfl,Is,Wo,Wa];by_cases hQ:∃a∈y.1,Xaa h y.1 a
 .simp only[Xe3 (hg1 hQ),Uf,Wb,Xa,show(g'.Fault != 0)=true by simpa using hg1' hQ,Xe3 (hg1' hQ)]
 rw[hg2 hQ,hg2' hQ];simp only[zF,show((0:Int)==0)=true from rfl,show((0:Int) != 0)=false from rfl,Is,Wo,Wa];have hl2:∀(n:Nat)(c i:Int),Qcj N h n c i=QbL N h n c i:=by
  intro n;induction n with
  |zero=>intro c i;rw[Qcj,QbL]
  |succ n ih=>
   intro c i;rw[Qcj,QbL];simp only[ih];cases hg:Xb h.p i with
   |none=>simp only[Kr]
   |some p=>simp only[Xa]
 grind
def Xd9(hN:NB N){h:Wk}(ht:HT h){l:List Int}(hl:l.length<=1000000):QdP N h l=Qbc N h l:=by
 have hN':1000000<N:=by unfold NB at hN;omega
 have hb:=ht.hb;rw[QdP,Qbc,XcY hN ht];have⟨b,eb,_⟩:=Kf hN hb;rw[eb,Xa,Xa];cases b with
 |false=>rfl
 |true=>
 have⟨y,ey,hy,hs,_⟩:=JT hN hb;rw[Wo,Wa,Wa,Jf hN ht,ey,Xa,Xa];have hr1:∀x:Int,QeE N x y.1=some (x != 0&&!y.1.contains x):=by intro x;obtain⟨k,ek⟩:=XlR (N:=N) y.1 x aa hN' hs;rw[QeE,ek,Xa];cases (x != 0)<;>rfl
 rw[QaV,Qa4];rw[Jl (p:=λx:Int=>x != 0&&!y.1.contains x) hl hN' (λn k x e=>by
  have hk:=XC e
  rw[Qar,Xk hk,Wb,Xe,e,Xa,hr1,Xa,Xf aa]) (λn=>by rw[Qar,Xw,Wa])]
 rw[Xa,Xa,Ke]
 have key:=Jg (L:=l.length) (F:=QaC N l y) (p:=λk=>∃hk:k<l.length,(l[k] != 0&&!y.1.contains l[k])=true) (Q:=λb=>b=false) (u:=())
  (λn k hk hbad=>by
   obtain⟨hk',hq⟩:=hbad
   simp only[W6]at hq
   refine⟨false,?_,rfl⟩
   rw[QaC,Wg aa,Wb,Xe,Wc hk,Xa,hq.1,Wb,Xa,YF _ aa aa,Xa,hq.2,Wb])
  (λn k hk hnb=>by
   rw[QaC,Wg aa,Wb,Xe,Wc hk,Xa,Xa,YF _ aa aa,Xa,Xf aa]
   grind)
  (λn=>by rw[QaC,Wh aa,Wa]) N 0 aa aa
 have⟨e,e1,e2,e3⟩:=key;have e1':QaC N l y N 0=some e:=e1;rw[e1',Xa];cases hA:l.any (λx=>x != 0&&!y.1.contains x)with
 |true=>have⟨x,hx,hq⟩:=List.any_eq_true.1 hA;obtain⟨j,hj,rfl⟩:=WN hx;obtain⟨b,rfl,hbf⟩:=e2 ⟨j,UN _,hj,hj,hq⟩;simp[XA,hbf]
 |false=>simp_all[List.any_eq_false,Xm]
def ZP(hN:NB N){h:Wk}(ht:HT h){l:List Int}(hl:l.length<=10000000 / 4)(eg:Qbm N h=some true){y:List Int×Int}(ey:Qay N h=some y):Qbc N h l=some (l.all λx=>x==0||y.1.contains x):=by
 have hb:=ht.hb;have⟨y',ey',hy,hs,_⟩:=JT hN hb;rw[ey]at ey';cases ey';have hbig:l.length<N:=by unfold NB at hN;omega
 have hN':1000000<N:=by unfold NB at hN;omega
 rw[Qbc,eg,Xa,Wo,Wa,ey,Xa]
 have key:=Jg (L:=l.length) (F:=QaC N l y) (p:=λk=>∃hk:k<l.length,(l[k]==0||y.1.contains l[k])=false) (Q:=λb=>b=false) (u:=())
  (λn k hk hbad=>by
   obtain⟨hk',hq⟩:=hbad
   simp only[Bool.or_eq_false_iff]at hq
   refine⟨false,?_,rfl⟩
   rw[QaC,Wg aa,Wb,Xe,Wc hk,Xa,show(l[k] != 0)=true by simp_all,Wb,Xa,YF _ aa aa,Xa,hq.2];rfl)
  (λn k hk hnb=>by
   rw[QaC,Wg aa,Wb,Xe,Wc hk,Xa,Xa,YF _ aa aa,Xa,Xf aa]
   grind)
  (λn=>by rw[QaC,Wh aa,Wa]) N 0 aa aa
 have⟨e,e1,e2,e3⟩:=key;have e1':QaC N l y N 0=some e:=e1;rw[e1',Xa];cases hA:l.all (λx=>x==0||y.1.contains x)with
 |false=>have⟨x,hx,hq⟩:=List.all_eq_false.1 hA;obtain⟨j,hj,rfl⟩:=WN hx;obtain⟨b,rfl,hbf⟩:=e2 ⟨j,UN _,hj,hj,by simp_all⟩;rw[XA,hbf]
 |true=>
  have:=e3 λ⟨j,_,hj,hj',hq⟩=>by rw[Ud]at hA;rw[hA _ (WO hj)]at hq;cases hq
  simp_all[Xm]
end
section
variable {N:Nat}
def Xp9(l:List UH)(r:Int)(hl:l.length<=1000000)(hN:1000000<N):QgV N l r=some (VW (λp=>p.a==r) l):=by
 exact Jl (p:=λp:UH=>p.a==r) hl hN (λn k x e=>by
  have hk:=XC e
  rw[Qe8,Xk hk,Wb,Xe,e,Xa,Xf aa]) (λn=>by rw[Qe8,Xw,Wa])
def XlU(l:List UH)(r:Int)(hl:l.length<=1000000)(hN:1000000<N):QfW N l r=some (VW (λp=>p.a==r) l):=by
 rw[QfW,Qa1];rw[Jl (p:=λp:UH=>p.a==r) hl hN (λn k x e=>by
  have hk:=XC e
  rw[Qap,Xk hk,Wb,Xe,e,Xa,Qfj,Xa,Xf aa]) (λn=>by rw[Qap,Xw,Wa]),Xa]
def Xab(hN:NB N){h:Wk}(ht:HT h)(hp:Us h)(pins:List UH)(hpn:pins.length<=1000000)(y:List Int×Int)(hy:y.1.length<=4096)(hs:y.1.Pairwise (·<·))(hat:∀a∈y.1,IG h a):∀(n k:Nat)(v:List Int),k<=pins.length->pins.length-k<n->v.length=h.p.length ->
 ∃e,Qcc N h pins y n (k:Int) v=some e/\Qb4 N pins h y n (k:Int) v=some (match e with|.ret _=>.ret ([],false)|.nxt v=>.nxt v)/\(∀b,e=.ret b->b=false)/\(∀v',e=.nxt v'->v'.length=h.p.length/\∀p∈pins.drop k,y.1.contains p.a=true)
 |0,k,v,_,hn,_=>by omega
 |n+1,k,v,hk,hn,hv=>by
  have hN':1000000<N:=by unfold NB at hN;omega
  rw[Qcc,Qb4];by_cases hlt:k<pins.length;case neg=>
   rw[Wh aa,Wa,Wa]
   grind
  have⟨q,eq⟩:=XlR (N:=N) y.1 pins[k].a aa hN' hs;have hg:Xb pins (k:Int)=some pins[k]:=by rw[Xe,Wc hlt]
  simp only[Wg (show(k:Int)<(pins.length:Int) by omega),Wb,hg,Xa,YF pins[k].a (show y.1.length<=1000000000 by omega) (show y.1.length<N by omega),eq,Xp9 pins pins[k].a hpn hN',XlU pins pins[k].a hpn hN'];cases hc:y.1.contains pins[k].a with
  |false=>simp
  |true=>
  have ha:=hat _ (by rw[II]at hc;exact hc);have hta:=ha.tu hp;have⟨eh,eh1,eh2⟩:=XbS (N:=N) hp ha;have eo:QcL N h.c pins[k].a=some (pgi h.c pins[k].a,pgo h.c pins[k].a,0):=by rw[Jx,Wn (by rw[hp.conf];simp),Wq ha.rng];rfl
  have⟨c,hvc⟩:∃c,Xb v (pgi h.c pins[k].a)=some c:=⟨_,Yj eh1 aa⟩
  simp only[Wo,Wa,eh,Xhv N h.c pins[k].a hta.2,eo,Xa,hvc,Xf (show k<=140737488355328 by omega)];have⟨e,n1,n2,n3,n4⟩:=Xab hN ht hp pins hpn y hy hs hat n (k+1) (v.set (pgi h.c pins[k].a).toNat (wI (c+pins[k].M))) aa aa (by rw[WR];exact hv);have n5:∀v',e=.nxt v'->v'.length=h.p.length/\∀p∈pins.drop k,y.1.contains p.a=true:=λv' hv'=>⟨(n4 v' hv').1,λp hp=>by
   rw[Wr hlt]at hp
   rcases UY.1 hp with rfl|hp
   .exact hc
   .exact(n4 v' hv').2 p hp⟩
  grind
def XjI(hN:NB N){h:Wk}(ht:HT h){pins:List UH}(hpn:pins.length<=1000000):QhG N h pins=Qct N h pins:=by
 have hN':1000000<N:=by unfold NB at hN;omega
 have hb:=ht.hb;have hpl:h.p.length<=100000:=hb.2;rw[QhG,Qct,XcY hN ht];have⟨b,eb,hgd⟩:=Kf hN hb;rw[eb,Xa,Xa];cases b with
 |false=>rfl
 |true=>
 cases decide ((pins.length:Int)>64)with
 |true=>rfl
 |false=>
 have hp:Us h:=(hgd rfl).prop;have⟨y,ey,hy,hs,hat,_⟩:=JT hN hb;rw[Wa,Wa,Qga,Jf hN ht,ey,Xa,Xa];rw[Xc aa];have⟨e,e1,e2,e3,e4⟩:=Xab hN ht hp pins hpn y hy hs hat N 0 (List.replicate (h.p.length:Int).toNat 0) aa aa ab;have e1':Qcc N h pins y N 0 (List.replicate (h.p.length:Int).toNat 0)=some e:=e1;have e2':Qb4 N pins h y N 0 (List.replicate (h.p.length:Int).toNat 0)=_:=e2;rw[Xc aa,e1',e2',Xa,Xa];cases e with
 |ret b=>rw[e3 b rfl,XA,XA,Xa];rfl
 |nxt v=>
  rw[Xm,Xm,Xa];have hl:∀(n:Nat)(i:Int),QeD N h (v,true) n i=QcU N h v n i:=by
   intro n;induction n with
   |zero=>intro i;rw[QeD,QcU]
   |succ n ih=>intro i;rw[QeD,QcU];simp only[ih]
  simp_all
def XcZ(hN:NB N){h:Wk}(ht:HT h){pins:List UH}(hpn:pins.length<=1000000)(em:Qct N h pins=some true):Qbm N h=some true/\pins.length<=64/\∀y,Qay N h=some y->∀p∈pins,y.1.contains p.a=true:=by
 have hb:=ht.hb;have hpl:h.p.length<=100000:=hb.2;rw[Qct]at em;have⟨b,eb,hgd⟩:=Kf hN hb;rw[eb,Xa]at em;cases b with
 |false=>grind
 |true=>
 refine⟨eb,?_,λy ey p hpm=>?_⟩
 .grind
 have hp:Us h:=(hgd rfl).prop;have⟨y',ey',hy,hs,hat,_⟩:=JT hN hb;rw[ey]at ey';cases ey';cases hd:decide ((pins.length:Int)>64)with
 |true=>simp_all
 |false=>
 rw[hd,Wa,ey,Xa,Xc aa]at em;have⟨e,e1,e2,e3,e4⟩:=Xab hN ht hp pins hpn y hy hs hat N 0 (List.replicate (h.p.length:Int).toNat 0) aa (by unfold NB at hN;omega) ab;have e1':Qcc N h pins y N 0 (List.replicate (h.p.length:Int).toNat 0)=some e:=e1;rw[e1',Xa]at em;cases e with
 |ret b=>rw[e3 b rfl,XA]at em;grind
 |nxt v=>simp_all
def Xac{x:W9}(hp:x.P.length<=1000000):∀(n k:Nat)(v:List Int),k<=x.P.length->x.P.length-k<n->v.length<=10000000+k ->
 QeN N x n (k:Int) v=some (v++(x.P.drop k).map (·.a))/\Qbd N x n (k:Int) v=some (v++(x.P.drop k).map (·.a))
 |0,k,v,_,hn,_=>by omega
 |n+1,k,v,hk,hn,hv=>by
  rw[QeN,Qbd];by_cases hlt:k<x.P.length
  .rw[Wg aa,Wb,Wb,Xe,Wc hlt,Xa,Xa,Xc aa,Xc aa,Xf aa];have⟨a,b⟩:=Xac hp n (k+1) (v++[x.P[k].a]) aa aa (by rw[WQ];simp;omega);rw[a,b,Wr hlt,UA,Ug];exact⟨rfl,rfl⟩
  grind
def JU(x:W9):List Int:=((x.R++(bif Y3 x.l then X8 x.l.S else[]))++(bif YZ x.g.e then XT x.g.e else[]))++x.P.map (·.a)
def XlV{x:W9}(hx:EB x):(JU x).length<=104160+x.P.length:=by have h1:=Za hx.loc;have h2:=Ym x.g.e;have h4:=hx.roots;unfold JU;grind
def Xhy(hN:NB N){x:W9}(hx:EB x):QdG N x=some (JU x):=by
 have h1:=Za hx.loc;have h2:=Ym x.g.e;have h3:=hx.pins;have h4:=hx.roots;have hN':1000000<N:=by unfold NB at hN;omega
 rw[QdG,Xc aa,Zk hx.loc hN',Xa,Xc aa,Yk hx.glo hN',Xa,Xc aa];have:=(Xac (N:=N) h3 N 0 ((x.R++(bif Y3 x.l then X8 x.l.S else[]))++(bif YZ x.g.e then XT x.g.e else[])) aa aa (by grind)).2;rw[show(0:Int)=((0:Nat):Int)from rfl,this,Xa,WX];rfl
def Xc0(hN:NB N){x:W9}(hx:EB x):Qgu N x=some (JU x):=by
 have h1:=Za hx.loc;have h2:=Ym x.g.e;have h3:=hx.pins;have h4:=hx.roots;have hN':1000000<N:=by unfold NB at hN;omega
 rw[Qgu,Xa5 hx.loc hN',Xa,KP hx.glo hN',Xa,QhP];have:=(Xac (N:=N) h3 N 0 [] aa aa ab).1;rw[show(0:Int)=((0:Nat):Int)from rfl,this,Xa,Xa,WX,Uh,Qgt,Xa6 _ ab (by simp only[V9,W4];omega) hN',Xa,Xa];unfold JU;simp
structure ET(x:W9):Prop where
 eb:EB x
 tw:XQ x.h
def ET.ht{x:W9}(t:ET x):HT x.h:=⟨t.eb.heap,t.tw⟩
end
section
variable {N:Nat}
def XlW(l:List Int):(!l.all λp=>!(p==0))=l.contains 0:=by grind
def XiC(hN:NB N){x:W9}(ht:ET x):Qgi N x=Qcu N x:=by
 have hN':1000000<N:=by unfold NB at hN;omega
 have hx:=ht.eb;have h1:=Za hx.loc;have h2:=Ym x.g.e;have h5:=Ym x.v.e;have h3:=hx.pins;have h4:=hx.roots;rw[Qgi,Qcu,XjI hN ht.ht h3];have⟨b,eb,_⟩:=JA hN hx.heap h3;rw[eb,Xa,Xa];cases b with
 |false=>rfl
 |true=>
 have⟨eg,hp64,hpn⟩:=XcZ hN ht.ht h3 eb;simp only[Wo,Wa,XcR hx.loc hN',ZB hx.loc hN',XaB hx.glo hN',Zd hx.glo hN',XaB hx.wea hN',Zd hx.wea hN',KP hx.glo hN',Yk hx.glo hN',KP hx.wea hN',Yk hx.wea hN',Zk hx.loc hN',Xa,Xc0 hN hx];cases el:Y3 x.l with
 |false=>rfl
 |true=>
 cases et:YZ x.g.e with
 |false=>rfl
 |true=>
 cases ew:YZ x.v.e with
 |false=>rfl
 |true=>
 have hl:JU x=((x.R++X8 x.l.S)++XT x.g.e)++x.P.map (·.a):=by unfold JU;rw[el,et];rfl
 have hlen:=XlV hx;rw[el,Wb]at h1;rw[et,Wb]at h2;rw[ew,Wb]at h5;simp;rw[XeY aa hN',Xa,XlW,YF 0 aa aa,Xa];cases (XT x.g.e).contains 0 with
 |true=>rfl
 |false=>
 rw[Wa,Wa,Xc aa,Xc aa,Xc aa,Xc aa];rw[Qgt,Xa6 _ ab (by simp only[V9];omega) hN',Xa,Xa];have⟨y,ey,hy,_⟩:=JT hN hx.heap;have e1:[JU x,XT x.v.e].flatten=JU x++XT x.v.e:=by simp
 rw[e1,Xd9 hN ht.ht (by rw[WQ];omega),ZP hN ht.ht (by rw[WQ];omega) eg ey,ZP hN ht.ht ah eg ey,Xa,Xa,hl];grind
end
section
variable {N:Nat}
def XiD(N:Nat)(c:WT):QhQ N c=some (KA c):=by exact XaV N c
def Xba(N:Nat)(ps:List Wt):Qgx N ps=Qcx N ps:=by
 have h:∀(n:Nat)(c i:Int),Qdi N ps n c i=Qbx N ps n c i:=by
  intro n;induction n with
  |zero=>simp[Qdi,Qbx]
  |succ n ih=>simp[Qdi,Qbx,ih]
 rw[Qgx,Qcx,h]
def Xgt(N:Nat)(ps:List Wt)(hl:ps.length<=100000):∀(n k:Nat)(v:List IY),k<=ps.length->v.length<=k->QcD N ps n (k:Int) v=Qbr N ps n (k:Int) v
 |0,k,v,_,_=>by rfl
 |n+1,k,v,hk,hv=>by
  rw[QcD,Qbr];by_cases hlt:k<ps.length;case neg=>grind
  rw[Wg (show(k:Int)<(ps.length:Int) by omega),Wb,Wb,Xe,Wc hlt,Xa,Xa,Xc aa,Xf aa];have e1:∀v':List IY,v'.length<=k+1->QcD N ps n ((k+1:Nat):Int) v'=Qbr N ps n ((k+1:Nat):Int) v':=λv' h=>Xgt N ps hl n (k+1) v' aa h;rw[e1 v aa,e1 (v++[IY.mk (k:Int) 1]) (by simp_all)];have e2:∀(i:Nat)(x:IY),QcD N ps n ((k+1:Nat):Int) (v.set i x)=Qbr N ps n ((k+1:Nat):Int) (v.set i x):=λi x=>e1 _ (by grind);simp only[e2];cases (ps[k].k != 0)with
  |true=>rfl
  |false=>
   rw[Wa,Wa,Xc (show v.length<=140737488355328 by omega)];rw[show decide (wI ((v.length:Int)-1)>=0)=decide ((v.length:Int)>0) by
    rw[Xd aa aa];grind]
def Xbb(hN:1000000<N){ps:List Wt}(hl:ps.length<=100000)(k:Int):QdF N ps k=Qbi N ps k:=by
 have er:QhH N ps=Qgq N ps:=by rw[QhH,Qgq,show(0:Int)=((0:Nat):Int)from rfl,Xgt N ps hl N 0 [] aa ab]
 rw[QdF,Qbi,er];have⟨rs,ers,hrs,_⟩:=Xh9 (N:=N) (ps:=ps) aa aa;rw[ers,Xa,Xa];by_cases hk:k<1
 .rw[Wg hk,Wb];have:∀(n j:Nat),j<=rs.length->rs.length-j<n->Qbw N k rs n (j:Int)=some (.nxt ()):=by
   intro n;induction n with
   |zero=>omega
   |succ n ih=>
    intro j hj hn;rw[Qbw];by_cases hlt:j<rs.length
    .rw[Wg aa,Wb,XR (show¬k>=1 by omega),Wa,Xf aa];exact ih (j+1) aa aa
    grind
  have h0:=this N 0 aa aa;rw[show((0:Nat):Int)=0 from rfl]at h0;rw[h0,Xa,Xm]
 have:∀(n:Nat)(j:Int),Qd3 N k rs n j=Qbw N k rs n j:=by
  intro n;induction n with
  |zero=>intro j;rw[Qd3,Qbw]
  |succ n ih=>
   intro j;rw[Qd3,Qbw,Wg (show k>=1 by omega),Wb];simp only[ih];cases Xb rs j with
   |none=>simp only[Kr]
   |some p=>simp only[Xa]
 grind
def XaF(hN:1000000<N)(c:WT)(d:Wy):QgC N c d=Qcf N c d:=by
 rw[QgC,Qcf,K1 aa,Y8,YI aa,X1];simp only[Xa,Vq,Zp (show 10<=N by omega)];have hr:=KB c (Xz d);rw[show decide (Xy c (Xz d)>=0)=(Xy c (Xz d) != -1) by
  grind]
end
section
variable {N:Nat}
def Vt(p:Wt):Bool:=p.k != 0
def Xc1(N:Nat)(ps:List Wt)(hl:ps.length<=1000000):∀(n c k:Nat),k<=ps.length->c<=k->ps.length-k<n->Qbx N ps n (c:Int) (k:Int)=some (((c+(ps.drop k).countP Vt:Nat):Int))
 |0,c,k,_,_,h=>by omega
 |n+1,c,k,hk,hc,hn=>by
  rw[Qbx];by_cases hlt:k<ps.length
  .rw[Wg aa,Wb,Xe,Wc hlt,Xa,Xf aa,Xf aa,Wr hlt,List.countP_cons];cases hb:(ps[k].k != 0)with
   |true=>rw[Wb,Xc1 N ps hl n (c+1) (k+1) aa aa aa,Wq (show Vt ps[k]=true from hb)];congr 1;omega
   |false=>rw[Wa,Xc1 N ps hl n c (k+1) aa aa aa,Wn (show¬Vt ps[k]=true by unfold Vt;rw[hb];simp)];rfl
  grind
def XlX(hN:1000000<N){ps:List Wt}(hl:ps.length<=100000):Qcx N ps=some ((ps.countP Vt:Nat):Int):=by rw[Qcx,show(0:Int)=((0:Nat):Int)from rfl,Xc1 N ps aa N 0 0 aa aa aa,Xa,WX,Uy]
def Z0(ps l:List Wt)(i:Nat):List Wt:=(ps.take i++l)++ps.drop (i+l.length)
def Vu{ps l:List Wt}{i:Nat}(h:i+l.length<=ps.length):(Z0 ps l i).length=ps.length:=by unfold Z0;grind
def Xe4(hl:Nat)(i k:Nat)(f r:Wt)(ps:List Wt)(hps:ps.length<=100000)(hik:i+k<=ps.length):∀(n m:Nat),m<=k->k-m<n ->
 QdW N (i:Int) (k:Int) f r n (m:Int) (Z0 ps (List.replicate m r) i)=some (if((ps.drop (i+m)).take (k-m)).any Vt=true then .ret ([],20)else .nxt (Z0 ps (List.replicate k r) i))
 |0,m,_,h=>by omega
 |n+1,m,hm,hn=>by
  rw[QdW];by_cases hlt:m<k;case neg=>
   obtain rfl:m=k:=aa
   simp
  have hg:(Z0 ps (List.replicate m r) i)[i+m]? = some (ps[i+m]'aa):=by unfold Z0;rw[UZ (by grind),UF];simp only[WQ,Wj,WU];rw[show i+m+(i+m-(min i ps.length+m))=i+m by omega];exact Wc aa
  have hs:(Z0 ps (List.replicate m r) i).set (i+m) r=Z0 ps (List.replicate (m+1) r) i:=by unfold Z0;rw[IJ _ _ (by grind)];simp only[WQ,Wj,WU];rw[show i+m-(min i ps.length+m)=0 by omega,Wr (show i+m<ps.length by omega),Ic,List.replicate_succ',←UA (ps.take i),UA (ps.take i++List.replicate m r)];rfl
  have hw:wI ((i:Int)+(m:Int))=((i+m:Nat):Int):=by rw[Xd aa aa];omega
  rw[Wg aa,Wb,hw,Xe,hg,Xa,Xa,Xf aa,show(((i+m:Nat):Int)).toNat=i+m from rfl,hs];have hd:(ps.drop (i+m)).take (k-m)=ps[i+m]'aa::(ps.drop (i+(m+1))).take (k-(m+1)):=by rw[Wr (show i+m<ps.length by omega),show k-m=(k-(m+1))+1 by omega,List.take_succ_cons];rfl
  rw[hd,List.any_cons];cases hb:((ps[i+m]'aa).k != 0)with
  |true=>rw[Wb,show Vt (ps[i+m]'aa)=true from hb,Bool.true_or,Wq rfl]
  |false=>rw[Wa,show Vt (ps[i+m]'aa)=false from hb,U9];exact Xe4 hl i k f r ps hps hik n (m+1) aa aa
def XjJ{α:Type}(p:α->Bool)(l:List α):decide (((l.countP p:Nat):Int)>0)=l.any p:=by
 cases h:l.any p with
 |true=>simp_all
 |false=>simp_all
def Xgu(hN:1000000<N){ps:List Wt}(hps:ps.length<=100000)(i:Int)(f r:Wt)(k:Nat)(hk:1<=k)(hk2:k<=1000):Qg2 N ps i (f::List.replicate (k-1) r)=Qc6 N ps i (k:Int) f r:=by
 have hlen:(f::List.replicate (k-1) r).length=k:=by simp;omega
 rw[Qg2,Qc6,hlen];by_cases h0:i<0
 .simp_all
 obtain⟨j,rfl⟩:∃j:Nat,i=(j:Int):=⟨i.toNat,aa⟩
 by_cases hfit:j+k<=ps.length;case neg=>
  by_cases h1:(j:Int)>=(ps.length:Int)
  .rw[Wg h1,Wb,Xd (n:=(ps.length:Int)-(k:Int)) aa aa,Wg (show(j:Int)>(ps.length:Int)-(k:Int) by omega),Wb]
  .rw[XR h1,Wa,Xd (n:=(ps.length:Int)-(k:Int)) aa aa,Xd (n:=(ps.length:Int)-(j:Int)) aa aa,Wg (show(j:Int)>(ps.length:Int)-(k:Int) by omega),Wb,Wg (show(k:Int)>(ps.length:Int)-(j:Int) by omega),Wb]
 rw[Xd (n:=(ps.length:Int)-(k:Int)) aa aa,Xd (n:=(ps.length:Int)-(j:Int)) aa aa,XR (show¬(j:Int)>(ps.length:Int)-(k:Int) by omega),Wa,XR (show¬(j:Int)>=(ps.length:Int) by omega),Wa,XR (show¬(k:Int)>(ps.length:Int)-(j:Int) by omega),Wa];have hw:wI ((j:Int)+(k:Int))=((j+k:Nat):Int):=by rw[Xd aa aa];omega
 rw[hw,Xc aa,Xc aa,show(((j+k:Nat):Int)).toNat=j+k from rfl,show(j:Int).toNat=j from rfl,show j+k-j=k by omega,Xba,XlX hN (by grind),Xa,XjJ];have ht:=Xe4 (N:=N) 0 j k f r ps hps hfit N 0 aa aa;have hp0:Z0 ps (List.replicate 0 r) j=ps:=by unfold Z0;simp
 rw[hp0,IB,Nat.sub_zero,show((0:Nat):Int)=0 from rfl]at ht;rw[ht,Xa];cases ((ps.drop j).take k).any Vt with
 |true=>rw[Wb,Wq rfl,XA]
 |false=>
  rw[Wa,Wn ab,Xm,Qac,Xa,Xc aa,Xc aa];have hl2:(Z0 ps (List.replicate k r) j).length=ps.length:=Vu (by simp_all);rw[Xe,Wc aa,Xa];unfold Z0;obtain⟨m,rfl⟩:∃m,k=m+1:=⟨k-1,aa⟩
  rw[WU,Ig,List.replicate_succ,List.set_append_left _ _ (by grind),IJ _ _ (by grind)];simp only[Wj];rw[show j-min j ps.length=0 by omega,Ic]
end
section
variable {N:Nat}
def Xea{α:Type}(sp:Int)(x y:α):(bif (!decide (sp=0\/sp=1))then x else y)=(bif (decide (sp<0))then x else bif (decide (sp>1))then x else y):=by grind
def Xeb(hN:1000000<N){ps:List Wt}(hps:ps.length<=100000)(i sp:Int):QdE N ps i sp=Qbz N ps i sp:=by rw[QdE,Qbz,ZO,Xa,Xea];have:=Xgu hN hps i (Wt.mk 1 sp 0 0) (Wt.mk 0 0 0 0) 1 aa aa;simp_all
def Xec(N:Nat)(ps:List Wt)(i sp y:Int)(k:Nat)(hy:y=(k:Int))(hk:k<=1000)(f:Wt):∀(n m:Nat),m<=k-1->1<=k->k-m<n->QeQ N ps i sp y n (f::List.replicate m (Wt.mk 3 sp 0 0))=some (f::List.replicate (k-1) (Wt.mk 3 sp 0 0))
 |0,m,_,_,h=>by omega
 |n+1,m,hm,h1,hn=>by
  have hl:(f::List.replicate m (Wt.mk 3 sp 0 0)).length=m+1:=by simp
  rw[QeQ,hl,Xc aa];by_cases hlt:m+1<k
  .rw[Wg aa,Wb,Xc aa,List.cons_append,←List.replicate_succ'];exact Xec N ps i sp y k hy hk f n (m+1) aa h1 aa
  grind
def XjK(hN:1000000<N){ps:List Wt}(hps:ps.length<=100000)(c:WT)(i sp w:Int):Qhm N c ps i sp w=QdB N c ps i sp w:=by
 rw[Qhm,QdB,Vq,Zp aa,Xa,Xa];by_cases h:Xy c w<1
 .simp_all
 have hr:=KB c w;have⟨k,hk⟩:∃k:Nat,Xy c w=(k:Int):=⟨(Xy c w).toNat,aa⟩
 rw[XR h,Wa,Wa,ZO,Xa,Xea];have hl:=Xec N ps i sp (Xy c w) k hk aa (Wt.mk 2 sp w 0) N 0 aa aa aa;rw[show [(Wt.mk 2 sp w 0)]=Wt.mk 2 sp w 0::List.replicate 0 (Wt.mk 3 sp 0 0)from rfl,hl,Xa,Xgu hN hps i _ _ k aa aa,hk]
def Xhz{v:Int}{k:Nat}(hk:k<=63)(h0:0<=v)(h1:v<2 ^ k):XbF .u64 v (2 ^ k-1)=0:=by
 obtain⟨n,rfl⟩:=UB h0;have hn:n<2 ^ k:=by
  have h2:(2:Int) ^ k=((2 ^ k:Nat):Int):=by simp
  rw[h2]at h1;omega
 have hb:IntKind.u64.bits=64:=rfl;show IntKind.u64.wrap ((BitVec.ofInt IntKind.u64.bits n &&& ~~~ BitVec.ofInt IntKind.u64.bits (2 ^ k-1)).toNat:Int)=_;rw[hb];have hk2:(2:Int) ^ k-1=((2 ^ k-1:Nat):Int):=by
  have h1:=Nat.one_le_two_pow (n:=k);have h2:(2:Int) ^ k=((2 ^ k:Nat):Int):=by simp
  rw[h2];omega
 have e1:BitVec.ofInt 64 (n:Int)=BitVec.ofNat 64 n:=by simp
 have e2:BitVec.ofInt 64 ((2 ^ k-1:Nat):Int)=BitVec.ofNat 64 (2 ^ k-1):=by simp
 rw[hk2,e1,e2];have hz:BitVec.ofNat 64 n &&& ~~~ BitVec.ofNat 64 (2 ^ k-1)=0#64:=by
  apply BitVec.eq_of_getLsbD_eq;intro i hi;simp only[BitVec.getLsbD_and,BitVec.getLsbD_not,BitVec.getLsbD_ofNat,hi,decide_true,W3,BitVec.getLsbD_zero];by_cases hik:i<k
  .simp_all
  rw[Nat.testBit_lt_two_pow (IC hn (IO aa aa))];simp
 rw[hz];rfl
def XbW{a b:Int}{s:Nat}(hs:s<=63)(ha0:0<=a)(ha:a<2 ^ s)(hb0:0<=b)(hb:b*2 ^ s+a<=18446744073709551615):bOr .u64 a (b*2 ^ s)=a+b*2 ^ s:=by
 obtain⟨n,rfl⟩:=UB ha0;obtain⟨m,rfl⟩:=UB hb0;have h2:(2:Int) ^ s=((2 ^ s:Nat):Int):=by simp
 rw[h2]at ha hb⊢;have hm:(m:Int)*((2 ^ s:Nat):Int)=((m*2 ^ s:Nat):Int):=by simp
 have hb64:IntKind.u64.bits=64:=rfl;show IntKind.u64.wrap ((BitVec.ofInt IntKind.u64.bits n |||BitVec.ofInt IntKind.u64.bits ((m*2 ^ s:Nat):Int)).toNat:Int)=_;rw[hb64];have e1:BitVec.ofInt 64 (n:Int)=BitVec.ofNat 64 n:=by simp
 have e2:BitVec.ofInt 64 ((m*2 ^ s:Nat):Int)=BitVec.ofNat 64 (m*2 ^ s):=by rw[BitVec.ofInt_natCast]
 rw[e1,e2,BitVec.toNat_or,Ie,Ie,IS (show n<2 ^ 64 by omega),IS (show m*2 ^ s<2 ^ 64 by omega)];have:=Nat.shiftLeft_add_eq_or_of_lt (show n<2 ^ s by omega) m;rw[Nat.shiftLeft_eq]at this;rw[Nat.or_comm,←this];show wU _=_;rw[Xx aa aa];omega
end
section
variable {N:Nat}
def Xbc(hN:1000<N){w v:Int}(h0:0<=w)(h1:w<=63)(hv:0<=v)(hv2:v<2 ^ w.toNat):QdQ N v w=some true:=by rw[QdQ,Je h0 aa hN,Xa,Xhz aa hv hv2];rfl
def XlY(hN:1000000<N){k l m:Int}(k0:0<=k)(k1:k<4)(l0:0<=l)(l1:l<4096)(m0:0<=m)(m1:m<4294967296):
 Qgj N [(U2.mk 2 1),(U2.mk 2 k),(U2.mk 12 l),(U2.mk 32 m)]=some (1+k*4+l*16+m*65536,0):=by
 obtain⟨n,rfl⟩:∃n,N=n+5:=⟨N-5,aa⟩
 generalize hL:[(U2.mk 2 1),(U2.mk 2 k),(U2.mk 12 l),(U2.mk 32 m)]=L;have l3:L.length=4:=by rw[←hL];rfl
 have g0:Xb L 0=some (U2.mk 2 1):=by rw[←hL];unfold Xb;rfl
 have g1:Xb L 1=some (U2.mk 2 k):=by rw[←hL];unfold Xb;rfl
 have g2:Xb L 2=some (U2.mk 12 l):=by rw[←hL];unfold Xb;rfl
 have g3:Xb L 3=some (U2.mk 32 m):=by rw[←hL];unfold Xb;rfl
 have i1:wI (0+1)=1:=Xd aa aa;have i2:wI (1+1)=2:=Xd aa aa;have i3:wI (2+1)=3:=Xd aa aa;have i4:wI (3+1)=4:=Xd aa aa;have j1:wI (64-2)=62:=Xd aa aa;have j2:wI (62-2)=60:=Xd aa aa;have j3:wI (60-12)=48:=Xd aa aa;have j4:wI (48-32)=16:=Xd aa aa;have k2:wI (0+2)=2:=Xd aa aa;have k3:wI (2+2)=4:=Xd aa aa;have k4:wI (4+12)=16:=Xd aa aa;have k5:wI (16+32)=48:=Xd aa aa;have e1:Qbg (n+5) L (n+5) 64 0=some (.nxt ()):=by rw[Qbg,l3,g0];simp only[Xa,i1,j1];rw[Qbg,l3,g1];simp only[Xa,i2,j2];rw[Qbg,l3,g2];simp only[Xa,i3,j3];rw[Qbg,l3,g3];simp only[Xa,i4,j4];rw[Qbg,l3];rfl
 have f0:QdQ (n+5) 1 2=some true:=Xbc aa aa aa aa ae;have f1:QdQ (n+5) k 2=some true:=Xbc aa aa aa k0 (by show k<4;omega);have f2:QdQ (n+5) l 12=some true:=Xbc aa aa aa l0 (by show l<4096;omega);have f3:QdQ (n+5) m 32=some true:=Xbc aa aa aa m0 (by show m<4294967296;omega);have s0:ZQ .u64 1 0=1:=by decide +kernel
 have s1:ZQ .u64 k 2=k*2 ^ 2:=by show wU (k*4)=k*4;exact Xx aa aa
 have s2:ZQ .u64 l 4=l*2 ^ 4:=by show wU (l*16)=l*16;exact Xx aa aa
 have s3:ZQ .u64 m 16=m*2 ^ 16:=by show wU (m*65536)=m*65536;exact Xx aa aa
 have o0:bOr .u64 0 1=1:=by decide +kernel
 have o1:bOr .u64 1 (k*2 ^ 2)=1+k*2 ^ 2:=XbW aa aa ae k0 aa;have o2:bOr .u64 (1+k*2 ^ 2) (l*2 ^ 4)=1+k*2 ^ 2+l*2 ^ 4:=XbW aa aa aa l0 aa;have o3:bOr .u64 (1+k*2 ^ 2+l*2 ^ 4) (m*2 ^ 16)=1+k*2 ^ 2+l*2 ^ 4+m*2 ^ 16:=XbW aa aa aa m0 aa;have e2:Qbh (n+5) L (n+5) 0 0 0=some (.nxt (1+k*2 ^ 2+l*2 ^ 4+m*2 ^ 16)):=by rw[Qbh,l3,g0];simp only[Xa,f0,i1,k2,s0,o0];rw[Wg aa,Wb,Wo,Wa,Xc aa];rw[Qbh,l3,g1];simp only[Xa,f1,i2,k3,s1,o1];rw[Wg aa,Wb,Wo,Wa,Xc aa];rw[Qbh,l3,g2];simp only[Xa,f2,i3,k4,s2,o2];rw[Wg aa,Wb,Wo,Wa,Xc aa];rw[Qbh,l3,g3];simp only[Xa,f3,i4,k5,s3,o3];rw[Wg aa,Wb,Wo,Wa,Xc aa];rw[Qbh,l3];rw[Wh aa,Wa]
 simp[Qgj,e1,Xa,Xm,e2]
def XhA{d:Wy}(tm:tW d.Map)(h:XI d=true):0<=d.Map/\d.Map<4294967296:=by have⟨a,b⟩:=tm;omega
def Xok(hN:1000000<N){d:Wy}(tm:tW d.Map):QfY N d=Qcq N d:=by
 rw[QfY,K1 aa,Ky,Xa];cases hv:XI d with
 |false=>rfl
 |true=>have hb:=XL hv;have hm:=XhA tm hv;rw[Wo,Wa,Wq rfl,Xx (n:=d.k) aa aa,Xx (n:=d.n) aa aa,Xx (n:=d.Map) aa aa,XlY hN aa aa aa aa aa aa,Xa];congr 2;unfold J1;have s:∀x:Int,ZQ .u64 x 16=wU (x*65536):=λ_=>rfl;simp only[s,Xbq];omega
def XjL(hN:NB N){ws l:List Int}(hw:ws.length<=100000)(hl:l.length<=1000){a:Int}(ha:a<=18446744073709551615):QgO N ws a l=Qca N ws a l:=by
 rw[QgO,Xa7 aa ha,Zz (by unfold BIG;omega) (by unfold BIG;omega) (by unfold NB at hN;omega),XbK (by unfold BIG;omega) N a _ aa,Xa];by_cases h1:4096<=a/\a<=4096+(ws.length:Int);case neg=>
  rw[Wn h1,Wn (by unfold Yh;omega)];rfl
 rw[Wq h1];by_cases h2:a+(l.length:Int)<=4096+(ws.length:Int);case neg=>rw[Wh h2,Uf,Wb,Wn (by unfold Yh;omega)]
 rw[Wg h2,Wo,Wa,Wq (by unfold Yh;omega),Qad,Xa,Xc aa,Xc aa];rfl
def Xte{n:Nat}(e:Int):(List.replicate (n+1) (0:Int)).set 0 e=[e]++List.replicate n (0:Int):=by rfl
def Xc2(hN:NB N){h:Wk}(hb:HB h){a:Int}(ha:a<=18446744073709551615){d:Wy}(tm:tW d.Map):Qfe N h a d=Qbe N h a d:=by
 have hN':1000000<N:=by unfold NB at hN;omega
 rw[Qfe,Qbe,Xok hN' tm,Ky,Xa,Xa,Yl hb.2 hN'];have⟨b,eb⟩:=Zb (N:=N) hN hb;cases hv:XI d with
 |false=>rw[Wn ab,eb,Xa,Xa];simp
 |true=>
  have hb':=XL hv;rw[Wq rfl,eb,Xa,Xa];cases b with
  |false=>rfl
  |true=>
  have hs:Xz d=d.n+1:=by unfold Xz;rw[Wq hv]
  have⟨n,hn⟩:∃n:Nat,d.n=(n:Int):=⟨d.n.toNat,aa⟩
  have ht:(d.n+1).toNat=n+1:=aa;have ht2:d.n.toNat=n:=aa;rw[Wo,Wa,Wa,YI aa,Xa,hs,Xc aa,ht,ht2,Xc aa,Xc aa];have hg:Xb (List.replicate (n+1) (0:Int)) 0=some 0:=by unfold Xb;simp
  rw[hg,Xa,Xte,XjL hN hb.1 (by grind) ha];have⟨w,ew⟩:∃w,Qca N h.w a ([J1 d]++List.replicate n (0:Int))=some w:=⟨_,Zz (by unfold BIG;have:=hb.1;omega) (by unfold BIG;grind) (by grind) a⟩
  rw[ew,Xa,Xa,Qgy];cases (w.2 != 0)with
  |true=>simp[Wb,Xa]
  |false=>simp[Wa,Qac,Xa]
end
section
variable {N:Nat}
def Xol{α:Type}(q:α->Bool)(l:List α)(j:Nat)(x:α)(h:∀y,l[j]? = some y->q y=q x):(l.set j x).all q=l.all q:=by
 by_cases hj:j<l.length
 .have e2:l=l.take j++l[j]::l.drop (j+1):=by rw[List.getElem_cons_drop,List.take_append_drop]
  grind
 rw[List.set_eq_of_length_le aa]
def Xdw{α:Type}(l:List α)(i k j:Nat)(x:α):((l.set j x).drop i).take k=if i<=j then((l.drop i).take k).set (j-i) x else(l.drop i).take k:=by
 by_cases h:i<=j
 .rw[Wq h,List.drop_set,Wn aa,List.take_set]
 rw[Wn h,List.drop_set,Wq aa]
def XlZ{c:WT}{ps:List Wt}{j:Nat}(hj:j<ps.length){x:Wt}(hx:∀sp,Ya sp x=Ya sp ps[j])(hs:X9 c ps j x=X9 c ps j ps[j])(i:Nat)(hi:i<ps.length):
 X9 c (ps.set j x) i ((ps.set j x)[i]'(by simp_all))=X9 c ps i ps[i]:=by
 have hall:∀sp k,(((ps.set j x).drop (i+1)).take k).all (Ya sp)=((ps.drop (i+1)).take k).all (Ya sp):=by
  intro sp k;rw[Xdw];split
  .refine Xol _ _ _ _ λy hy=>?_;rw[Uk]at hy;split at hy
   .rw[UF,show i+1+(j-(i+1))=j by omega,Wc hj]at hy;cases hy;exact(hx sp).symm
   cases hy
  rfl
 have e:∀p,X9 c (ps.set j x) i p=X9 c ps i p:=by intro p;unfold X9;simp only[WR,hall]
 grind
def Xbx{h:Wk}(hl:h.p.length<=100000)(hN:1000000<N)(ps':List Wt)(hlen:ps'.length=h.p.length)(hsp:∀i(hi:i<h.p.length),X9 h.c ps' i (ps'[i]'aa)=X9 h.c h.p i h.p[i])(ws:List Int)(b:Int):∀(n i:Nat),i<=h.p.length->Qae N ⟨h.c,ws,ps',h.s,b⟩ n (i:Int)=Qae N h n (i:Int)
 |0,i,_=>by rfl
 |n+1,i,hi=>by
  rw[Qae,Qae];dsimp only;rw[hlen];by_cases hlt:i<h.p.length;case neg=>grind
  rw[Wg (show(i:Int)<_ by omega),Wb,Wb,Ki aa hN aa,Ki hl hN hlt,hsp i hlt,Xa,Xa];have hs:=XcS (c:=h.c) hlt (p:=h.p[i]);generalize X9 h.c h.p i h.p[i]=s at *;by_cases h0:s=0
  .simp_all
  rw[show((s:Int)==0)=false by simp_all,Wa,Wa,Xd aa aa,show(i:Int)+(s:Int)=((i+s:Nat):Int) by omega];exact Xbx hl hN ps' hlen hsp ws b n (i+s) aa
structure Ox(h:Wk):Prop where
 conf:X6 h.c=true
 words:(h.w.length:Int)=h.c.p*h.c.W
 pages:(h.p.length:Int)=h.c.p
 space:0<=h.s/\h.s<=1
 bump:h.b = -1\/(0<=h.b/\h.b<h.p.length/\(pg h.p h.b).k=1)
def Us.pre{h:Wk}(hp:Us h):Ox h:=⟨hp.conf,hp.words,hp.pages,hp.space,hp.bump⟩
def K2{h:Wk}(hp:Ox h):QbR N h=bnd (Qae N h N 0) λe=>exK e (λr=>some r) λ_=>some true:=by
 have hv:=Xl.1 hp.conf;have hm:=XW hp.conf (i:=0) aa aa;have hw:=hp.words;have hpg:=hp.pages;have e1:((h.w.length:Int) != wI (h.c.W*h.c.p))=false:=by rw[Int.mul_comm,Xd aa aa];simpa using hw
 have e2:((h.p.length:Int) != h.c.p)=false:=by simpa using hpg
 have e3:∀{α:Type}(x y z:α),(bif h.s != 0 then(bif h.s != 1 then x else y)else y)=y:=by
  intro α x y z;by_cases s0:h.s=0
  .simp_all
  have s1:h.s=1:=by have:=hp.space;omega
  simp_all
 rw[QbR];simp only[XF,KR,Xa,hp.conf,Wo,Wa,e1,e2];rw[e3 _ _ (some true)];rcases hp.bump with hb|⟨b0,b1,b2⟩
 .simp_all
 rw[show(h.b != -1)=true by grind,Wb,XR (show¬h.b<0 by omega),Wa,XR (show¬h.b>=(h.p.length:Int) by omega),Wa,XH b0 b1,Xa,b2];rfl
def Xby{h:Wk}(hN:NB N)(hb:HB h)(ep:Qab N h=some true){ps':List Wt}(hlen:ps'.length=h.p.length)(hsp:∀i(hi:i<h.p.length),X9 h.c ps' i (ps'[i]'aa)=X9 h.c h.p i h.p[i]){ws:List Int}(hw:ws.length=h.w.length){b:Int}(hbump:b = -1\/(0<=b/\b<ps'.length/\(pg ps' b).k=1)):Qab N ⟨h.c,ws,ps',h.s,b⟩=some true:=by
 have hN':1000000<N:=by unfold NB at hN;omega
 have hp:=Yf hN hb ep;rw[←Yl (by rw[hlen];exact hb.2) hN',K2 (h:=⟨h.c,ws,ps',h.s,b⟩) ⟨hp.conf,by rw[hw];exact hp.words,by rw[hlen];exact hp.pages,hp.space,hbump⟩];have:=Xbx hb.2 hN' ps' hlen hsp ws b N 0 aa;rw[show((0:Nat):Int)=0 from rfl]at this;rw[this,←K2 hp.pre,Yl hb.2 hN',ep]
end
section
variable {N:Nat}
def Xbd(hN:NB N){h:Wk}(hb:HB h)(ep:Qab N h=some true){d:Wy}(hv:XI d=true){a:Int}(ha:Yh h.w a (d.n.toNat+1)):∃h2,Qbe N h a d=some (h2,0):=by
 have hb':=XL hv;have⟨n,hn⟩:∃n:Nat,d.n=(n:Int):=⟨d.n.toNat,aa⟩
 have ht2:d.n.toNat=n:=aa;rw[ht2]at ha;rw[Qbe,Ky,Wq hv,ep,Xa,Xa,Wo,Wa];rw[show((0:Int) != 0)=false from rfl,Wa,Xc aa,ht2,Xc aa,Zz (by unfold BIG;have:=hb.1;omega) (by unfold BIG;simp;omega) (by simp;unfold NB at hN;omega),Wq (by simpa using ha),Xa];simp
def Xe5(hN:1000000<N){ps:List Wt}(hps:ps.length<=100000){i:Int}(f r:Wt)(k:Nat)(hk:1<=k)(hk2:k<=1000)(hr:RunOK ps i (k:Int)):Qc6 N ps i (k:Int) f r=some (Z0 ps (f::List.replicate (k-1) r) i.toNat,0):=by
 have⟨h0,_,h2,h3⟩:=hr;obtain⟨j,rfl⟩:∃j:Nat,i=(j:Int):=⟨i.toNat,aa⟩
 have hfree:((ps.drop j).take k).any Vt=false:=by
  rw[List.any_eq_false];intro p hp hb;obtain⟨m,hm,rfl⟩:=WN hp;rw[Wj,Wl]at hm;rw[U7,Ir]at hb;have:=h3 (m:Int) aa aa;have e:pg ps ((j:Int)+(m:Int))=ps[j+m]'aa:=by unfold pg;rw[show((j:Int)+(m:Int)).toNat=j+m by omega,Wp,Wc aa];rfl
  rw[e]at this;unfold Vt at hb;rw[this]at hb;cases hb
 have ht:=Xe4 (N:=N) 0 j k f r ps hps aa N 0 aa aa;have hp0:Z0 ps (List.replicate 0 r) j=ps:=by unfold Z0;simp
 rw[hp0,IB,Nat.sub_zero,show((0:Nat):Int)=0 from rfl,hfree,Wn ab]at ht;rw[Qc6,XR (show¬(j:Int)<0 by omega),Wa,XR (show¬(j:Int)>=(ps.length:Int) by omega),Wa,Xd (n:=(ps.length:Int)-(j:Int)) aa aa,XR (show¬(k:Int)>(ps.length:Int)-(j:Int) by omega),Wa,Xc aa,ht,Xa,Xm];have hl2:(Z0 ps (List.replicate k r) j).length=ps.length:=Vu (by grind);rw[Xe,Wc aa,Xa,show(j:Int).toNat=j from rfl];unfold Z0;obtain⟨m,rfl⟩:∃m,k=m+1:=⟨k-1,aa⟩
 rw[WU,Ig,Uo,WU,List.replicate_succ,List.set_append_left _ _ (by grind),IJ _ _ (by grind)];simp only[Wj];rw[show j-min j ps.length=0 by omega,Ic]
end
section
variable {N:Nat}
def Xed{c:WT}{ps:List Wt}{j:Nat}{p:Wt}(hk:p.k=1)(hs:0<=p.s/\p.s<=1)(hp:0<=p.P/\p.P<=2147483647)(hu:0<=p.u/\p.u<=c.W):X9 c ps j p=1:=by unfold X9;grind
def XhB{c:WT}{ps:List Wt}{j:Nat}:X9 c ps j KZ=1:=rfl
def XaG{ps:List Wt}{j:Nat}(hj:j<ps.length):pg ps (j:Int)=ps[j]:=by unfold pg;simp_all
def Xgv(hN:NB N){h:Wk}(hb:HB h)(ep:Qab N h=some true){j:Nat}(hj:j<h.p.length){x:Wt}(hk:x.k=1)(hs:0<=x.s/\x.s<=1)(hpn:0<=x.P/\x.P<=2147483647)(hu:0<=x.u/\x.u<=h.c.W)(ho:h.p[j].k=0\/h.p[j].k=1){b:Int}(hbump:b=(j:Int)):Qab N ⟨h.c,h.w,h.p.set j x,h.s,b⟩=some true:=by
 have hp:=Yf hN hb ep;have hpg:=hp.pgs (j:Int) aa aa;have e1:X9 h.c h.p j h.p[j]=1:=by
  rcases ho with ho|ho
  .have:=hpg.free (by simp_all[XaG,hj]);rw[XaG hj]at this;rw[this];rfl
  have a:=hpg.space;have b:=hpg.pins;have c:=hpg.small (by simp_all[XaG,hj]);rw[XaG hj]at a b c;exact Xed ho a b c
 have nc:∀(p:Wt)(sp:Int),p.k=0\/p.k=1->Ya sp p=false:=by intro p sp h;unfold Ya ZZ;rw[show(p.k==3)=false by grind];rfl
 refine Xby hN hb ep ab (λi hi=>XlZ hj (λsp=>by simp_all) ?_ i hi) rfl (.inr ⟨aa,by simp_all,?_⟩)
 .rw[e1];exact Xed hk hs hpn hu
 unfold pg;simp_all
def Xgw(N:Nat)(h:Wk)(n u:Int)(first:Int):Option (Nat×Int):=
 if 0<=h.b/\u<=KA h.c/\(pg h.p h.b).s=h.s/\(pg h.p h.b).u+n<=h.c.W then some (h.b.toNat,(pg h.p h.b).u)
 else if 0<=first/\u<KA h.c then some (first.toNat,0)else none
def Jh(h:Wk)(n:Int)(j:Nat)(at_:Int):Wk:=⟨h.c,h.w,h.p.set j ⟨1,h.s,at_+n,(pg h.p (j:Int)).P⟩,h.s,(j:Int)⟩
def Xbe(hN:NB N){h:Wk}(hb:HB h)(hp:Us h){n u f:Int}(hn:0<=n/\n<=300)(eu:Qcx N h.p=some u)(ef:Qbi N h.p 1=some f):
 Qem N h n=some (match Xgw N h n u f with|some (j,a)=>(Jh h n j a,Xg h.c (j:Int) a,true)|none=>(zHp,0,false)):=by
 have hN':1000000<N:=by unfold NB at hN;omega
 have hpl:=hb.2;have hpages:=hp.pages;have hcv:=Xl.1 hp.conf;have fresh:(bif decide (f<0)then some (zHp,(0:Int),false)else bif decide (u>=KA h.c)then some (zHp,0,false)else bnd (Qbz N h.p f h.s) λy6=>bnd (Xb y6.1 f) λp11=>bnd (Xb y6.1 f) λp12=>bnd (Xb y6.1 f) λp13=>some ((Wk.mk h.c h.w (y6.1.set f.toNat (Wt.mk p13.k p13.s (wI (p12.u+n)) p13.P)) h.s f),(wU (wI ((wI (4096+(wI (f*h.c.W))))+p11.u))),true))=some (match (if 0<=f/\u<KA h.c then some (f.toNat,(0:Int))else none)with|some (j,a)=>(Jh h n j a,Xg h.c (j:Int) a,true)|none=>(zHp,0,false)):=by
  by_cases h1:f<0
  .grind
  by_cases h2:u>=KA h.c
  .grind
  rw[XR h1,Wa,XR h2,Wa,Wq aa]
  have hrun:RunOK h.p f 1:=by
   rcases(Y2 (N:=N) (ps:=h.p) 1 aa aa).get_eq ef with hh|hh
   .omega
   .omega
  obtain⟨j,rfl⟩:∃j:Nat,f=(j:Int):=⟨f.toNat,aa⟩
  have hj:j<h.p.length:=by have:=hrun.2.2.1;omega
  have hsp:=hp.space
  have hm:=XW hp.conf (i:=(j:Int)) aa aa
  have et:=Xe5 hN' hpl (Wt.mk 1 h.s 0 0) (Wt.mk 0 0 0 0) 1 aa aa hrun
  have et':Qc6 N h.p (j:Int) 1 (Wt.mk 1 h.s 0 0) (Wt.mk 0 0 0 0)=_:=et
  have hput:Z0 h.p (Wt.mk 1 h.s 0 0::List.replicate (1-1) (Wt.mk 0 0 0 0)) j=h.p.set j (Wt.mk 1 h.s 0 0):=by
   unfold Z0
   rw[List.set_eq_take_append_cons_drop,Wq hj];simp
  rw[Qbz,XR (show¬h.s<0 by omega),Wa,XR (show¬h.s>1 by omega),Wa,et',show(j:Int).toNat=j from rfl,hput,Xa,Xa]
  have hg:Xb (h.p.set j (Wt.mk 1 h.s 0 0)) (j:Int)=some (Wt.mk 1 h.s 0 0):=by
   rw[Xe,List.getElem?_set_self hj]
  dsimp only
  have hz:(pg h.p (j:Int)).P=0:=by
   have:=(hp.pgs (j:Int) aa aa).free (by have:=hrun.2.2.2 0 aa aa;assumption)
   rw[this];rfl
  simp only[hg,Xa]
  unfold Jh Xg
  rw[List.set_set,hz,Xd (n:=0+n) aa aa,Xd (n:=(j:Int)*h.c.W) aa aa,Xd (n:=4096+(j:Int)*h.c.W) aa aa,Xd (n:=4096+(j:Int)*h.c.W+0) aa aa,Xx aa aa]
 rw[Qem,Xc aa,XaV,Xa,eu,Xa,XF,ef];simp only[Xa];unfold Xgw;by_cases b0:h.b<0
 .grind
 have hbump:0<=h.b/\h.b<h.p.length/\(pg h.p h.b).k=1:=by
  rcases hp.bump with hh|hh
  .omega
  omega
 have hpg:=hp.pgs h.b hbump.1 hbump.2.1;have hus:=hpg.small hbump.2.2;have hm:=XW hp.conf (i:=h.b) aa aa;rw[XR b0,Wa,XH hbump.1 hbump.2.1];simp only[Xa];rw[Xd (n:=(pg h.p h.b).u+n) aa aa];by_cases b1:(pg h.p h.b).s=h.s;case neg=>grind
 rw[show((pg h.p h.b).s != h.s)=false by simp_all,Wa];by_cases b2:(pg h.p h.b).u+n>h.c.W
 .grind
 by_cases b3:u>KA h.c
 .grind
 rw[XR b2,Wa,XR b3,Wa,Wq (c:=0<=h.b/\u<=KA h.c/\_) aa];dsimp only;unfold Jh Xg;have hbn:(h.b.toNat:Int)=h.b:=aa;rw[hbn,hbump.2.2,b1,Xd (n:=h.b*h.c.W) aa aa,Xd (n:=4096+h.b*h.c.W) aa aa,Xd (n:=4096+h.b*h.c.W+(pg h.p h.b).u) aa aa,Xx aa aa]
end
section
variable {N:Nat}
def Xgx(hN:NB N){h:Wk}(hb:HB h)(hp:Us h){n u f:Int}(hn:0<=n/\n<=300)(hk:Xy h.c n=0)(eu:Qcx N h.p=some u)(ef:Qbi N h.p 1=some f):
 QeA N h n=some (match Xgw N h n u f with|some (j,a)=>(Jh h n j a,⟨(j:Int),a⟩,0)|none=>(zHp,⟨0,0⟩,3)):=by
 have hN':1000000<N:=by unfold NB at hN;omega
 have hpl:=hb.2;have hcv:=Xl.1 hp.conf;have fresh:(bif decide (f>=0)then(bif decide (u<KA h.c)then(bnd (QdE N h.p f h.s) λy11=>bif (y11.2 != 0)then some (zHp,(IK.mk 0 0),y11.2)else bnd (Xb y11.1 f) λp12=>some ((Wk.mk h.c h.w (y11.1.set f.toNat (Wt.mk p12.k p12.s n p12.P)) h.s f),(IK.mk f 0),0))else some (zHp,(IK.mk 0 0),3))else some (zHp,(IK.mk 0 0),3))=some (match (if 0<=f/\u<KA h.c then some (f.toNat,(0:Int))else none)with|some (j,a)=>(Jh h n j a,IK.mk (j:Int) a,(0:Int))|none=>(zHp,IK.mk 0 0,3)):=by
  by_cases h1:f>=0
  case neg=>grind
  by_cases h2:u<KA h.c
  case neg=>grind
  rw[Wg h1,Wb,Wg h2,Wb,Wq aa]
  have hrun:RunOK h.p f 1:=by
   rcases(Y2 (N:=N) (ps:=h.p) 1 aa aa).get_eq ef with hh|hh
   .omega
   .omega
  obtain⟨j,rfl⟩:∃j:Nat,f=(j:Int):=⟨f.toNat,aa⟩
  have hj:j<h.p.length:=by have:=hrun.2.2.1;omega
  have hsp:=hp.space
  have et:=Xe5 hN' hpl (Wt.mk 1 h.s 0 0) (Wt.mk 0 0 0 0) 1 aa aa hrun
  have et':Qc6 N h.p (j:Int) 1 (Wt.mk 1 h.s 0 0) (Wt.mk 0 0 0 0)=_:=et
  have hput:Z0 h.p (Wt.mk 1 h.s 0 0::List.replicate (1-1) (Wt.mk 0 0 0 0)) j=h.p.set j (Wt.mk 1 h.s 0 0):=by
   unfold Z0
   rw[List.set_eq_take_append_cons_drop,Wq hj];simp
  rw[Xeb hN' hpl,Qbz,XR (show¬h.s<0 by omega),Wa,XR (show¬h.s>1 by omega),Wa,et',show(j:Int).toNat=j from rfl,hput,Xa,Xa]
  have hg:Xb (h.p.set j (Wt.mk 1 h.s 0 0)) (j:Int)=some (Wt.mk 1 h.s 0 0):=by
   rw[Xe,List.getElem?_set_self hj]
  dsimp only
  have hz:(pg h.p (j:Int)).P=0:=by
   have:=(hp.pgs (j:Int) aa aa).free (by have:=hrun.2.2.2 0 aa aa;assumption)
   rw[this];rfl
  rw[show((0:Int) != 0)=false from rfl,Wa,hg,Xa]
  unfold Jh
  rw[List.set_set,hz,Int.zero_add]
 rw[QeA,Xba,eu,Xa,XiD,Xa,Vq,hk,Xa,XR (show¬(0:Int)>0 by omega),Wa,Xbb hN' hpl,ef];simp only[Xa,XF];unfold Xgw;by_cases b0:h.b>=0;case neg=>grind
 have hbump:0<=h.b/\h.b<h.p.length/\(pg h.p h.b).k=1:=by
  rcases hp.bump with hh|hh
  .omega
  omega
 have hpg:=hp.pgs h.b hbump.1 hbump.2.1;have hus:=hpg.small hbump.2.2;rw[Wg b0,Wb];by_cases b3:u<=KA h.c;case neg=>grind
 rw[Wg b3,Wb,XH hbump.1 hbump.2.1,Xa];by_cases b1:(pg h.p h.b).s=h.s;case neg=>grind
 rw[show((pg h.p h.b).s==h.s)=true by simp_all,Wb,Xd (n:=h.c.W-(pg h.p h.b).u) aa aa];by_cases b2:n<=h.c.W-(pg h.p h.b).u;case neg=>grind
 rw[Wg b2,Wb,Wq (c:=0<=h.b/\u<=KA h.c/\_) aa,Qac,Xa,XH hbump.1 hbump.2.1,Xa,Xa];dsimp only;unfold Jh;have hbn:(h.b.toNat:Int)=h.b:=aa;rw[hbn,hbump.2.2,b1,Xd (n:=(pg h.p h.b).u+n) aa aa]
def Xl0(hN:NB N){h:Wk}(hb:HB h)(ep:Qab N h=some true){n u f:Int}(hn:1<=n/\n<=h.c.W)(ef:Qbi N h.p 1=some f){j:Nat}{a:Int}(hpl:Xgw N h n u f=some (j,a)):j<h.p.length/\0<=a/\a+n<=h.c.W/\Qab N (Jh h n j a)=some true:=by
 have hp:=Yf hN hb ep;have hl:=hb.2;have hsp:=hp.space;unfold Xgw at hpl;split at hpl
 .cases hpl;have hbump:0<=h.b/\h.b<h.p.length/\(pg h.p h.b).k=1:=by
   rcases hp.bump with hh|hh
   .omega
   exact hh
  have hpg:=hp.pgs h.b hbump.1 hbump.2.1;have hus:=hpg.small hbump.2.2;have hbn:(h.b.toNat:Int)=h.b:=aa;have hj:h.b.toNat<h.p.length:=aa;refine⟨hj,hus.1,aa,?_⟩;unfold Jh;rw[hbn];refine Xgv (x:=⟨1,h.s,(pg h.p h.b).u+n,(pg h.p h.b).P⟩) hN hb ep hj rfl hsp hpg.pins (by show 0<=(pg h.p h.b).u+n/\_;exact⟨aa,by show(pg h.p h.b).u+n<=_;omega⟩) (.inr ?_) hbn.symm;rw[←XaG hj,hbn];omega
 split at hpl
 .cases hpl;have hrun:RunOK h.p f 1:=by
   rcases(Y2 (N:=N) (ps:=h.p) 1 aa (by unfold NB at hN;omega)).get_eq ef with hh|hh
   .omega
   exact hh
  have h3:=hrun.2.2.1;have hfn:(f.toNat:Int)=f:=aa;have hj:f.toNat<h.p.length:=aa;have hk0:(pg h.p f).k=0:=by have:=hrun.2.2.2 0 aa aa;simpa using this
  refine⟨hj,aa,aa,?_⟩;unfold Jh;have hpg:=hp.pgs f aa aa;rw[hfn];refine Xgv (x:=⟨1,h.s,0+n,(pg h.p f).P⟩) hN hb ep hj rfl hsp hpg.pins (by show 0<=0+n/\_;exact⟨aa,by show 0+n<=_;omega⟩) (.inl ?_) hfn.symm;rw[←XaG hj,hfn];exact hk0
 simp_all
end
section
variable {N:Nat}
def XaH(hN:1000000<N)(c:WT)(d:Wy):Qcf N c d=some (XI d&&(d.k != 0&&Xy c (Xz d) != -1)):=by rw[Qcf,Y8,Xa,X1];simp only[Xa,Zp (show 10<=N by omega)];grind
def Xc3{h:Wk}(hb:HB h)(n:Int)(j:Nat)(a:Int):HB (Jh h n j a):=⟨hb.1,by show(h.p.set j _).length<=_;rw[WR];exact hb.2⟩
def XhC(hN:NB N){h:Wk}(hb:HB h){d:Wy}(tm:tW d.Map)(hk:Xy h.c (Xz d)=0):Qev N h d=QbW N h d:=by
 have hN':1000000<N:=by unfold NB at hN;omega
 have hl:=hb.2;rw[Qev,QbW,Yl hl hN',XaF hN'];have⟨b,eb⟩:=Zb (N:=N) hN hb;rw[eb,Xa,Xa];cases b with
 |false=>rfl
 |true=>
 rw[Wo,Wa,Wa,XaH hN',Xa,Xa];cases hv:XI d with
 |false=>rfl
 |true=>
 cases hkd:(d.k != 0)with
 |false=>rfl
 |true=>
 have hp:=Yf hN hb eb;have hvb:=XL hv;have hs:Xz d=d.n+1:=by unfold Xz;rw[Wq hv]
 have hn:1<=Xz d/\Xz d<=h.c.W:=by
  have h1:1<=Xz d:=aa;refine⟨h1,?_⟩;unfold Xy at hk;rw[Wq ⟨hp.conf,h1⟩]at hk;by_cases hle:Xz d<=h.c.W / 4
  .omega
  omega
 have⟨u,eu,_⟩:=Vk (N:=N) (ps:=h.p) aa aa;have⟨f,ef,_⟩:=Y2 (N:=N) (ps:=h.p) 1 aa aa;simp only[show((0:Int) != -1)=true from rfl,Is,Wo,Wa,YI (show 1000<N by omega),X1,Xa,Zp (show 10<=N by omega),hk,Xbe hN hb hp (n:=Xz d) ⟨aa,aa⟩ eu ef,Xgx hN hb hp (n:=Xz d) ⟨aa,aa⟩ hk eu ef,XF,show decide ((0:Int)>0)=false from rfl];cases hpl:Xgw N h (Xz d) u f with
 |none=>rfl
 |some ja=>
  have⟨j,a⟩:=ja;have⟨q1,q2,q3,q4⟩:=Xl0 hN hb eb hn ef hpl;have hpg:=hp.pages;have hm:=XW hp.conf (i:=(j:Int)) aa aa;have hw:=hp.words;dsimp only;have hin:Yh (Jh h (Xz d) j a).w (Xg h.c (j:Int) a) (d.n.toNat+1):=by
   unfold Yh Xg;show _/\_<=4096+(h.w.length:Int);constructor
   .omega
   omega
  have⟨h2,e2⟩:=Xbd hN (Xc3 hb _ j a) q4 hv hin;rw[show((0:Int) != 0)=false from rfl,Wa,Vr,KC,Wn (by simp[hp.conf]),Wq aa,Xa];rw[show((0:Int) != 0)=false from rfl,Wa,Xc2 hN (Xc3 hb _ j a) (by unfold Xg;omega) tm,e2,Xa];rw[show((0:Int) != 0)=false from rfl,Wa,Wo,Wa];rw[Xa]
end
section
variable {N:Nat}
def Xl1{ps l:List Wt}{j:Nat}(h:j+l.length<=ps.length)(i:Nat):(Z0 ps l j)[i]? = if i<j then ps[i]? else if i<j+l.length then l[i-j]? else ps[i]?:=by unfold Z0;grind
def XjM{α:Type}(q:α->Bool){l l':List α}(hlen:l.length=l'.length)(h:(∀i:Nat,l[i]? = l'[i]?)\/∃(i:Nat) (x y:α),l[i]? = some x/\l'[i]? = some y/\q x=false/\q y=false):l.all q=l'.all q:=by
 rcases h with h|⟨i,x,y,h1,h2,h3,h4⟩
 .rw[List.ext_getElem? h]
 grind
def Xl2{c:WT}{ps:List Wt}{i:Nat}{p:Wt}{s:Nat}(h:X9 c ps i p=s)(h2:2<=s):((ps.drop (i+1)).take (s-1)).all (Ya p.s)=true/\s<=ps.length-i:=by unfold X9 at h;grind
def Xl3{c:WT}{ps ps':List Wt}(hlen:ps'.length=ps.length){i:Nat}(hd:∀m sp,((ps'.drop (i+1)).take m).all (Ya sp)=((ps.drop (i+1)).take m).all (Ya sp))(p:Wt):X9 c ps' i p=X9 c ps i p:=by unfold X9;simp_all
def Xc4{h:Wk}(hl:h.p.length<=100000)(hN:1000000<N):∀(k n j:Nat),j+k<=h.p.length->(∀m,m<k->∀(hm:j+m<h.p.length),h.p[j+m]=KZ)->Qae N h (n+k) (j:Int)=Qae N h n ((j+k:Nat):Int)
 |0,n,j,_,_=>rfl
 |k+1,n,j,hj,hz=>by rw[show n+(k+1)=(n+k)+1 from rfl,Qae,Wg aa,Wb,Ki hl hN (show j<h.p.length by omega),Xa];have:=hz 0 aa aa;simp at this;rw[this,XhB,show((((1:Nat)):Int)==0)=false from rfl,Wa,show((1:Nat):Int)=1 from rfl,Xf aa,Xc4 hl hN k n (j+1) aa (λm hm hlt=>by have:=hz (m+1) aa aa;simpa only[show j+(m+1)=j+1+m by omega]using this)];grind
def Xc5(hN:NB N){h:Wk}(hb:HB h)(ep:Qab N h=some true){j k:Nat}(hk:1<=k)(hr:RunOK h.p (j:Int) (k:Int)){w:Int}(hw:Xy h.c w=(k:Int)):Qab N ⟨h.c,h.w,Z0 h.p (Wt.mk 2 h.s w 0::List.replicate (k-1) (Wt.mk 3 h.s 0 0)) j,h.s,h.b⟩=some true:=by
 have hN':1000000<N:=by unfold NB at hN;omega
 have hp:=Yf hN hb ep;have hl:=hb.2;have hsp:=hp.space;have⟨_,_,hfit,hfree⟩:=hr;generalize hL:(Wt.mk 2 h.s w 0::List.replicate (k-1) (Wt.mk 3 h.s 0 0))=L;have hLl:L.length=k:=by rw[←hL];simp;omega
 have hjk:j+L.length<=h.p.length:=aa;have hlen:(Z0 h.p L j).length=h.p.length:=Vu hjk;have hz:∀m,m<k->∀(hm:j+m<h.p.length),h.p[j+m]=KZ:=by intro m hm hlt;have:=(hp.pgs ((j:Int)+m) aa aa).free (hfree m aa aa);rw[show(j:Int)+(m:Int)=((j+m:Nat):Int) by omega,XaG hlt]at this;exact this
 generalize hq:Z0 h.p L j=ps' at *;have hget:∀i,ps'[i]? = if i<j then h.p[i]? else if i<j+k then L[i-j]? else h.p[i]?:=by intro i;rw[←hq,Xl1 hjk,hLl]
 have hout:∀i(hi:i<h.p.length),(i<j\/j+k<=i)->ps'[i]'aa=h.p[i]:=by
  intro i hi ho;have a:=hget i;rw[Wc aa,Wc hi]at a;rcases ho with ho|ho
  .simp_all
  grind
 have hall:∀i,(i<j\/j+k<=i)->∀m sp,((ps'.drop (i+1)).take m).all (Ya sp)=((h.p.drop (i+1)).take m).all (Ya sp):=by
  intro i ho m sp;refine XjM _ (by simp_all) ?_;by_cases hcov:i<j/\j<i+1+m
  .right;refine⟨j-(i+1),Wt.mk 2 h.s w 0,KZ,?_,?_,rfl,rfl⟩
   .rw[Uk,Wq aa,UF,show i+1+(j-(i+1))=j by omega,hget,Wn aa,Wq aa,IX,←hL];rfl
   grind
  grind
 have main:∀(m i n n':Nat),h.p.length-i<=m->i<=h.p.length->(i<=j\/j+k<=i)->h.p.length-i+200<n->h.p.length-i+200<n'->Qae N ⟨h.c,h.w,ps',h.s,h.b⟩ n (i:Int)=Qae N h n' (i:Int):=by
  intro m;induction m with
  |zero=>
   intro i n n' h1 h2 h3 h4 h5;obtain⟨n,rfl⟩:∃q,n=q+1:=⟨n-1,aa⟩
   obtain⟨n',rfl⟩:∃q,n'=q+1:=⟨n'-1,aa⟩
   rw[Qae,Qae];grind
  |succ m ih=>
   intro i n n' h1 h2 h3 h4 h5;by_cases hlt:i<h.p.length;case neg=>
    grind
   by_cases hij:i=j
   .subst hij;obtain⟨n,rfl⟩:∃q,n=q+1:=⟨n-1,aa⟩
    obtain⟨n',rfl⟩:∃q,n'=q+k:=⟨n'-k,aa⟩
    rw[Xc4 hl hN' k n' i aa hz,Qae];dsimp only;have hx:ps'[i]'aa=Wt.mk 2 h.s w 0:=by have a:=hget i;rw[Wc aa,Wn aa,Wq aa,IX,←hL]at a;exact WK a
    have htl:((ps'.drop (i+1)).take (k-1)).all (Ya h.s)=true:=by
     rw[Ud];intro y hy;obtain⟨q,hq',rfl⟩:=WN hy;rw[Wj,Wl]at hq';have a:=hget (i+1+q);have hLq:L[i+1+q-i]? = some (Wt.mk 3 h.s 0 0):=by rw[←hL,show i+1+q-i=q+1 by omega,List.getElem?_cons_succ,List.getElem?_replicate,Wq aa]
     rw[Wc aa,Wn aa,Wq aa,hLq]at a;rw[U7,Ir,WK a];simp[Ya,ZZ]
    have hsn:X9 h.c ps' i (ps'[i]'aa)=k:=by rw[hx];unfold X9;have hk2:(Xy h.c w).toNat=k:=aa;rw[Wn (show¬(2:Int)=0 by omega),Wq (by grind),Wn (show¬(2:Int)=1 by omega),Wq rfl];dsimp only;rw[hk2,Wq ⟨aa,aa,htl⟩]
    rw[Wg aa,Wb,Ki aa hN' aa,hsn,Xa,show((k:Int)==0)=false by grind,Wa,Xd aa aa,show(i:Int)+(k:Int)=((i+k:Nat):Int) by omega];exact ih (i+k) n n' aa aa (.inr aa) aa aa
   have ho:i<j\/j+k<=i:=aa;obtain⟨n,rfl⟩:∃q,n=q+1:=⟨n-1,aa⟩
   obtain⟨n',rfl⟩:∃q,n'=q+1:=⟨n'-1,aa⟩
   rw[Qae,Qae];dsimp only;rw[hlen,Wg aa,Wb,Wb,Ki aa hN' aa,Ki hl hN' hlt,hout i hlt ho,Xl3 hlen (hall i ho),Xa,Xa];have hbig:=Xl2 (c:=h.c) (ps:=h.p) (i:=i) (p:=h.p[i]) rfl;generalize X9 h.c h.p i h.p[i]=s at *;by_cases h0:s=0
   .simp_all
   rw[show((s:Int)==0)=false by simpa using h0,Wa,Wa,Xd aa aa,show(i:Int)+(s:Int)=((i+s:Nat):Int) by omega];refine ih (i+s) n n' aa aa ?_ aa aa;rcases ho with ho|ho
   .left;by_cases hs2:2<=s
    .have⟨ha,_⟩:=hbig hs2;by_cases hle:i+s<=j
     .exact hle
     rw[Ud]at ha;have hm:KZ∈(h.p.drop (i+1)).take (s-1):=by refine Ui (i:=j-(i+1)) ?_;rw[Uk,Wq aa,UF,show i+1+(j-(i+1))=j by omega,Wc aa];have:=hz 0 aa aa;simp only[IB]at this;rw[this]
     have:=ha _ hm;cases this
    omega
   omega
 have hbump:h.b = -1\/(0<=h.b/\h.b<ps'.length/\(pg ps' h.b).k=1):=by
  rcases hp.bump with hh|⟨b0,b1,b2⟩
  .omega
  have⟨q,hq2⟩:∃q:Nat,h.b=(q:Int):=⟨h.b.toNat,aa⟩
  rw[hq2]at b1 b2⊢;have hqi:q<h.p.length:=aa;rw[XaG hqi]at b2;by_cases hin:q<j\/j+k<=q
  .rw[XaG aa,hout q hqi hin];omega
  have:=hz (q-j) aa aa;simp only[show j+(q-j)=q by omega]at this;rw[this]at b2;cases b2
 rw[←Yl (by simp_all) hN',K2 (h:=⟨h.c,h.w,ps',h.s,h.b⟩) ⟨hp.conf,hp.words,by rw[hlen];exact hp.pages,hp.space,hbump⟩];have:=main h.p.length 0 N N aa aa (.inl aa) aa aa;rw[show((0:Nat):Int)=0 from rfl]at this;rw[this,←K2 hp.pre,Yl hl hN',ep]
end
section
variable {N:Nat}
def Xbf(h:Wk)(n:Int)(j k:Nat):Wk:=⟨h.c,h.w,Z0 h.p (Wt.mk 2 h.s n 0::List.replicate (k-1) (Wt.mk 3 h.s 0 0)) j,h.s,h.b⟩
def Xgy(hN:1000000<N){h:Wk}(hl:h.p.length<=100000)(hp:Us h){n:Int}{j k:Nat}(hk:1<=k)(hk4:k<=4)(hw:Xy h.c n=(k:Int))(hr:RunOK h.p (j:Int) (k:Int)):QdB N h.c h.p (j:Int) h.s n=some ((Xbf h n j k).p,0):=by have hsp:=hp.space;rw[QdB,Zp aa,Xa,hw,XR (show¬(k:Int)<1 by omega),Wa,XR (show¬h.s<0 by omega),Wa,XR (show¬h.s>1 by omega),Wa,Xe5 hN hl _ _ k hk aa hr,Xa];rfl
def Xgz{h:Wk}(hb:HB h)(n:Int){j k:Nat}(hk:1<=k)(hj:j+k<=h.p.length):HB (Xbf h n j k):=⟨hb.1,by
 show(Z0 h.p _ j).length<=_
 rw[Vu (by simp_all)];exact hb.2⟩
def XhD(hN:NB N){h:Wk}(hb:HB h){d:Wy}(tm:tW d.Map)(hk0:0<Xy h.c (Xz d)):Qev N h d=QbW N h d:=by
 have hN':1000000<N:=by unfold NB at hN;omega
 have hl:=hb.2;rw[Qev,QbW,Yl hl hN',XaF hN'];have⟨b,eb⟩:=Zb (N:=N) hN hb;rw[eb,Xa,Xa];cases b with
 |false=>rfl
 |true=>
 rw[Wo,Wa,Wa,XaH hN',Xa,Xa];cases hv:XI d with
 |false=>rfl
 |true=>
 cases hkd:(d.k != 0)with
 |false=>rfl
 |true=>
 have hp:=Yf hN hb eb;have hcv:=Xl.1 hp.conf;have hvb:=XL hv;have hpages:=hp.pages;have hs:Xz d=d.n+1:=by unfold Xz;rw[Wq hv]
 have hnr:=KB h.c (Xz d);have⟨k,hk⟩:∃k:Nat,Xy h.c (Xz d)=(k:Int):=⟨(Xy h.c (Xz d)).toNat,aa⟩
 have hneed:=XeJ hp.conf (w:=Xz d) aa;rw[hk]at hneed hk0 hnr⊢;have⟨u,eu,hu⟩:=Vk (N:=N) (ps:=h.p) aa aa;have⟨f1,ef1,_⟩:=Y2 (N:=N) (ps:=h.p) 1 aa aa;have⟨f,ef,hf⟩:=Y2 (N:=N) (ps:=h.p) (k:Int) aa aa;have hlim:0<=KA h.c/\KA h.c<=16:=by unfold KA;rw[Wq hp.conf];omega
 have e1:((k:Int) != -1)=true:=by simp
 simp only[e1,Is,Wo,Wa,YI (show 1000<N by omega),X1,Xa,Zp (show 10<=N by omega),hk,Xbe hN hb hp (n:=Xz d) ⟨aa,aa⟩ eu ef1,XF,Wg (show(k:Int)>0 by omega),Wb];rw[Qen,ef,Xa,QeA,Xba,eu,Xa,XiD,Xa,Vq,hk,Xa,Wg (show(k:Int)>0 by omega),Wb,Xbb hN' hl,ef,Xa,XF];by_cases h1:f>=0;case neg=>
  rw[Wh h1,Wa,Xa,Wg (show f<0 by omega),Wb,Xa];rfl
 rw[Wg h1,Wb,XR (show¬f<0 by omega),Wa,XaV];simp only[Xa];rw[Xd (n:=KA h.c-(k:Int)) aa aa,Xd (n:=u+(k:Int)) aa aa];by_cases h2:u<=KA h.c-(k:Int);case neg=>
  rw[Wh h2,Wa,Xa,Wg (show u+(k:Int)>KA h.c by omega),Wb,Xa];rfl
 rw[Wg h2,Wb,XR (show¬u+(k:Int)>KA h.c by omega),Wa,XjK hN' hl];have hrun:RunOK h.p f (k:Int):=by
  rcases hf with hh|hh
  .omega
  exact hh
 obtain⟨j,rfl⟩:∃j:Nat,f=(j:Int):=⟨f.toNat,aa⟩
 have hfit:=hrun.2.2.1;rw[Xgy hN' hl hp aa aa hk hrun];simp only[Xa];have hpr:=Xc5 hN hb eb aa hrun hk;have hHB:=Xgz hb (Xz d) (j:=j) (k:=k) aa aa;have hm:=XW hp.conf (i:=(j:Int)) aa aa;have hw:=hp.words;have hmul:((j:Int)+(k:Int))*h.c.W<=h.c.p*h.c.W:=Ur aa aa;rw[Ip]at hmul;have hin:Yh (Xbf h (Xz d) j k).w (Xg h.c (j:Int) 0) (d.n.toNat+1):=by
  unfold Yh Xg;show _/\_<=4096+(h.w.length:Int);constructor
  .omega
  have:(((d.n.toNat+1:Nat)):Int)=Xz d:=aa;rw[this];omega
 have⟨h2',e2⟩:=Xbd hN hHB hpr hv hin;have ea:wU (wI (4096+wI ((j:Int)*h.c.W)))=Xg h.c (j:Int) 0:=by unfold Xg;rw[Xd (n:=(j:Int)*h.c.W) aa aa,Xd (n:=4096+(j:Int)*h.c.W) aa aa,Xx aa aa];omega
 rw[show((0:Int) != 0)=false from rfl,Wa,Vr,KC,Wn (by rw[hp.conf];simp),Wq aa,Xa];rw[show((0:Int) != 0)=false from rfl,Wa,ea,Wo,Wa];have e3:Qfe N (Wk.mk h.c h.w (Xbf h (Xz d) j k).p h.s h.b) (Xg h.c (j:Int) 0) d=some (h2',0):=(Xc2 hN hHB (by unfold Xg;omega) tm).trans e2;have e4:Qbe N (Wk.mk h.c h.w (Xbf h (Xz d) j k).p h.s h.b) (Xg h.c (j:Int) 0) d=some (h2',0):=e2;simp[e3,e4,Xa]
def XiE(hN:NB N){h:Wk}(hb:HB h){d:Wy}(tm:tW d.Map):Qev N h d=QbW N h d:=by
 have hnr:=KB h.c (Xz d);by_cases h0:Xy h.c (Xz d)=0
 .exact XhC hN hb tm h0
 by_cases h1:0<Xy h.c (Xz d)
 .exact XhD hN hb tm h1
 have hN':1000000<N:=by unfold NB at hN;omega
 have hm:Xy h.c (Xz d) = -1:=aa;rw[Qev,QbW,Yl hb.2 hN',XaF hN',XaH hN',hm];have⟨b,eb⟩:=Zb (N:=N) hN hb;simp[eb,Xa]
end
def GR{β:Type}(N:Nat)(c:WT)(sp n:Int)(ps:List Wt)(tk:List Int)(j4:Int->Int->Int->List Wt->List Int->Option β):Option β:=
 grd (tk.length<=140737488355328) <|
 jn (λ(_:Unit)=>
  bnd (QdF N ps 1) λy5=>
  bif (decide (y5<0))then j4 0 0 3 ps tk
  else bnd (QdE N ps y5 (wI (1-sp))) λy6=>
  bif (y6.2 != 0)then none
  else grd ((tk.length+1)*8<=140737488355328) <|
  j4 y5 0 0 y6.1 (tk++[y5])) λj1=>
 bif (decide ((tk.length:Int)>0))then(bnd (Xb tk (wI ((tk.length:Int)-1))) λp1=>
  bif (decide (p1>=0))then(bnd (Xb tk (wI ((tk.length:Int)-1))) λp2=>
   grd (ps.length<=140737488355328) <|
   bif (decide (p2<(ps.length:Int)))then(bnd (Xb tk (wI ((tk.length:Int)-1))) λp3=>
    bnd (Xb ps p3) λp4=>
    bif (decide (n<=(wI (c.W-p4.u))))then j4 p3 p4.u 0 ps tk
    else j1 ())
   else j1 ())
  else j1 ())
 else j1 ()
def FT{β:Type}(N:Nat)(c:WT)(cp:Int)(ws:List Int)(ps:List Wt)(q:List Int)(xo xe:Int)(j1:Int->Int->Int->List Int->List Wt->List Int->Option β)(i u:Int):Option β:=
 bnd (Qdb N c i u) λy24=>
 bif (y24.2 != 0)then j1 0 y24.2 cp ws ps q
 else grd ((xe.toNat-xo.toNat)<=140737488355328) <|
 bnd (Qch N c y24.1) λy25=>
 bif (y25.2.2 != 0)then(bnd (QbT N y24.1) λy28=>
  j1 0 19 cp ws ps q)
 else grd (ws.length<=140737488355328) <|
 bif (decide ((((xe.toNat-xo.toNat):Nat):Int)>(wI ((ws.length:Int)-(wI ((wI (y25.1*c.W))+y25.2.1))))))then(bnd (QbT N y24.1) λy29=>
  j1 0 19 cp ws ps q)
 else grd (0<=(wI ((wI (y25.1*c.W))+y25.2.1))/\(wI ((wI (y25.1*c.W))+y25.2.1))<=(wI ((wI ((wI (y25.1*c.W))+y25.2.1))+(((xe.toNat-xo.toNat):Nat):Int)))/\(wI ((wI ((wI (y25.1*c.W))+y25.2.1))+(((xe.toNat-xo.toNat):Nat):Int)))<=(ws.length:Int)) <|
 bnd (QbT N y24.1) λy30=>
 bif (y30.2 != 0)then j1 0 19 cp ws ps q
 else grd ((xe.toNat-xo.toNat)<=((wI ((wI ((wI (y25.1*c.W))+y25.2.1))+(((xe.toNat-xo.toNat):Nat):Int))).toNat-(wI ((wI (y25.1*c.W))+y25.2.1)).toNat)) <|
 bnd (Km (((ws.take (wI ((wI (y25.1*c.W))+y25.2.1)).toNat)++((ws.drop xo.toNat).take (xe.toNat-xo.toNat)))++(ws.drop ((wI ((wI (y25.1*c.W))+y25.2.1)).toNat+(xe.toNat-xo.toNat)))) (xo.toNat) (xe.toNat-xo.toNat) 0) λp31=>
 bnd (Xb ps i) λp32=>
 grd ((xe.toNat-xo.toNat)<=140737488355328) <|
 bnd (Xb ps i) λp33=>
 grd ((q.length+1)*8<=140737488355328) <|
 j1 y24.1 0 (wI (cp+1)) ((((ws.take (wI ((wI (y25.1*c.W))+y25.2.1)).toNat)++((ws.drop xo.toNat).take (xe.toNat-xo.toNat)))++(ws.drop ((wI ((wI (y25.1*c.W))+y25.2.1)).toNat+(xe.toNat-xo.toNat)))).set xo.toNat y30.1) (ps.set i.toNat (Wt.mk p33.k p33.s (wI (p32.u+(((xe.toNat-xo.toNat):Nat):Int))) p33.P)) (q++[y24.1])
section
variable {N:Nat}
def Vv(l:List Int)(x:Int)(hl:l.length<=1000000)(hN:1000000<N):Qah N l x=some (l.contains x):=by
 rw[Qah,QbI];rw[Jl (p:=λy:Int=>(x==y)) hl hN (λn j y e=>by
  have hk:=XC e
  rw[Qax,Xk hk,Wb,Xe,e,Xa,Xf aa]) (λn=>by rw[Qax,Xw,Wa])]
 rw[Xa,Ke,List.contains_eq_any_beq]
def XjN(l:List Int)(x:Int)(hl:l.length<=1000000)(hN:1000000<N):Qa6 N l x=some (l.contains x):=by
 rw[Qa6,Qej];rw[Jl (p:=λy:Int=>(x==y)) hl hN (λn j y e=>by
  have hk:=XC e
  rw[QbC,Xk hk,Wb,Xe,e,Xa,Xf aa]) (λn=>by rw[QbC,Xw,Wa])]
 rw[Xa,Ke,List.contains_eq_any_beq]
def XjO(w:WD)(i:Int)(hl:w.t.length<=1000000)(hN:1000000<N):QgK N w i=some (w.t.contains i):=by
 have h:∀(n k:Nat),k<=w.t.length->w.t.length-k<n->QcV N w i n (k:Int)=some (bif (w.t.drop k).contains i then .ret true else .nxt ()):=by
  intro n;induction n with
  |zero=>omega
  |succ n ih=>
   intro k hk hn;by_cases h:k<w.t.length
   .rw[QcV,Xk h,Wb,Xe,Wc h,Xa,Xf aa,Wr h,List.contains_cons];by_cases e:w.t[k]=i
    .rw[XN e,Wb,XN e.symm,Bool.true_or,Wb]
    rw[XG e,Wa,XG (λh=>e h.symm),U9];exact ih (k+1) aa aa
   obtain rfl:k=w.t.length:=aa;rw[QcV,Xw,Wa,UE (Un _)];rfl
 have h:=h N 0 aa aa;rw[show((0:Nat):Int)=0 from rfl,WX]at h;rw[QgK,h,Xa];cases w.t.contains i
 .rw[Wa,Xm]
 simp[Wb,XA]
def Xc6(hN:1000000<N){v:Int}(hv:tU v):QeP N v=Qcv N v:=by
 obtain⟨m,rfl⟩:∃m,N=m+5:=⟨N-5,aa⟩
 have⟨h0,h1⟩:=hv;have i1:wI (0+1)=1:=Xd aa aa;have i2:wI (1+1)=2:=Xd aa aa;have j1:wI (64-2)=62:=Xd aa aa;have j2:wI (62-32)=30:=Xd aa aa;have l2:([(2:Int),32].length:Nat)=2:=rfl;have g0:Xb [(2:Int),32] 0=some 2:=by unfold Xb;rfl
 have g1:Xb [(2:Int),32] 1=some 32:=by unfold Xb;rfl
 have e1:QaQ (m+5) v [2,32] (m+5) 64 0=some (.nxt ()):=by rw[QaQ,l2,g0];simp only[Xa,i1,j1];rw[QaQ,l2,g1];simp only[Xa,i2,j2];rw[QaQ,l2];rfl
 have o1:QcY (m+5) 2=some 3:=Je aa aa aa;have o3:QcY (m+5) 32=some 4294967295:=Je aa aa aa;have s1:YA .u64 v 2=v / 4:=YQ v 2 aa h0;have s2:YA .u64 (v / 4) 32=v / 4 / 4294967296:=YQ (v / 4) 32 aa aa;have a1:Zc .u64 v 3=v % 4:=YR v 2 aa h0 h1;have a2:Zc .u64 (v / 4) 4294967295=v / 4 % 4294967296:=YR (v / 4) 32 aa aa aa;have e2:QaR (m+5) [2,32] (m+5) v 0 []=some (v / 4 / 4294967296,[v % 4,v / 4 % 4294967296]):=by rw[QaR,l2,g0];rw[Wg aa,Wb,Xa,o1,Xa,Xc ab,Xc aa,s1,a1,i1];rw[QaR,l2,g1];rw[Wg aa,Wb,Xa,o3,Xa,Xc ab,Xc aa,s2,a2,i2];rw[QaR,l2];rw[Wh aa,Wa];rfl
 rw[QeP,Qfa,e1,Xa,Xm,e2,Xa,Qcv,s1,If h0];by_cases h:v / 4 / 4294967296=0
 .rw[h];by_cases h2:v % 4=2
  .rw[h2];have:v / 4 % 4294967296=v / 4:=aa;rw[this,Wh aa];rw[show((0:Int) != 0)=false from rfl,Wa,Xa];rw[show Xb [(2:Int),v / 4] 0=some 2 by unfold Xb;rfl,Xa,show Xb [(2:Int),v / 4] 1=some (v / 4) by unfold Xb;rfl,Xa];rfl
  rw[X2 h2,Wb];rw[show((0:Int) != 0)=false from rfl,Wa,Xa];show bnd (Xb [v % 4,v / 4 % 4294967296] 0) _=_;rw[show Xb [v % 4,v / 4 % 4294967296] 0=some (v % 4) by unfold Xb;rfl,Xa,X2 h2,Wb]
 rw[X2 h,Wb,Xa];grind
def XgA(hN:1000000<N){a:Int}(a0:0<=a)(a1:a<4294967296):QbT N a=QcI N a:=by
 rw[QbT,Je aa aa aa,Xa,QcI,Wh (by show¬a>4294967295;omega),Wh aa,Wa,Wa];obtain⟨n,rfl⟩:∃n,N=n+5:=⟨N-5,aa⟩
 generalize hL:[(U2.mk 2 2),(U2.mk 32 a)]=L;have l3:L.length=2:=by rw[←hL];rfl
 have g0:Xb L 0=some (U2.mk 2 2):=by rw[←hL];unfold Xb;rfl
 have g1:Xb L 1=some (U2.mk 32 a):=by rw[←hL];unfold Xb;rfl
 have i1:wI (0+1)=1:=Xd aa aa;have i2:wI (1+1)=2:=Xd aa aa;have j1:wI (64-2)=62:=Xd aa aa;have j2:wI (62-32)=30:=Xd aa aa;have k2:wI (0+2)=2:=Xd aa aa;have k3:wI (2+32)=34:=Xd aa aa;have e1:Qbg (n+5) L (n+5) 64 0=some (.nxt ()):=by rw[Qbg,l3,g0];simp only[Xa,i1,j1];rw[Qbg,l3,g1];simp only[Xa,i2,j2];rw[Qbg,l3];rfl
 have f0:QdQ (n+5) 2 2=some true:=Xbc aa aa aa aa ae;have f1:QdQ (n+5) a 32=some true:=Xbc aa aa aa a0 (by show a<4294967296;omega);have s0:ZQ .u64 2 0=2:=by decide +kernel
 have s1:ZQ .u64 a 2=a*2 ^ 2:=by show wU (a*4)=a*4;exact Xx aa aa
 have o0:bOr .u64 0 2=2:=by decide +kernel
 have o1:bOr .u64 2 (a*2 ^ 2)=2+a*2 ^ 2:=XbW aa aa ae a0 aa;have e2:Qbh (n+5) L (n+5) 0 0 0=some (.nxt (2+a*2 ^ 2)):=by rw[Qbh,l3,g0];simp only[Xa,f0,i1,k2,s0,o0];rw[Wg aa,Wb,Wo,Wa,Xc aa];rw[Qbh,l3,g1];simp only[Xa,f1,i2,k3,s1,o1];rw[Wg aa,Wb,Wo,Wa,Xc aa];rw[Qbh,l3];rw[Wh aa,Wa]
 rw[Qgj,e1,Xa,Xm,e2,Xa,Xm,Xa,Xx (n:=4*a) aa aa,Xx aa aa];grind
end
section
variable {N:Nat}{h0:Wk}{l:List Int}
structure OA(h0:Wk)(w:WD)(n j u:Int)(ps:List Wt):Prop where
 rng:0<=j/\j<ps.length
 len:ps.length=w.h.p.length
 fit:0<=u/\u+n<=h0.c.W
 used:(pg ps j).u=u
 sp:∀i,0<=i->pg ps i=pg w.h.p i\/(pg ps i).s=1-h0.s
def Xqa(hN:NB N)(hb:HB h0)(hp:Us h0){w:WD}(hc:CI h0 l w){n:Int}(hn:1<=n)(hn2:n<=h0.c.W){β:Type}(j4:Int->Int->Int->List Wt->List Int->Option β):
 (∃r,Qcw N w n=some r/\r.2.2=false/\GR N h0.c h0.s n w.h.p w.t j4=j4 0 0 3 w.h.p w.t) \/
 ∃j u ps tk,OA h0 w n j u ps/\Qcw N w n=some (⟨⟨w.h.c,w.h.w,ps.set j.toNat ⟨(pg ps j).k,(pg ps j).s,wI ((pg ps j).u+n),(pg ps j).P⟩,w.h.s,w.h.b⟩,w.o,tk,w.q,w.d,w.r⟩,Xg h0.c j u,true) /\
  GR N h0.c h0.s n w.h.p w.t j4=j4 j u 0 ps tk:=by
 have hN':=hN;unfold NB at hN';have hpl:=hc.plen;have hv:=Xl.1 hp.conf;have htl:=hc.tl hb;have hpp:=hp.pages;have hsp:=hp.space;have hws:=hc.spc;have ad:∀j u:Int,0<=j->j<w.h.p.length->0<=u->u+n<=h0.c.W->wU (wI (wI (4096+wI (j*w.h.c.W))+u))=Xg h0.c j u:=by intro j u h1 h2 h3 h4;have hm:=XW hp.conf (i:=j) h1 aa;rw[hc.conf,Xd (n:=j*h0.c.W) aa aa,Xd (n:=4096+j*h0.c.W) aa aa,Xd aa aa,Xx aa aa];rfl
 rw[Qcw,GR];rw[Xc aa,Xc aa,XF,XF];have new:(∃r,(bnd (Qbi N w.h.p 1) λy4=>
  bif (decide (y4<0))then some ((WD.mk zHp [] [] [] 0 (WM.mk 0 0 0 0 0 0)),0,false)
  else bnd (Qbz N w.h.p y4 (wI (1-w.h.s))) λy5=>
  grd (w.t.length*8<=140737488355328) <|
  grd ((w.t.length+1)*8<=140737488355328) <|
  bnd (Xb y5.1 y4) λp13=>
  bnd (Xb y5.1 y4) λp14=>
  bnd (Xb y5.1 y4) λp15=>
  some ((WD.mk (Wk.mk w.h.c w.h.w (y5.1.set y4.toNat (Wt.mk p15.k p15.s (wI (p14.u+n)) p15.P)) w.h.s w.h.b) w.o (w.t++[y4]) w.q w.d w.r),(wU (wI ((wI (4096+(wI (y4*w.h.c.W))))+p13.u))),true))=some r/\r.2.2=false /\
   (bnd (QdF N w.h.p 1) λy44=>
    bif (decide (y44<0))then j4 0 0 3 w.h.p w.t
    else bnd (QdE N w.h.p y44 (wI (1-h0.s))) λy45=>
    bif (y45.2 != 0)then none
    else grd ((w.t.length+1)*8<=140737488355328) <|
    j4 y44 0 0 y45.1 (w.t++[y44]))=j4 0 0 3 w.h.p w.t) \/
  ∃j u ps tk,OA h0 w n j u ps/\(bnd (Qbi N w.h.p 1) λy4=>
  bif (decide (y4<0))then some ((WD.mk zHp [] [] [] 0 (WM.mk 0 0 0 0 0 0)),0,false)
  else bnd (Qbz N w.h.p y4 (wI (1-w.h.s))) λy5=>
  grd (w.t.length*8<=140737488355328) <|
  grd ((w.t.length+1)*8<=140737488355328) <|
  bnd (Xb y5.1 y4) λp13=>
  bnd (Xb y5.1 y4) λp14=>
  bnd (Xb y5.1 y4) λp15=>
  some ((WD.mk (Wk.mk w.h.c w.h.w (y5.1.set y4.toNat (Wt.mk p15.k p15.s (wI (p14.u+n)) p15.P)) w.h.s w.h.b) w.o (w.t++[y4]) w.q w.d w.r),(wU (wI ((wI (4096+(wI (y4*w.h.c.W))))+p13.u))),true))=some (⟨⟨w.h.c,w.h.w,ps.set j.toNat ⟨(pg ps j).k,(pg ps j).s,wI ((pg ps j).u+n),(pg ps j).P⟩,w.h.s,w.h.b⟩,w.o,tk,w.q,w.d,w.r⟩,Xg h0.c j u,true) /\
   (bnd (QdF N w.h.p 1) λy44=>
    bif (decide (y44<0))then j4 0 0 3 w.h.p w.t
    else bnd (QdE N w.h.p y44 (wI (1-h0.s))) λy45=>
    bif (y45.2 != 0)then none
    else grd ((w.t.length+1)*8<=140737488355328) <|
    j4 y44 0 0 y45.1 (w.t++[y44]))=j4 j u 0 ps tk:=by
  obtain⟨j,ej,hj⟩:=Y2 (N:=N) (ps:=w.h.p) 1 aa aa
  rw[Xbb aa aa,ej,Xa,Xa]
  rcases hj with rfl|hr
  .exact .inl ⟨_,rfl,rfl,rfl⟩
  .refine .inr ?_
   obtain⟨y,ey,hy⟩:=Xcs (N:=N) (ps:=w.h.p) j (1-h0.s) aa aa
   have hy0:=hy.2.2 hr aa aa
   have⟨q0,q1,q2,q3⟩:=hy.1 hy0
   have hjl:j<y.1.length:=aa
   have g:pg y.1 j=⟨1,1-h0.s,0,0⟩:=by rw[q3 j q0,Wq rfl]
   rw[Xd (n:=1-h0.s) aa aa,Xeb aa aa,hws,Xd (n:=1-h0.s) aa aa,ey,Xa,Xa,Wh aa,Wa,Wa,Xc aa,Xc aa,XH q0 hjl,Xa,Xa,Xa,hy0,Xc aa]
   refine⟨j,0,y.1,w.t++[j],⟨⟨q0,hjl⟩,aa,⟨aa,aa⟩,by rw[g],λi hi=>?_⟩,?_,rfl⟩
   .by_cases e:i=j
    .subst e;rw[g];exact .inr rfl
    .rw[q3 i hi,Wn e,Wn aa];exact .inl rfl
   .rw[show(pg y.1 j).u=0 by rw[g],ad j 0 q0 aa aa aa]
 by_cases ht:0<(w.t.length:Int)
 .rw[Wg aa,Wb,Wb,Xd (n:=(w.t.length:Int)-1) aa aa];have hi:=Yj (l:=w.t) (i:=(w.t.length:Int)-1) aa aa;generalize w.t[((w.t.length:Int)-1).toNat]'aa=j at hi;have⟨t0,t1,t2,t3,t4⟩:=hc.tk j (Yy hi);rw[hi,Xa,Xa,Xa,Xa,Xa,XH t0 t1,Xa,Xa,Xa,Xa,Xa,Wg (p:=j>=0) t0,Wb,Xc aa,Wg (p:=j<_) t1,Wb,hc.conf];have e1:=Xd (n:=(pg w.h.p j).u+n) aa aa;have e2:=Xd (n:=h0.c.W-(pg w.h.p j).u) aa aa;by_cases hle:(pg w.h.p j).u+n<=h0.c.W
  .rw[e1,e2,Wg (p:=(pg w.h.p j).u+n<=h0.c.W) hle,Wg (p:=n<=h0.c.W-(pg w.h.p j).u) aa,Wb,Wb];refine .inr ⟨j,(pg w.h.p j).u,w.h.p,w.t,⟨⟨t0,t1⟩,rfl,⟨t3,hle⟩,rfl,λi _=>.inl rfl⟩,?_,rfl⟩;have:=ad j (pg w.h.p j).u t0 t1 t3 hle;rw[hc.conf]at this;rw[this,e1]
  rw[e1,e2,Wh (p:=(pg w.h.p j).u+n<=h0.c.W) hle,Wh (p:=n<=h0.c.W-(pg w.h.p j).u) aa,Wa,Wa];rw[hc.conf]at new;exact new
 grind
def Xqb(hN:NB N)(hb:HB h0)(hp:Us h0){w:WD}(hc:CI h0 l w){n:Int}(hn:1<=n)(hn2:n<=h0.c.W):
 (∃r,Qcw N w n=some r/\r.2.2=false/\Qcl N w n=some (0,0,3,w.h.p,w.t)) \/
 ∃j u ps tk,OA h0 w n j u ps/\Qcw N w n=some (⟨⟨w.h.c,w.h.w,ps.set j.toNat ⟨(pg ps j).k,(pg ps j).s,wI ((pg ps j).u+n),(pg ps j).P⟩,w.h.s,w.h.b⟩,w.o,tk,w.q,w.d,w.r⟩,Xg h0.c j u,true) /\
  Qcl N w n=some (j,u,0,ps,tk):=by
 have h:=Xqa hN hb hp hc hn hn2 λx7 x8 x9 x10 x11=>some (x7,x8,x9,x10,x11);have e:Qcl N w n=GR N h0.c h0.s n w.h.p w.t λx7 x8 x9 x10 x11=>some (x7,x8,x9,x10,x11):=by rw[←hc.conf,←hc.spc,Qcl,XF];rfl
 simp_all
end
end Go.Sx
